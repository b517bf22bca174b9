import PyProof.Rows.All
import Wide.All
import OpenK.AllK
import Wide.FinOn
import KE.SortData
import HandS.ForMost
import HandS.SetFor
import HandS.DictTup
import KE.KDictPairs
import KE.KDictDisplayH
import HandS.Base
import HandS.Call
import HandS.List
import HandS.Words
import HandS.Dict
import HandS.Strs
import HandS.TupAny
import KE.GoesEnum
import KE.KStateDown
import KE.KExcInit
import KE.KTryMore
import HandS.Ends
import HandS.More
import HandS.WordsExc
import HandS.Defaults
import HandS.Head0
import HandS.Head1
import HandS.Head2
import HandS.HeadEnd
import HandS.HeadHook1
import HandS.HeadHook2
import HandS.HeadHook3
import HandS.HeadHook4
import PySem.Challenge.RW_shelflikes_k76_whole_a_library_made_anew
import HandS.Zip
import HandS.Walk
import HandS.ExcInit
import PyProof.CollectIter
import HandS.Finally
import HandS.Style
import HandS.IsInst
import HandS.OwnEq
import PyProof.FitsReplace
import HandS.Deep
set_option Elab.async false
set_option linter.all false
set_option maxRecDepth 100000
set_option maxHeartbeats 0
/-! sorted: of what is collected; of a tuple of texts; of set(a tuple of texts); of a dict's items, texts to ints -/
namespace PySem
namespace ShS
open PySem PySem.W PySem.Calls PyProof.Rows
section
variable {P : Program} {w : World} {A : Around} {E : Value → Shared → Prop} {s : Shared} {β : Type}
/-- the sort of the list just collected -/
theorem sort_tail {vs : List Value} {bs : List β} {enc : β → PyData} {R : Value → β → Prop} {Q : Value → Shared → Prop} (e : EachIs R vs bs) (er : EachIs (fun v b => ∃ as, Reads s.heap v (enc b) as ∧ s.heap.objs.size ∉ as) vs bs)
    (hal : AllAlike (bs.map enc)) (hk : Sortable (bs.map enc)) (hL : bs.length ≤ sizeLine) (hu : ∀ b, b ∈ bs → A.units + 2 + (enc b).depth < cLine)
    (h : ∀ (out : List Value) (c : Nat) (h2 : Heap), out.length = bs.length → EachIs R out (bs.mergeSort (dataLe false enc)) → (∀ b o, s.heap.get? b = some o → h2.get? b = some o) → h2.get? s.heap.objs.size = some (seqObj "list" out.toArray c) →
      Q (.ref s.heap.objs.size) { s with heap := h2 }) :
    wpAny (model P w) A.in1 (call (.builtin "list.sort") [.ref s.heap.objs.size]) (fun _ s' => Q (.ref s.heap.objs.size) s') E { s with heap := s.heap.push (seqObj "list" vs.toArray 0) } := by
  have ho : (s.heap.push (seqObj "list" vs.toArray 0)).get? s.heap.objs.size = some (seqObj "list" vs.toArray 0) := Heap.get?_push_size _ rfl
  have er' : EachIs (fun v b => ∃ as, Reads (s.heap.push (seqObj "list" vs.toArray 0)) v (enc b) as ∧ s.heap.objs.size ∉ as) vs bs :=
    er.mono fun _ _ ⟨as, r, hn⟩ => ⟨as, PyProof.Rows.Reads.keeps (fun _ _ q => Heap.get?_push_of_some _ q) r, hn⟩
  refine list_sort_data (A := A.in1) (s := { s with heap := s.heap.push (seqObj "list" vs.toArray 0) }) ho e er' hal hk hL (fun b hb => ?_) fun out hlen hR => ?_
  · have := hu b hb
    show A.units + 1 + 1 + (enc b).depth < cLine
    omega
  · obtain ⟨c, hc⟩ := sortedHeap_at (vs := vs) (out := out.toArray) ho
    refine h out c _ hlen hR (fun b o q => ?_) hc
    have hlt := Heap.lt_size q
    show (sortedHeap (s.heap.push (seqObj "list" vs.toArray 0)) s.heap.objs.size vs out.toArray).get? b = some o
    rw [sortedHeap_old (Nat.ne_of_lt hlt) (by rw [size_push']; exact Nat.lt_succ_of_lt hlt)]
    exact Heap.get?_push_of_some _ q
/-- sorted(x), by what collecting x gives -/
theorem sorted_collected {x : Value} {Q : Value → Shared → Prop}
    (hc : wpAny (model P w) A.in1 (collect x) (fun vs s1 => vs.length ≤ sizeLine ∧ wpAny (model P w) A.in1 (call (.builtin "list.sort") [.ref s1.heap.objs.size]) (fun _ s' => Q (.ref s1.heap.objs.size) s') E { s1 with heap := s1.heap.push (seqObj "list" vs.toArray 0) }) E s) :
    wpAny (model P w) A (call (.builtin "sorted") [x]) Q E s := by
  refine call_function_entry kind_sorted plain_sorted entry_sorted (args_sorted1 _) ?_
  unfold Builtin.«sorted»
  refine wpAny_bind (m := checkCount "sorted" 1 1 _) (wpAny_pure ?_)
  refine wpAny_bind (wpAny_mono hc (fun vs s1 hh => ?_) fun _ _ z => z)
  obtain ⟨hl, hq⟩ := hh
  refine wpAny_bind (wpAny_newList ?_ hl)
  refine wpAny_bind (wpAny_holding (wpAny_mono hq (fun _ s' z => ?_) fun _ _ z => z))
  exact wpAny_pure ⟨_, rfl, z⟩
end
/-- values that are these texts -/
theorem texts_each {h : Heap} {a : Addr} : ∀ {vs : List Value} {zs : List Str}, EachIs (fun (v : Value) (z : Str) => ∃ t, v = .str z t) vs zs → EachIs (fun v z => ∃ as, Reads h v (PyData.str z) as ∧ a ∉ as) vs zs
  | _, _, .nil => .nil
  | _, _, .cons ⟨t, e⟩ r => .cons ⟨[], by rw [e]; exact Reads.str _ t, by simp⟩ (texts_each r)
/-! ### a set of texts -/
def GoodX (w : World) (e : Int × Value) : Prop := ∃ x tk, e.2 = Value.str x tk ∧ e.1 = hashStr w x
/-- texts, at most n of them, at a -/
def SetX (w : World) (h : Heap) (a : Addr) (n : Nat) : Prop :=
  ∃ o es ep t, h.get? a = some o ∧ o.ExactSet ∧ o.data = .set es ep t ∧ (∀ e ∈ es.toList, GoodX w e) ∧ es.size ≤ n ∧ es.size < scanBound ∧ t.fits es.size = true ∧ L2.Ris t.place.toList ∧ (w.params.followText "set-order" = true ∨ t.led = true)
theorem SetX.at {w : World} {h h' : Heap} {a : Addr} {n : Nat} (R : SetX w h a n) (k : ∀ o, h.get? a = some o → h'.get? a = some o) : SetX w h' a n := by
  obtain ⟨o, es, ep, t, ho, r⟩ := R
  exact ⟨o, es, ep, t, k o ho, r⟩
theorem setX_zero {w : World} {h : Heap} {a : Addr} (ho : h.get? a = some { cls := .type "set", dict := none, data := .set #[] 0 (.fresh 0 0 (!w.params.followText "set-order")) }) : SetX w h a 0 := by
  refine ⟨_, #[], 0, _, ho, ⟨rfl, rfl, rfl⟩, rfl, (fun e he => by simp at he), Nat.le_refl _, (by decide), rfl, List.Pairwise.nil, ?_⟩
  show _ ∨ (!w.params.followText "set-order") = true
  cases w.params.followText "set-order" with
  | false => exact .inr rfl
  | true => exact .inl rfl
theorem goodX_elems {P : Program} {w : World} {l : List (Int × Value)} (g : ∀ e ∈ l, GoodX w e) : ElemsOf (PySem.strKind P w) l := fun e he => by
  obtain ⟨x, tk, h1, h2⟩ := g e he
  exact ⟨⟨x, by rw [h1]; exact strKind_is P w x tk, h2⟩, by rw [h1] <;> rfl⟩
section
variable {P : Program} {w : World} {A : Around} {E : Value → Shared → Prop} {s : Shared} {a : Addr} {n : Nat}
theorem addX_tail {g : Bool → Sem Unit} (hg : ∀ (b : Bool) (s₁ : Shared) (Q' : Unit → Shared → Prop), Q' () s₁ → wpAny (model P w) A (g b) Q' E s₁)
    {o : Obj} {es es1 : Array (Int × Value)} {ep : Nat} {t t2 : SetTable} (ho : s.heap.get? a = some o) (hex : o.ExactSet) (hd : o.data = .set es ep t) (g1 : ∀ e ∈ es1.toList, GoodX w e) (hn : es1.size ≤ n)
    (hb1 : es1.size < scanBound) (hf2 : t2.fits es1.size = true) (hr : L2.Ris t2.place.toList) (hl : w.params.followText "set-order" = true ∨ t2.led = true) {wasDummy : Bool} {R : Option Bool → Shared → Prop}
    (hR : ∀ h', Heap.SameBut a s.heap h' → SetX w h' a n → R (some true) { s with heap := h' }) :
    wpAny (model P w) A (do
        storeSet a es1 t2
        if (!wasDummy && t2.tooFull) = true then do
            g (relayAll t2 es1 (SetTable.grown es1.size)).2.2
            storeSet a (relayAll t2 es1 (SetTable.grown es1.size)).1 (relayAll t2 es1 (SetTable.grown es1.size)).2.1
            pure (some true)
          else pure (some true)) R E s := by
  refine wpAny_bind (wpAny_storeSet_of ho hd ?_ (fits_of_scanBound hb1))
  have ho1 := L2.store_at (es' := es1) (t' := t2) ho hd
  have sb1 := Heap.SameBut.update s.heap a (Obj.putSet es1 t2)
  split
  · have pm := relayAll_perm t2 es1 (SetTable.grown es1.size)
    have hf3 := relayAll_fits t2 es1 (SetTable.grown es1.size)
    have hr3 := L2.relayAll_ris t2 es1 (SetTable.grown es1.size)
    have hl3 := L2.relayAll_led t2 es1 (SetTable.grown es1.size)
    generalize relayAll t2 es1 (SetTable.grown es1.size) = Z at pm hf3 hr3 hl3 ⊢
    obtain ⟨es2, t3, gave⟩ := Z
    dsimp only at pm hf3 hr3 hl3 ⊢
    have hsz : es2.size = es1.size := by rw [← Array.length_toList, pm.length_eq, Array.length_toList]
    refine wpAny_bind (hg _ _ _ ?_)
    refine wpAny_bind (wpAny_storeSet_of ho1 rfl ?_ (fits_of_scanBound (by rw [hsz]; exact hb1)))
    have ho2 := L2.store_at (es' := es2) (t' := t3) ho1 rfl
    refine wpAny_pure (hR _ (sb1.trans (Heap.SameBut.update _ a _)) ?_)
    exact ⟨_, es2, _, t3, ho2, hex, rfl, fun e he => g1 e (pm.mem_iff.mp he), by rw [hsz]; exact hn, by rw [hsz]; exact hb1, hf3, hr3, hl.imp id fun z => by rw [hl3]; exact z⟩
  · exact wpAny_pure (hR _ sb1 ⟨_, es1, _, t2, ho1, hex, rfl, g1, hn, hb1, hf2, hr, hl⟩)
theorem addX {x : Str} {tk : Tok} {Q : Bool → Shared → Prop} (R : SetX w s.heap a n) (room : n + 1 < scanBound)
    (hQ : ∀ b h', Heap.SameBut a s.heap h' → SetX w h' a (n + 1) → Q b { s with heap := h' }) :
    wpAny (model P w) A (setAddHashed a (.str x tk) ((PySem.strKind P w).hash x)) Q E s := by
  obtain ⟨o, es, ep, t, ho, hex, hd, g, hn, hb, hf, hr, hl⟩ := R
  have hkey : (PySem.strKind P w).is x (.str x tk) = true := strKind_is P w x tk
  have hsc : (Value.str x tk).scannable = true := rfl
  have hel : ElemsOf (PySem.strKind P w) es.toList := goodX_elems g
  unfold setAddHashed setAddHashedIn
  refine wpAny_holding (wpAny_bind (wpAny_setState_of ho hd hf ?_))
  dsimp only
  rw [byScan_of hsc hb hel]
  simp only [↓reduceIte]
  unfold setAddByScan
  refine wpAny_bind ?_
  refine wpAny_bind (wpAny_rule ?_)
  refine wpAny_bind (wpAny_setScan_of hkey ho hd hf hel ?_)
  cases hfi : List.findIdx? (fun e => (PySem.strKind P w).is x e.2) es.toList with
  | some j =>
    dsimp only
    refine wpAny_pure (wpAny_pure ?_)
    exact hQ _ s.heap (Heap.SameBut.refl a s.heap) ⟨o, es, ep, t, ho, hex, hd, g, by omega, hb, hf, hr, hl⟩
  | none =>
    dsimp only
    have hgw : ∀ (b : Bool) {s₁ : Shared} {Q' : Unit → Shared → Prop}, Q' () s₁ → wpAny (model P w) A (match b with | true => rule "set.scan.the-table-gave-way" | false => pure ()) Q' E s₁ := by
      intro b s₁ Q' q
      cases b with
      | true => exact wpAny_rule q
      | false => exact wpAny_pure q
    have pm := layNew_perm t es ((PySem.strKind P w).hash x) (.str x tk)
    have hf1 := layNew_fits t es ((PySem.strKind P w).hash x) (.str x tk)
    have hr1 := L2.layNew_ris t es ((PySem.strKind P w).hash x) (.str x tk) hr
    have hl1 := L2.layNew_led t es ((PySem.strKind P w).hash x) (.str x tk)
    generalize layNew t es ((PySem.strKind P w).hash x) (.str x tk) = Z at pm hf1 hr1 hl1 ⊢
    obtain ⟨es1, t1, wasDummy, gave⟩ := Z
    dsimp only at pm hf1 hr1 hl1 ⊢
    rw [Array.toList_push] at pm
    have g1 : ∀ e ∈ es1.toList, GoodX w e := fun e he => by
      rcases List.mem_append.mp (pm.mem_iff.mp he) with z | z
      · exact g e z
      · rw [List.mem_singleton.mp z]
        exact ⟨x, tk, rfl, rfl⟩
    have hsz : es1.size = es.size + 1 := by
      have q := pm.length_eq
      rw [List.length_append, List.length_singleton, Array.length_toList, Array.length_toList] at q
      exact q
    have hled : w.params.followText "set-order" = true ∨ t1.led = true := hl.imp id fun z => by rw [hl1]; exact z
    refine wpAny_bind (hgw _ ?_)
    split
    · refine wpAny_bind ?_
      rw [hashByValue_scannable 8 hsc]
      refine wpAny_pure ?_
      refine addX_tail (n := n + 1) ?_ ho hex hd g1 (by omega) (by omega) ?_ ?_ ?_ ?_
      · intro b s₁ Q' q
        cases b with
        | true => first | exact wpAny_rule q | exact wpAny_pure q
        | false => first | exact wpAny_pure q | exact wpAny_rule q
      · first | (split <;> first | exact hf1 | exact SetTable.fits_plain_off hf1) | exact hf1
      · first | (split <;> exact hr1) | exact hr1
      · first | (split <;> exact hled) | exact hled
      · intro h' sb r
        dsimp only
        exact wpAny_pure (hQ _ h' sb r)
    · refine wpAny_bind (wpAny_pure ?_)
      simp only [↓reduceIte]
      refine addX_tail (n := n + 1) ?_ ho hex hd g1 (by omega) (by omega) hf1 hr1 hled ?_
      · intro b s₁ Q' q
        cases b with
        | true => first | exact wpAny_rule q | exact wpAny_pure q
        | false => first | exact wpAny_pure q | exact wpAny_rule q
      · intro h' sb r
        dsimp only
        exact wpAny_pure (hQ _ h' sb r)
/-- set.update's loop over a tuple of texts -/
theorem updateX {I : Addr} {fp wr : List Addr} {G : Array GenState → Array GenState → Prop} {m : Nat} {Pv : Nat → Value → Prop} {St : Nat → Shared → Prop} {R : Result → Shared → Prop}
    (W : WalksS P w A.in1 I fp wr G m Pv St) (S : Addr) (hSf : S ∉ fp) (hb : m + 1 < scanBound) (hval : ∀ i v, Pv i v → ∃ x t, v = .str x t) :
    ∀ (k i : Nat) (s : Shared), m - i = k → i ≤ m → St i s → SetX w s.heap S i →
      (∀ s', Moved (S :: wr) G s s' → SetX w s'.heap S m → R (.ok (.ret .none)) s') →
      codeAny (model P w) A (.builtin "set.update.loop" ⟨[.ref S, .ref I], []⟩) R s := by
  have hSw : S ∉ wr := fun z => hSf (W.sub _ z)
  have hsub : ∀ b ∈ wr, b ∈ S :: wr := fun b z => List.mem_cons_of_mem _ z
  intro k
  induction k with
  | zero =>
    intro i s hk' hi hst hS hR
    have hin : i = m := by omega
    subst hin
    refine codeAny_builtin PyProof.Rows.F.entry_set_update_loop ?_
    rw [Around.under_plainId PyProof.Rows.F.plain_set_update_loop _]
    show wpAny _ A.in1 (pyNext (.ref I) >>= _) _ _ s
    refine wpAny_bind (W.done s _ _ hst fun s' hm => ?_)
    show wpAny _ A.in1 (ret Value.none) _ _ s'
    exact wpAny_pure (hR s' (hm.mono hsub) (hS.at fun o e => hm.heap S o hSw e))
  | succ k ih =>
    intro i s hk' hi hst hS hR
    have hlt : i < m := by omega
    refine codeAny_builtin PyProof.Rows.F.entry_set_update_loop ?_
    rw [Around.under_plainId PyProof.Rows.F.plain_set_update_loop _]
    show wpAny _ A.in1 (pyNext (.ref I) >>= _) _ _ s
    refine wpAny_bind (W.item i s _ _ hlt hst fun v s' hP hst' hm => ?_)
    obtain ⟨x, t, rfl⟩ := hval i v hP
    have hS' : SetX w s'.heap S i := hS.at fun o e => hm.heap S o hSw e
    show wpAny _ A.in1 (holding [Value.str x t] (setAdd S (.str x t)) >>= _) _ _ s'
    refine wpAny_bind (wpAny_holding ?_)
    unfold setAdd
    refine wpAny_holding ?_
    refine wpAny_bind ((PySem.strKind P w).pyHash (k := x) (strKind_is _ _ _ _) ?_)
    refine addX (s := { s' with toks := s'.toks + 1 }) hS' (by omega) fun _ h' hsb hS2 => ?_
    refine wpAny_pure ⟨plainId_quiet PyProof.Rows.F.plain_set_update_loop _, ih (i + 1) _ (by omega) hlt (W.frame _ s' _ _ hst' (Nat.le_succ _) fun b hb o e => ?_) hS2 fun s'' hm'' hS'' => ?_⟩
    · rw [hsb.2 b (fun z : b = S => hSf (by rw [← z]; exact hb))]
      exact e
    · refine hR s'' (Moved.trans W.gtrans ((hm.mono hsub).then_heap (Nat.le_succ _) fun b o hb e => ?_) hm'') hS''
      rw [hsb.2 b (fun z : b = S => hb (by rw [z]; exact List.mem_cons_self))]
      exact e
end
end ShS
end PySem
namespace PySem
namespace ShS
open PySem PySem.W PySem.Calls PyProof.Rows
section
variable {P : Program} {w : World} {A : Around} {E : Value → Shared → Prop} {s : Shared}
abbrev freshSet (w : World) : Obj := { cls := .type "set", dict := none, data := .set #[] 0 (.fresh 0 0 (!w.params.followText "set-order")) }
set_option maxHeartbeats 6400000 in
/-- set(l), l a tuple of texts -/
theorem call_setX {l : Addr} {items : Array Value} {Q : Value → Shared → Prop} (hh : A.handled = none) (hl : s.heap.IsTuple l items) (hit : ∀ (i : Nat) (v : Value), items[i]? = some v → ∃ x t, v = .str x t) (hb : items.size + 1 < scanBound)
    (h : ∀ (h' : Heap) (tk : Nat), SetX w h' s.heap.objs.size items.size → (∀ b o, s.heap.get? b = some o → h'.get? b = some o) → Q (.ref s.heap.objs.size) { s with heap := h', toks := tk }) :
    wpAny (model P w) A (call (.type "set") [.ref l]) Q E s := by
  obtain ⟨c, tl, hmro⟩ := F.called_set.mro
  have hmade := F.called_set.made
  have hsub := F.called_set.sub
  refine wpAny_call (codeAny_of_tree ?_)
  show wpAny _ _ (callAny (.type "set") _) _ _ _
  refine wpAny_pure ⟨Code.quiet_builtin _ (by decide +kernel), codeAny_builtin F.entry_type_call ?_⟩
  rw [Around.under_plain (weight_type_call_type "set" [.ref l] []) rfl]
  have h1 := F.called_set.notType
  have h2 := F.called_set.canCreate
  have hct := F.typeCall_set_1 (.ref l)
  repeat (any_goals (first | assumption | wp_step))
  refine codeAny_mono (L2.code_set_led1 (.ref l) (E := E) (Q₁ := fun obj s₁ => obj = .ref s.heap.objs.size ∧ s₁ = { s with heap := s.heap.push (freshSet w) }) ⟨rfl, rfl⟩) fun r s₁ hr => ?_
  cases r with
  | error e => exact hr
  | ok fl =>
    cases fl with
    | ret obj =>
      obtain ⟨rfl, rfl⟩ := hr
      have hS : (s.heap.push (freshSet w)).get? s.heap.objs.size = some (freshSet w) := Heap.get?_push_size _ rfl
      have hT : Shared.TypeIs { s with heap := s.heap.push (freshSet w) } (.ref s.heap.objs.size) "set" := ⟨_, hS, rfl⟩
      have hli := F.called_set.init.lookup
      have hbi := F.called_set.init.bind (.ref s.heap.objs.size)
      repeat (any_goals (first | assumption | wp_step))
      refine codeAny_mono (codeAny_call_builtin (R := wants (fun r s₂ => r = .none ∧ ∃ h' tk, s₂ = { s with heap := h', toks := tk } ∧ SetX w h' s.heap.objs.size items.size ∧ (∀ b o, s.heap.get? b = some o → h'.get? b = some o)) E)
        F.called_set.init.plain F.entry_set_init (check_set_init_1 hT ?_)) fun r₂ s₂ hr₂ => ?_
      · obtain ⟨⟨ocls, odict, odata, oslots⟩, hol, hcl, nl, hdl⟩ := hl
        simp only at hcl hdl
        subst hcl
        subst hdl
        have hol' : (s.heap.push (freshSet w)).get? l = some { cls := .type "tuple", dict := odict, data := .seq items nl, slots := oslots } := Heap.get?_push_of_some _ hol
        have hsls := F.sub_tuple_set
        have hslf := F.sub_tuple_frozenset
        have hne : (Value.type "tuple" == Value.type "dict") = false := by decide
        have hl1 : (s.heap.push (freshSet w)).IsTuple l items := ⟨_, hol', rfl, nl, rfl⟩
        unfold Builtin.«set.__init__» noKeywords Builtin.Frozenset.updateFrom
        generalize hPI : pyIter = PI
        wp_walk
        subst hPI
        refine wpAny_pyIter_tuple hl1 ?_
        refine wpAny_bind (wpAny_runValue ?_)
        have hlS : l < s.heap.objs.size := Heap.lt_size hol
        have hh3 : A.in1.in1.in1.handled = none := by simp [hh]
        have hneI : l ≠ (s.heap.push (freshSet w)).objs.size := by
          rw [Heap.size_push]
          exact Nat.ne_of_lt (Nat.lt_succ_of_lt hlS)
        have hSf : s.heap.objs.size ∉ [(s.heap.push (freshSet w)).objs.size, l] := by
          rw [Heap.size_push]
          simp only [List.mem_cons, List.not_mem_nil, or_false, not_or]
          exact ⟨Nat.ne_of_lt (Nat.lt_succ_self _), Nat.ne_of_gt hlS⟩
        refine updateX ((Walks.tuple hh3 _ l hneI items).toS) s.heap.objs.size hSf hb hit (items.size - 0) 0 _ (by omega) (Nat.zero_le _) ⟨⟨_, Heap.get?_push_size _ rfl, rfl, rfl⟩, (hl1.push _)⟩ ?hS0 ?hR
        case hS0 =>
          have hget : ((s.heap.push (freshSet w)).push { cls := .type "tuple_iterator", data := .fields #[.ref l, .int 0 0] }).get? s.heap.objs.size = some (freshSet w) := Heap.get?_push_of_some _ hS
          exact setX_zero hget
        case hR =>
          intro s' hm hS'
          obtain ⟨h', g2, d', tk', os'⟩ := s'
          have eg : g2 = s.gens := hm.gens
          have ed : d' = s.drawn := hm.drawn
          have eo : os' = s.os := hm.os
          subst eg
          subst ed
          subst eo
          show wpAny _ _ _ _ _ _
          refine wpAny_pure ?_
          show wpAny _ _ (ret Value.none) _ _ _
          refine wpAny_pure ⟨rfl, h', tk', rfl, hS', fun b o e => ?_⟩
          have hb0 : b < s.heap.objs.size := Heap.lt_size e
          refine hm.heap b o ?_ (Heap.get?_push_of_some _ (Heap.get?_push_of_some _ e))
          rw [Heap.size_push]
          simp only [List.mem_cons, List.not_mem_nil, or_false, not_or]
          exact ⟨Nat.ne_of_lt hb0, Nat.ne_of_lt (Nat.lt_succ_of_lt hb0)⟩
      · cases r₂ with
        | error e => exact hr₂
        | ok fl₂ =>
          cases fl₂ with
          | ret r =>
            obtain ⟨rfl, h', tk, rfl, hS', hk'⟩ := hr₂
            repeat (any_goals (first | assumption | wp_step))
            exact h _ _ hS' hk'
          | _ => exact hr₂.elim
    | _ => exact hr.elim
end
end ShS
end PySem
namespace Sh
open PySem PySem.Spec PyProof.Rows L2
open PySem.W (EachIs)
theorem each_length {α β : Type} {R : α → β → Prop} : ∀ {as : List α} {bs : List β}, EachIs R as bs → as.length = bs.length
  | _, _, .nil => rfl
  | _, _, .cons _ r => by rw [List.length_cons, List.length_cons, each_length r]
theorem vals_each {zs : List Str} : ∀ {vs : List Value}, Vals (zs.map V.str) vs → EachIs (fun (v : Value) (z : Str) => ∃ t, v = .str z t) vs zs := by
  induction zs with
  | nil =>
    intro vs h
    cases h
    exact .nil
  | cons z zs ih =>
    intro vs h
    cases h with
    | cons r rr => exact .cons r (ih rr)
theorem each_vals : ∀ {vs : List Value} {zs : List Str}, EachIs (fun (v : Value) (z : Str) => ∃ t, v = .str z t) vs zs → Vals (zs.map V.str) vs
  | _, _, .nil => .nil
  | _, _, .cons r rr => .cons r (each_vals rr)
theorem each_all {l : List Value} (h : ∀ v ∈ l, ∃ x t, v = Value.str x t) : ∃ zs : List Str, EachIs (fun (v : Value) (z : Str) => ∃ t, v = .str z t) l zs := by
  induction l with
  | nil => exact ⟨[], .nil⟩
  | cons v l ih =>
    obtain ⟨zs, hz⟩ := ih fun u hu => h u (List.mem_cons_of_mem _ hu)
    obtain ⟨x, t, e⟩ := h v List.mem_cons_self
    exact ⟨x :: zs, .cons ⟨t, e⟩ hz⟩
theorem alike_texts (zs : List Str) : PySem.W.AllAlike (zs.map PyData.str) := PySem.W.AllAlike.of fun a b => by simp [PySem.W.alike]
theorem sortable_texts (zs : List Str) : PySem.W.Sortable (zs.map PyData.str) := PySem.W.Sortable.others fun a => ⟨(by intro z; cases z), (by intro xs z; cases z)⟩
section
variable {X : Cx}
/-- what stands behind a sort of texts -/
theorem texts_sorted {pins : List (Addr × Obj)} {σ : L2.St} {H : Hp} {s1 : Shared} {Q : VK} {vs : List Value} {zs : List Str} {E : Value → Shared → Prop} (hu : X.A.units + 64 < cLine) (I : Inv X pins σ H s1)
    (e : EachIs (fun (v : Value) (z : Str) => ∃ t, v = .str z t) vs zs) (hl : zs.length ≤ sizeLine)
    (q : ∀ (ys : List Str) (p : Addr), ys.Perm zs → H p = none → Q (.ref p) (upd H p (.lst (ys.map V.str)))) :
    wpAny (model X.prog X.w) X.A.in1 (call (.builtin "list.sort") [.ref s1.heap.objs.size]) (fun _ s' => EP X pins σ Q (.ref s1.heap.objs.size) s') E { s1 with heap := s1.heap.push (seqObj "list" vs.toArray 0) } := by
  refine PySem.ShS.sort_tail (enc := PyData.str) e (PySem.ShS.texts_each e) (alike_texts zs) (sortable_texts zs) hl (fun b _ => ?_) fun out c h2 hlen hR k2 hc => ?_
  · have : (PyData.str b).depth = 0 := by simp [PyData.depth]
    omega
  · have hn : H s1.heap.objs.size = none := I.hok.fresh (Nat.le_refl _)
    have hp : (zs.mergeSort (PySem.W.dataLe false PyData.str)).Perm zs := List.mergeSort_perm _ _
    have hv := each_vals hR
    have hlen2 : ((zs.mergeSort (PySem.W.dataLe false PyData.str)).map V.str).length ≤ sizeLine := by
      rw [List.length_map, hp.length_eq]
      exact hl
    have J := I.laid (t' := s1.toks) (a := s1.heap.objs.size) (o := .lst ((zs.mergeSort (PySem.W.dataLe false PyData.str)).map V.str)) k2 (Nat.le_refl _) ⟨hlen2, out, c, hv, hc⟩
    exact ⟨.ref s1.heap.objs.size, _, J, rfl, q _ _ hp hn⟩
/-- sorted(t), t a tuple of texts -/
def rSortTup (K : PySem.W.Frag) : List V → Hp → VK → Prop := fun vs H Q => ∃ (a : Addr) (zs : List Str), vs = [.ref a] ∧ SqT K H a (zs.map V.str) ∧ ∀ (ys : List Str) (p : Addr), ys.Perm zs → H p = none → Q (.ref p) (upd H p (.lst (ys.map V.str)))
theorem cr_sortTup (hu : X.A.units + 64 < cLine) : CallR X (.builtin "sorted") (rSortTup X.K) := by
  intro pins s σ H vs us Q I r h
  obtain ⟨a, zs, rfl, ht, q⟩ := h
  rw [Vals.ref1 r]
  obtain ⟨its, rv, ⟨o, ho, hc, n, hd⟩, hz⟩ := I.tuple ht
  rw [List.length_map] at hz
  have hl : its.length = zs.length := by
    have e := rv.length
    rw [List.length_map] at e
    exact e.symm
  refine PySem.ShS.sorted_collected (wpAny_collect_seq (T := "tuple") a (.inr rfl) ho hc hd (fun h' hk => ?_) (by rw [List.size_toArray, hl]; exact hz))
  refine ⟨by show its.length ≤ sizeLine; rw [hl]; exact hz, ?_⟩
  exact texts_sorted (s1 := { s with heap := h' }) hu (I.kept (t' := s.toks) hk) (vals_each rv) hz q
/-- a set of at most n texts -/
def SetXO (w : World) (a : Addr) (n : Nat) : HO := .ext fun h => PySem.ShS.SetX w h a n
theorem setXO_ok {w : World} {P : Program} {H : Hp} {h : Heap} {a : Addr} {n : Nat} (R : PySem.ShS.SetX w h a n) : ObjOk P w H h a (SetXO w a n) := by
  have ⟨o, _, _, _, ho, _⟩ := R
  exact ⟨R, ⟨o, ho⟩, fun h1 h2 p k => PySem.ShS.SetX.at p k⟩
/-- set(t), t a tuple of texts -/
def rSetTup (K : PySem.W.Frag) (w : World) : List V → Hp → VK → Prop := fun vs H Q => ∃ (a : Addr) (zs : List Str), vs = [.ref a] ∧ SqT K H a (zs.map V.str) ∧ zs.length ≤ 1000 ∧ ∀ p, H p = none → Q (.ref p) (upd H p (SetXO w p zs.length))
theorem cr_setTup (hcalm : X.calm = true) : CallR X (.type "set") (rSetTup X.K X.w) := by
  intro pins s σ H vs us Q I r h
  obtain ⟨a, zs, rfl, ht, hz, q⟩ := h
  rw [Vals.ref1 r]
  obtain ⟨its, rv, p, _⟩ := I.tuple ht
  have hl : its.length = zs.length := by
    have e := rv.length
    rw [List.length_map] at e
    exact e.symm
  have hn : H s.heap.objs.size = none := I.hok.fresh (Nat.le_refl _)
  refine PySem.ShS.call_setX (I.ok.hd hcalm) (show s.heap.IsTuple a its.toArray from p) (fun i v hv => ?_) (by rw [List.size_toArray, hl]; unfold scanBound; omega) fun h' tk R k => ?_
  · have hv' : its[i]? = some v := by simpa using hv
    obtain ⟨hi, e⟩ := List.getElem?_eq_some_iff.mp hv'
    have hi2 : i < (zs.map V.str).length := by rw [rv.length]; exact hi
    obtain ⟨u, hu, ru⟩ := rv.get (List.getElem?_eq_getElem hi2)
    rw [hv'] at hu
    cases hu
    rw [List.getElem_map] at ru
    obtain ⟨t, rfl⟩ := ru
    exact ⟨_, t, rfl⟩
  · have R' : PySem.ShS.SetX X.w h' s.heap.objs.size zs.length := by
      have e : its.toArray.size = zs.length := by rw [List.size_toArray, hl]
      rw [← e]
      exact R
    exact ⟨.ref s.heap.objs.size, _, I.laid (t' := tk) k (Nat.le_refl _) (setXO_ok R'), rfl, q _ hn⟩
/-- sorted(s), s a set of texts: some texts -/
def rSortSetX (w : World) : List V → Hp → VK → Prop := fun vs H Q => ∃ (a : Addr) (n : Nat), vs = [.ref a] ∧ H a = some (SetXO w a n) ∧ n ≤ 1000 ∧ ∀ (ys : List Str) (p : Addr), ys.length ≤ n → H p = none → Q (.ref p) (upd H p (.lst (ys.map V.str)))
theorem cr_sortSetX (hcalm : X.calm = true) (hu : X.A.units + 64 < cLine) : CallR X (.builtin "sorted") (rSortSetX X.w) := by
  intro pins s σ H vs us Q I r h
  obtain ⟨a, n, rfl, ha, hn, q⟩ := h
  rw [Vals.ref1 r]
  have R : PySem.ShS.SetX X.w s.heap a n := (I.hok a _ ha).1
  obtain ⟨o, es, ep, t, ho, hex, hd, g, hes, hb, hf, hr, hl⟩ := R
  refine PySem.ShS.sorted_collected (collect_set (A := X.A.in1) (I.ok.hd hcalm) ⟨o, ho, hex.1, hd⟩ hf hb hr hl fun s1 vs k1 hz g1 o1 pm => ?_)
  have hvl : vs.length = es.size := by rw [pm.length_eq, List.length_map, Array.length_toList]
  obtain ⟨zs, hzs⟩ := each_all (l := vs) fun v hv => by
    obtain ⟨e, he, q⟩ := List.mem_map.mp (pm.mem_iff.mp hv)
    obtain ⟨x, tk, h1, _⟩ := g e he
    exact ⟨x, tk, by rw [← q]; exact h1⟩
  have hzl : zs.length ≤ n := by rw [← each_length hzs, hvl]; exact hes
  have hsl : zs.length ≤ sizeLine := by rw [sizeLine_eq]; omega
  refine ⟨by rw [each_length hzs]; exact hsl, ?_⟩
  obtain ⟨h1, g2, d2, t2, o2⟩ := s1
  have eg : g2 = s.gens := g1
  have eo : o2 = s.os := o1
  subst eg
  subst eo
  have J : Inv X pins σ H ⟨h1, s.gens, d2, t2, s.os⟩ := I.call (g' := s.gens) (t' := t2) (d' := d2) (ch := []) (Un.kept k1) (I.hok.kept k1) I.bare (fun _ z => nomatch z)
  exact texts_sorted hu J hzs hsl fun ys p hp hn' => q ys p (by rw [hp.length_eq]; exact hzl) hn'
end
end Sh
/-! Tuples of which it is known that they have no dict of their own; dict(tuple of pairs); a dict display with one tuple key. -/
namespace Sh
open PySem PySem.Spec PyProof.Rows L2
/-- a tuple without a dict of its own -/
def DN (H : Hp) (a : Addr) (xs : List V) : Prop := ∃ o : Obj, o.dict = none ∧ H a = some (.frz o (.tup xs))
theorem DN.rd {H : Hp} {a : Addr} {xs : List V} (h : DN H a xs) : Rd H a (.tup xs) := let ⟨o, _, e⟩ := h; .inr ⟨o, e⟩
theorem DN.sq {K : PySem.W.Frag} {H : Hp} {a : Addr} {xs : List V} (h : DN H a xs) : SqT K H a xs := .inl h.rd
theorem DN.new {H : Hp} {p : Addr} {o : Obj} {xs : List V} (h : o.dict = none) : DN (upd H p (.frz o (.tup xs))) p xs := ⟨o, h, upd_same⟩
/-- what is wished of a new tuple -/
def NewT (Q : VK) (H : Hp) (xs : List V) : Prop := ∀ p o, H p = none → o.dict = none → Q (.ref p) (upd H p (.frz o (.tup xs)))
section
variable {X : Cx}
theorem lay_tup {pins : List (Addr × Obj)} {σ : L2.St} {H : Hp} {s : Shared} {Q : VK} {us : List Value} {xs : List V} (I : Inv X pins σ H s) (r : Vals xs us) (hz : xs.length ≤ sizeLine) (q : NewT Q H xs) :
    EP X pins σ Q (.ref s.heap.objs.size) { s with heap := s.heap.push { cls := .type "tuple", data := .seq us.toArray } } := by
  have hg : (s.heap.push { cls := .type "tuple", data := .seq us.toArray }).get? s.heap.objs.size = some { cls := .type "tuple", data := .seq us.toArray } := Heap.get?_push_size _ rfl
  refine ⟨.ref s.heap.objs.size, _, I.laid (t' := s.toks) (o := .frz { cls := .type "tuple", data := .seq us.toArray } (.tup xs)) (fun b u e => Heap.get?_push_of_some _ e) (Nat.le_refl _) ⟨hg, hz, us, r, ⟨_, hg, rfl, _, rfl⟩⟩, rfl, q _ _ (I.hok.fresh (Nat.le_refl _)) rfl⟩
theorem pe_tupN {es : List Expr} {t : TA} {x1} {pos : Pos} (h : PA X es t) : PE X (.Tuple es x1 pos) (fun σ H Q => t σ H fun xs H1 => xs.length ≤ sizeLine ∧ NewT Q H1 xs) := by
  refine ⟨fun pins s σ H Q I hq => ?_⟩
  exact wpAny_Tuple_spliced (thn (h.run pos pins s σ H _ I hq) fun us s1 ⟨xs, H1, I1, r, z, q⟩ => ⟨by rw [← r.length]; exact z, lay_tup I1 r z q⟩)
/-- tuple(list), tuple(tuple) -/
def rTupN (K : PySem.W.Frag) : List V → Hp → VK → Prop := fun vs H Q => ∃ (p : Addr) (ys : List V), vs = [.ref p] ∧ ((SqL K H p ys ∧ NewT Q H ys) ∨ (SqT K H p ys ∧ Q (.ref p) H))
theorem cr_tupN : CallR X (.type "tuple") (rTupN X.K) := by
  intro pins s σ H xs us Q I r h
  obtain ⟨p, ys, rfl, h⟩ := h
  obtain ⟨u, rfl, rx⟩ := vals1 r
  cases rx
  rcases h with ⟨hq, q⟩ | ⟨hq, q⟩
  · obtain ⟨its, r', pl, hz⟩ := I.list hq
    have hlen := r'.length
    refine call_tuple_list pl.isList (fun h' kp => ?_) (by simp only [List.size_toArray] <;> omega)
    have I1 : Inv X pins σ H { s with heap := h' } := I.kept (t' := s.toks) kp
    exact lay_tup I1 r' hz q
  · obtain ⟨its, r', pl, hz⟩ := I.tuple hq
    exact call_tuple_same pl ⟨.ref p, H, I, rfl, q⟩
/-- t[lo:hi]; the whole of it is t itself -/
def rSlN (K : PySem.W.Frag) : V → Option Int → Option Int → Hp → VK → Prop := fun x lo hi H Q => ∃ a xs, x = .ref a ∧ SqT K H a xs ∧
  (HT.sIx xs.length 0 lo = 0 ∧ HT.sIx xs.length xs.length hi = xs.length → Q (.ref a) H) ∧ (¬ (HT.sIx xs.length 0 lo = 0 ∧ HT.sIx xs.length xs.length hi = xs.length) → NewT Q H (cutV xs lo hi))
theorem sl_tupN : SlR X (rSlN X.K) := by
  intro pins s σ H x v vl vu lo hi sl Q I rx hs pl pu h
  obtain ⟨a, xs, rfl, hx, q1, q2⟩ := h
  cases rx
  obtain ⟨its, r, ht, hz⟩ := I.tuple hx
  have hlen : its.toArray.size = xs.length := by rw [List.size_toArray]; exact r.length.symm
  by_cases hw : HT.sIx xs.length 0 lo = 0 ∧ HT.sIx xs.length xs.length hi = xs.length
  · exact ⟨"tuple", _, PyProof.Rows.slot_tuple_getitem.lookup, ht.typeIs, getItem_tuple_whole ht hs pl pu (by rw [hlen]; exact hw) ⟨.ref a, H, I, rfl, q1 hw⟩⟩
  · refine ⟨"tuple", _, PyProof.Rows.slot_tuple_getitem.lookup, ht.typeIs, HT.getItem_tuple_cut ht hs pl pu (by rw [hlen]; exact hw) ?_ (by rw [hlen]; exact hz)⟩
    rw [hlen]
    exact lay_tup I ((r.drop (HT.sIx xs.length 0 lo)).take (HT.sIx xs.length xs.length hi - HT.sIx xs.length 0 lo)) (Nat.le_trans (cutV_length xs lo hi) hz) (q2 hw)
/-- t + u -/
def rCatN (K : PySem.W.Frag) : R2 := fun x y H Q => ∃ a b xs ys, x = .ref a ∧ y = .ref b ∧ SqT K H a xs ∧ SqT K H b ys ∧ xs.length + ys.length ≤ sizeLine ∧
  (xs = [] → Q (.ref b) H) ∧ (xs ≠ [] → ys = [] → Q (.ref a) H) ∧ (xs ≠ [] → ys ≠ [] → NewT Q H (xs ++ ys))
theorem op_catN : OpR X (binaryOp .Add) (rCatN X.K) := by
  intro pins s σ H x y v u Q I rx ry h
  obtain ⟨a, b, xs, ys, rfl, rfl, ha, hb, hz, q0, q1, q2⟩ := h
  cases rx
  cases ry
  obtain ⟨its, r1, p1, _⟩ := I.tuple ha
  obtain ⟨its2, r2, p2, _⟩ := I.tuple hb
  by_cases hx : xs = []
  · subst hx
    cases r1
    exact cat_tup0 p1 p2 ⟨.ref b, H, I, rfl, q0 rfl⟩
  · refine HT.cat_tup p1 p2 (fun z => hx (r1.nil_iff.mp z)) (fun z => ⟨.ref a, H, I, rfl, q1 hx (r2.nil_iff.mp z)⟩) (fun z => ?_) (by rw [← r1.length, ← r2.length]; exact hz)
    exact lay_tup I (r1.append r2) (by rw [List.length_append]; exact hz) (q2 hx fun w => z (r2.nil_iff.mpr w))
/-- t.m(e) of such a tuple -/
theorem pe_tupM {o e : Expr} {to : TE} {t : TA} {name : Str} {apos cpos : Pos} {id : String} {r : V → List V → Hp → VK → Prop} {es : List Expr} (slot : Slot "tuple" name id) (hty : typeOf (.builtin id) = pure (.type "method_descriptor")) (hm : MtR X id r) (ho : PE X o to) (ha : PA X (e :: es) t)
    (hbase : attributeBase o name X.env (eval o X.env) = eval o X.env := by rfl)
    (hfew : ((backTo cpos (starEach (e :: es) X.env)).all (fun x => !x.1) && (backToKw cpos (keywordEach [] X.env)).all (fun x => x.1.isSome)
      && decide ((e :: es).length + ([] : List Keyword).length + (if ([] : List Keyword).isEmpty then 0 else 1) < 30)) = true := by rfl)
    (hline : (apos.endLine == cpos.line) = true := by rfl) (hs : starEach (e :: es) X.env = (false, eval e X.env) :: starEach es X.env := by rfl) (hplain : (backTo cpos (starEach es X.env)).any (·.1) = false := by rfl) :
    PE X (.Call (.Attribute o name apos) (e :: es) [] cpos) (fun σ H Q => to σ H fun x H1 => (∃ a ys, x = .ref a ∧ DN H1 a ys) ∧ t σ H1 fun xs H2 => r x xs H2 Q) := by
  refine ⟨fun pins s σ H Q I h => ?_⟩
  refine wpAny_Call_method_late hbase hfew hline rfl (thn (ho.run pins s σ H _ I h) fun v s1 ⟨x, H1, I1, r1, ⟨a, ys, ex, od, hd, hH⟩, q1⟩ => ?_)
  subst ex
  obtain rfl : v = Value.ref a := r1
  obtain ⟨he, hz, its, rv, ob, hob, hc, n, hdat⟩ := I1.hok a _ hH
  have h1 : s1.TypeIs (.ref a) "tuple" := ⟨ob, hob, hc⟩
  have h2 : ∀ b, Value.ref a = .ref b → ∃ ob, s1.heap.get? b = some ob ∧ ob.dict = none := fun b e => by
    cases e
    exact ⟨od, he, hd⟩
  refine ⟨"tuple", id, PySem.F.plainAttrs_tuple, slot, hty, h1, h2, ?_⟩
  have hA := ha.run cpos pins s1 σ H1 _ I1 q1
  rw [hs] at hA ⊢
  refine Calls.callWith_builtin (by show (false || (backTo cpos (starEach es X.env)).any (·.1)) = false; rw [hplain] <;> rfl) (Calls.evalArgs_plain ?_)
  exact thn hA fun us s2 ⟨vs, H2, I2, r2, q2⟩ => hm pins s2 σ H2 (.ref a) vs (.ref a) us Q I2 rfl r2 q2
/-! ### dict(t), t a tuple of pairs -/
theorem pairsN {pins : List (Addr × Obj)} {σ : L2.St} {H : Hp} {s : Shared} (I : Inv X pins σ H s) : ∀ {ps : List Addr} {kvs : List (Key × V)}, Paired (fun p kv => SqT X.K H p [kV kv.1, kv.2]) ps kvs →
    ∃ raw : List (Value × Value), raw.length = ps.length ∧ (∀ (j : Nat) (q : Value × Value), raw[j]? = some q → ∃ b, ps[j]? = some b ∧ IsTup s.heap b #[q.1, q.2]) ∧
      ∃ prs : List (Key × Value), KV kvs prs ∧ prs.length = ps.length ∧ ∀ (j : Nat) (q : Value × Value), raw[j]? = some q → ∃ k, prs[j]? = some (k, q.2) ∧ keyIs k q.1 = true
  | _, _, .nil => ⟨[], rfl, fun j q e => by simp at e, [], .nil, rfl, fun j q e => by simp at e⟩
  | _, _, .cons (a := p) (b := kv) h t => by
    obtain ⟨raw, hl, h1, prs, r, hl2, h2⟩ := pairsN I t
    obtain ⟨its, rv, ht, _⟩ := I.tuple h
    obtain ⟨u, y, ei, ru, ry⟩ := vals2 rv
    subst ei
    refine ⟨(u, y) :: raw, by rw [List.length_cons, List.length_cons, hl], fun j q e => ?_, (kv.1, y) :: prs, .cons ⟨rfl, ry⟩ r, by rw [List.length_cons, List.length_cons, hl2], fun j q e => ?_⟩
    · cases j with
      | zero =>
        have e' : (u, y) = q := Option.some.inj e
        subst e'
        exact ⟨p, rfl, ht⟩
      | succ j =>
        obtain ⟨b, e1, e2⟩ := h1 j q (by simpa using e)
        exact ⟨b, by simpa using e1, e2⟩
    · cases j with
      | zero =>
        have e' : (u, y) = q := Option.some.inj e
        subst e'
        exact ⟨kv.1, rfl, kV_is (P := X.prog) (w := X.w) ru⟩
      | succ j =>
        obtain ⟨k, e1, e2⟩ := h2 j q (by simpa using e)
        exact ⟨k, by simpa using e1, e2⟩
def rDictN (K : PySem.W.Frag) : List V → Hp → VK → Prop := fun xs H Q => ∃ (a : Addr) (ps : List Addr) (kvs : List (Key × V)), xs = [.ref a] ∧ DN H a (ps.map V.ref) ∧ Paired (fun p kv => SqT K H p [kV kv.1, kv.2]) ps kvs ∧
    ∀ p, H p = none → Q (.ref p) (upd H p (.dK (mergeK [] kvs)))
theorem cr_dictN (hcalm : X.calm = true) : CallR X (.type "dict") (rDictN X.K) := by
  intro pins s σ H xs us Q I r q
  obtain ⟨a, ps, kvs, ex, ⟨od, hdd, hH⟩, hp, q⟩ := q
  subst ex
  obtain ⟨u, eu, rx⟩ := vals1 r
  subst eu
  cases rx
  obtain ⟨he, hz, its, rv, ob, hob, hc, n, hdat⟩ := I.hok a _ hH
  have he' : s.heap.get? a = some od := he
  have eo : od = ob := Option.some.inj (he'.symm.trans hob)
  subst eo
  have ei := refs_at rv
  subst ei
  rw [List.length_map] at hz
  obtain ⟨raw, hl, h1, prs, rel, hl2, h2⟩ := pairsN I hp
  have P := PairArg.tuple (prog := X.prog) (w := X.w) a (ps.map Value.ref).toArray (fun j => ps.getD j 0) raw
  refine PySem.call_dict_pairs (knd := mixKind X.prog X.w) (kvs := prs) P (I.ok.hd hcalm) ⟨⟨od, n, hob, hc, hdd, hdat⟩, by simp [hl], fun j k v e => ?_⟩ ⟨by rw [hl2, hl], fun j k v e => ?_⟩ (by rw [hl]; exact hz) fun h' tk hd' k => ?_
  · obtain ⟨b, e1, e2⟩ := h1 j (k, v) e
    have e3 : ps.getD j 0 = b := by simp [e1]
    show _ = some (Value.ref (ps.getD j 0)) ∧ PairAt _ (ps.getD j 0) k v
    rw [e3]
    exact ⟨by simp [e1], .inl e2⟩
  · obtain ⟨k', e1, e2⟩ := h2 j (k, v) e
    exact ⟨k', e1, e2⟩
  · have hm : (s.heap.objs.size == sysModules) = false := beq_eq_false_iff_ne.mpr (Nat.ne_of_gt I.big)
    have hlen : (mergeK [] kvs).length ≤ sizeLine := by
      refine Nat.le_trans (length_mergeK kvs []) ?_
      rw [List.length_nil, Nat.zero_add, rel.length, hl2]
      exact hz
    exact ⟨.ref s.heap.objs.size, upd H s.heap.objs.size (.dK (mergeK [] kvs)), I.laid (t' := tk) (fun b o e => k b o (by simp) e) (Nat.le_refl _) (show ObjOk X.prog X.w _ _ _ (.dK (mergeK [] kvs)) from ⟨hlen, hm, merged [] prs, KV.merge rel .nil, hd'⟩), rfl, q _ (I.hok.fresh (Nat.le_refl _))⟩
end
/-! ### {t: v}, t a tuple -/
section
variable {X : Cx}
def tDisp1 (tk tv : TE) : TE := fun σ H Q => ∀ p, H p = none → tk σ (upd H p (.dT [])) fun x H1 => tv σ H1 fun y H2 => H2 p = some (.dT []) ∧ ∃ (b : Addr) (ks : List Key) (z : V), [(x, y)] = [(V.ref b, z)] ∧ H2 b = some (.tup (ks.map kV)) ∧ Q (.ref p) (upd H2 p (.dT [(ks, z)]))
theorem pe_disp1 {k v : Expr} {tk tv : TE} {pos : Pos} (hu : X.A.units < cLine) (hk : PE X k tk) (hv : PE X v tv) : PE X (.Dict [some k] [v] pos) (tDisp1 tk tv) := by
  refine ⟨fun pins s σ H Q I q => ?_⟩
  have hn := I.hok.fresh (Nat.le_refl s.heap.objs.size)
  have I1 := I.laid (a := s.heap.objs.size) (o := .dT []) (h' := s.heap.push { cls := .type "dict", data := .dict #[] }) (t' := s.toks) (fun _ _ q => Heap.get?_push_of_some _ q) (Nat.le_refl _) (dt_empty s.heap I.big)
  have hP : PPs X pos [some k] [v] [(tk, tv)] := pps_cons hk hv pps_nil
  have hlen := pairTrees_length [some k] [v] X.env pos rfl rfl
  have h0 : pairTrees [some k] [v] X.env pos ≠ [] := fun e => by rw [e] at hlen; cases hlen
  rw [arm_eval_Dict, zip_pairTrees [some k] [v] X.env pos rfl rfl, dictDisplay_pairs _ h0 (by rw [hlen]; show 1 < 17; decide)]
  refine wpAny_bind (wpAny_standAt (wpAny_bind (wpAny_subDictH (knd := tupleKind (mixKind X.prog X.w)) (Q := fun d s' => wpAny (model X.prog X.w) X.A (pure (Value.ref d)) (EP X pins σ Q) X.xe s') hu (by rw [hlen]; show 1 ≤ 15; decide) ?_)))
  refine thn (hP.run pins _ σ _ (fun ps H2 => H2 s.heap.objs.size = some (.dT []) ∧ ∃ (b : Addr) (ks : List Key) (y : V), ps = [(.ref b, y)] ∧ H2 b = some (.tup (ks.map kV)) ∧ Q (.ref s.heap.objs.size) (upd H2 s.heap.objs.size (.dT [(ks, y)]))) I1 (q _ hn)) fun ws s2 ⟨ps, H2, I2, rel, e, b, ks, y, ep, hb, q2⟩ => ?_
  subst ep
  cases rel with
  | @cons _ w1 _ ws1 hr ht =>
    cases ht
    obtain ⟨w2, w3⟩ := w1
    obtain ⟨h1, h2⟩ := hr
    cases (show w2 = Value.ref b from h1)
    have hkey := key_of (P := X.prog) (w := X.w) I2.hok hb
    obtain ⟨z, hd, xs0, r0, dd⟩ := dt_of I2.hok e
    cases r0
    refine ⟨[(ks, b, w3)], ⟨rfl, rfl, hkey, trivial⟩, dd, fun h' tk dd' hs => wpAny_pure ⟨.ref s.heap.objs.size, _, ?_, rfl, q2⟩⟩
    obtain ⟨o, es, ep, hq, g2, g3, g4, _, g5⟩ := dd'
    refine d_write I2 (by rw [e]; exact True.intro) hs ⟨o, hq⟩ ⟨by rw [sizeLine_eq]; show 1 ≤ 16777216; decide, hd, [(ks, b, w3)], .cons ⟨rfl, ?_, h2⟩ .nil, o, es, ep, hq, g2, g3, g4, g5⟩
    rw [upd_ne (ne_of hb e (fun z => nomatch z))]
    exact hb
end
end Sh
/-! enumerate over a tuple -/
namespace PySem
namespace ShE
open Sem (wp)
open AutoSeq1 (wpAny_loadPart')
theorem new_enumT (l : Addr) (items : Array Value) (n : Nat) (dct : Option Addr) (sl : Array (Option Value)) :
    Meets (Builtin.«enumerate.__new__» ⟨[.type "enumerate", .ref l], []⟩) (fun _ R s => s.heap.get? l = some { cls := .type "tuple", dict := dct, data := .seq items n, slots := sl } ∧
      R (.ok (.ret (.ref (s.heap.push { cls := .type "tuple_iterator", data := .fields #[.ref l, .int 0 0] }).objs.size)))
        { s with heap := (s.heap.push { cls := .type "tuple_iterator", data := .fields #[.ref l, .int 0 0] }).push { cls := .type "enumerate", data := .fields #[.none, .bool false, .ref s.heap.objs.size, rawInt 0, .none, .none] } }) := by
  refine .of_wp fun prog w A R s h => ?_
  obtain ⟨hp, g, d, tk, os⟩ := s
  obtain ⟨hl, h⟩ := h
  have hsub := sub_enumerate
  have hT : Heap.IsTuple (Shared.heap ⟨hp, g, d, tk, os⟩) l items := ⟨_, hl, rfl, n, rfl⟩
  wp_walk using wpAny_loadPart' hl
  refine wpAny_stack_any fun st => wpAny_pure ?_
  split
  · rename_i c _ _ _ _ _
    cases (c == Value.type "enumerate")
    · wp_walk using wpAny_loadPart' hl, wpAny_pyIter_tuple hT
      exact ⟨_, rfl, h⟩
    · wp_walk using wpAny_loadPart' hl, wpAny_pyIter_tuple hT
      exact ⟨_, rfl, h⟩
  · wp_walk using wpAny_loadPart' hl, wpAny_pyIter_tuple hT
    exact ⟨_, rfl, h⟩
theorem call_enumT {prog : Program} {w : World} {A : Around} {E : Value → Shared → Prop} {s : Shared} {l : Addr} {items : Array Value} {Q : Value → Shared → Prop} (hL : s.heap.IsTuple l items)
    (h : ∀ h', IsEnum h' (s.heap.objs.size + 1) s.heap.objs.size 0 .none → h'.IsTupleIter s.heap.objs.size l 0 → (∀ b o, s.heap.get? b = some o → h'.get? b = some o) → Q (.ref (s.heap.objs.size + 1)) { s with heap := h' }) :
    wpAny (model prog w) A (call (.type "enumerate") [.ref l]) Q E s := by
  obtain ⟨⟨c, dct, dt, sl⟩, hl, hc, n, hd⟩ := hL
  replace hc : c = .type "tuple" := hc
  replace hd : dt = .seq items n := hd
  subst hc hd
  refine callType_new F.called_enumerate (by decide) (F.typeCall_enumerate_1 _) (F.newCall_enumerate_1 _) (fun obj => F.args_object_init_2 obj _) F.entry_enumerate_new (new_enumT l items n dct sl) ⟨hl, ?_⟩
  have hz : (s.heap.push { cls := .type "tuple_iterator", data := .fields #[.ref l, .int 0 0] }).objs.size = s.heap.objs.size + 1 := Heap.size_push ..
  show _ ∧ _
  rw [hz]
  have z := Heap.get?_push_size (s.heap.push { cls := .type "tuple_iterator", data := .fields #[.ref l, .int 0 0] }) (o := { cls := .type "enumerate", data := .fields #[.none, .bool false, .ref s.heap.objs.size, rawInt 0, .none, .none] }) rfl
  rw [hz] at z
  have he : IsEnum _ (s.heap.objs.size + 1) s.heap.objs.size 0 .none := z
  exact ⟨⟨_, he, rfl⟩, h _ he ⟨_, Heap.get?_push_of_some _ (Heap.get?_push_size _ rfl), rfl, rfl⟩ fun b o y => Heap.get?_push_of_some _ (Heap.get?_push_of_some _ y)⟩
end ShE
end PySem
namespace Sh
open PySem PySem.Spec PyProof.Rows L2
/-- the tuple at a, each item in a new pair -/
def ItE (K : PySem.W.Frag) (a : Addr) : It :=
  ⟨fun i H => ∃ (xs : List V) (x : V), SqT K H a xs ∧ xs[i]? = some x,
    fun i H v H' => ∃ T x, v = .ref T ∧ H T = none ∧ H' = upd H T (.tup [.int (i : Nat), x]) ∧ ∀ xs, SqT K H a xs → xs[i]? = some x,
    fun i H => ∃ xs : List V, SqT K H a xs ∧ xs.length ≤ i⟩
theorem turn_enumT {P : Program} {w : World} {K : PySem.W.Frag} {elts : List Expr} {kk : Nat} {tpos : Pos} (a e it : Addr) :
    Turn P w K (.Tuple elts kk tpos) (ItE K a) [e, it] e (fun i h => (∃ old, IsEnum h e it ((i : Nat) : Int) old) ∧ h.IsTupleIter it a i ∧ e ≠ it) where
  mem := by simp
  obj := by
    rintro i h ⟨⟨old, he⟩, ⟨o, ho, hc, hd⟩, _⟩ b hb
    rcases (show b = e ∨ b = it by simpa using hb) with rfl | rfl
    · exact ⟨_, he, fun v q => nomatch q⟩
    · exact ⟨o, ho, fun v q => by rw [hd] at q; cases q⟩
  keep := by
    rintro i h h' ⟨⟨old, he⟩, hi, hne⟩ k
    exact ⟨⟨old, k e (by simp) _ he⟩, hi.at fun o q => k it (by simp) o q, hne⟩
  item := by
    intro X hP hw hK hc i pins s σ H E I hf st hg
    subst hP hw hK
    obtain ⟨⟨old, he⟩, hit, hne⟩ := st
    obtain ⟨xs, x, hq, hx⟩ := hg
    obtain ⟨its, rv, p, hz⟩ := I.tuple hq
    obtain ⟨u, hu, ru⟩ := rv.get hx
    have p1 : s.heap.IsTuple a its.toArray := p
    have hel : e < s.heap.objs.size := Heap.lt_size he
    have hil : it < s.heap.objs.size := by
      obtain ⟨_, q, _⟩ := hit
      exact Heap.lt_size q
    have hait : a ≠ it := fun z => by
      obtain ⟨o1, h1, c1, _⟩ := p1
      obtain ⟨o2, h2, c2, _⟩ := hit
      rw [z, h2] at h1
      cases h1
      rw [c2] at c1
      exact absurd c1 (by decide)
    have hea : e ∉ [it, a] := by
      intro z
      rcases (show e = it ∨ e = a by simpa using z) with z | z
      · exact hne z
      · obtain ⟨o1, h1, c1, _⟩ := p1
        have he' : s.heap.get? e = some _ := he
        rw [z, h1] at he'
        cases he'
        have c2 : Value.type "enumerate" = Value.type "tuple" := c1
        exact absurd c2 (by decide)
    have D := Draws.tuple (prog := X.prog) (w := X.w) (A := X.A.in1) (I.ok.hd hc) it a hait its.toArray
    have hlt : i < its.toArray.size := by
      have q := (List.getElem?_eq_some_iff.mp hu).1
      simpa using q
    refine wpAny_pyNext_enum_itemD D he ⟨hit, p1⟩ hlt hne hea fun x' h' tk hPx ho hst' hT hsz hk => ?_
    have hx' : x' = u := by
      have hPx' : its.toArray[i]? = some x' := hPx
      have e1 : its.toArray[i]? = its[i]? := by simp
      rw [e1, hu] at hPx'
      exact (Option.some.inj hPx').symm
    subst hx'
    refine ⟨_, rfl, wpAny_letOwnedTupleGo_enum (s := { s with heap := h', toks := tk + 1 }) ho fun h'' he' sb => ?_⟩
    have hT2 : h''.get? s.heap.objs.size = some { cls := .type "tuple", data := .seq #[.int i tk, x'] } := (sb.2 _ (Nat.ne_of_gt hel)).trans hT
    have new : ObjOk X.prog X.w (upd H s.heap.objs.size (.tup [.int (i : Nat), x])) h'' s.heap.objs.size (.tup [.int (i : Nat), x]) :=
      ⟨by show 2 ≤ sizeLine; decide, [.int i tk, x'], .cons ⟨_, rfl⟩ (.cons ru .nil), ⟨_, hT2, rfl, _, rfl⟩⟩
    have I1 := I.turnedNew (t' := tk + 1) (ch := [e, it]) (fun b ob hb q => (sb.2 b (fun z => hb (by simp [z]))).trans (hk b ob (fun z => hb (by simp [z])) (fun z => hb (by simp [z])) q)) hf (Nat.le_refl _) new
    refine ⟨.ref s.heap.objs.size, _, I1, rfl, ⟨_, x, rfl, I.hok.fresh (Nat.le_refl _), rfl, fun ys hy => by rw [I.tuple_inj hy hq]; exact hx⟩, ⟨⟨x', ?_⟩, hst'.1.at fun o q => (sb.2 it (Ne.symm hne)).trans q, hne⟩, fun b hb => ?_⟩
    · have e1 : ((i + 1 : Nat) : Int) = (i : Int) + 1 := by omega
      rw [e1]
      exact he'
    · have hb' : b < s.heap.objs.size := by
        rcases (show b = e ∨ b = it by simpa using hb) with z | z
        · rw [z]; exact hel
        · rw [z]; exact hil
      rw [upd_ne (Nat.ne_of_lt hb')]
      exact (hf b hb).1
  done := by
    intro X hP hw hK hc i pins s σ H E I hf st hg
    subst hP hw hK
    obtain ⟨⟨old, he⟩, hit, hne⟩ := st
    obtain ⟨xs, hq, hx⟩ := hg
    obtain ⟨its, rv, p, hz⟩ := I.tuple hq
    have p1 : s.heap.IsTuple a its.toArray := p
    obtain ⟨f0, f1, f2, f3, f4, f5⟩ := hf it (by simp)
    have hl := rv.length
    have hT : s.TypeIs (.ref e) "enumerate" := ⟨_, he, rfl⟩
    unfold pyNext
    refine wpAny_bind (wpAny_attempt (wpAny_callSpecial?_slot (name := Str.ofString "__next__") hT F.slot_enumerate_next
      (wpAny_call_entry F.slot_enumerate_next hT F.entry_enumerate_next ?_ (F.args_enumerate_next_1 _))))
    show wpAny _ _ (field (.ref e) 2 >>= _) _ _ _
    refine wpAny_bind (wpAny_field he rfl (x := .ref it) rfl ?_)
    refine wpAny_bind (wpAny_nextOf_tuple_end (I.ok.hd hc) hit p1 (by simp; omega) fun h' x' eb hx' => ?_)
    obtain ⟨o, ho, hcx⟩ := hx'
    refine wpAny_bind (wpAny_isInstance (T := "StopIteration") (b := true) ⟨o, ho, hcx⟩ isSubtype_stop ?_)
    exact wpAny_pure ⟨rfl, I.turned (t' := s.toks) (fun b ob hb q => eb b ob hb q) f0 f1 f3 f4 f5⟩
  self := by
    rintro A i s Q E ⟨⟨_, he⟩, _⟩ h
    exact wpAny_pyIter_enum he h
def iEnumT (K : PySem.W.Frag) (ta : TA) : TI := fun σ H R => ta σ H fun vs H1 => ∃ a xs, vs = [.ref a] ∧ SqT K H1 a xs ∧ R (ItE K a) H1
theorem pi_enumT {X : Cx} {e : Expr} {ta : TA} {p pos tpos : Pos} {elts : List Expr} {kk : Nat} (hg : Gl X "enumerate") (hm : X.mg "enumerate" = none) (ha : PA X [e] ta) (hs : starEach [e] X.env = [(false, eval e X.env)] := by rfl) :
    PI X (.Tuple elts kk tpos) (.Call (.Name "enumerate" p) [e] [] pos) (iEnumT X.K ta) := by
  refine ⟨fun pins s σ H R I h => ?_⟩
  refine Call_ (ld_blt I hg hm boot_enumerate (PyProof.Rows.callWith_type1 (thn (ha.run pos pins s σ H _ I h) fun us s1 ⟨vs, H1, I1, r1, q1⟩ => ?_) hs rfl))
  obtain ⟨a, xs, rfl, hq, q⟩ := q1
  cases r1 with
  | cons r rr =>
    cases rr
    cases r
    obtain ⟨its, rv, p', hz⟩ := I1.tuple hq
    refine PySem.ShE.call_enumT (show s1.heap.IsTuple a its.toArray from p') fun h' he hit hk => wpAny_pyIter_enum he ?_
    have I2 : Inv X pins σ H1 { s1 with heap := h' } := I1.kept (t' := s1.toks) hk
    refine ⟨s1.heap.objs.size + 1, [s1.heap.objs.size + 1, s1.heap.objs.size], _, _, H1, rfl, I2, turn_enumT a (s1.heap.objs.size + 1) s1.heap.objs.size, ⟨⟨.none, he⟩, hit, Nat.succ_ne_self _⟩, fun b hb => ?_, q⟩
    have hle : s1.heap.objs.size ≤ b := by
      rcases (show b = s1.heap.objs.size + 1 ∨ b = s1.heap.objs.size by simpa using hb) with z | z
      · rw [z]; exact Nat.le_add_right _ _
      · rw [z]; exact Nat.le_refl _
    exact I1.fpOk hle (I1.hok.fresh hle)
end Sh
/-! The head: where each def stands behind the program's top, by names. -/
namespace Sh
open PySem PySem.Spec PyProof.Rows L2
def top (i : Nat) : Stmt := PySem.Challenge.pw_shelflikes_k76_whole_a_library_made_anew.main.body.getD i (.Pass ⟨0, 0, 0, 0⟩)
def gD (x : Str) (st : Stmt) : He.DefD := ⟨(x, none), x, x, defArgs st, defBody st, defScope st, [], []⟩
def mD (c x q : Str) (st : Stmt) (dfl : List He.Dv) (kwd : List (Str × He.Dv)) : He.DefD := ⟨(c, some x), x, q, defArgs st, defBody st, defScope st, dfl, kwd⟩
abbrev sJoined : Stmt := top 10
abbrev sManyOf : Stmt := top 11
abbrev sAllSpots : Stmt := top 12
abbrev sSpotsOf : Stmt := top 13
abbrev sRunAt : Stmt := top 14
abbrev sChanged : Stmt := top 17
abbrev sWithOut : Stmt := top 24
abbrev sManyOut : Stmt := top 25
abbrev sIsDeed : Stmt := top 26
abbrev sInit : Stmt := inClass (top 27) 0
abbrev sNow : Stmt := inClass (top 27) 1
abbrev sStanding : Stmt := inClass (top 27) 2
abbrev sOut : Stmt := inClass (top 27) 3
abbrev sLent : Stmt := inClass (top 27) 4
abbrev sTaken : Stmt := inClass (top 27) 5
abbrev sDeeds : Stmt := inClass (top 27) 6
abbrev sStood : Stmt := inClass (top 27) 7
abbrev sTake : Stmt := inClass (top 27) 8
abbrev sLookOut : Stmt := inClass (top 27) 9
abbrev sPut : Stmt := inClass (top 27) 10
abbrev sEnd : Stmt := inClass (top 27) 11
abbrev sLend : Stmt := inClass (top 27) 12
abbrev sUndo : Stmt := inClass (top 27) 13
abbrev sDone : Stmt := inClass (top 27) 14
abbrev sDo : Stmt := inClass (top 27) 15
abbrev sMay : Stmt := inClass (top 27) 16
abbrev sLog : Stmt := inClass (top 27) 19
abbrev sEq : Stmt := inClass (top 27) 20
abbrev lBox : Stmt := top 29
abbrev lTake : Stmt := top 30
abbrev lPick : Stmt := top 31
abbrev lSame : Stmt := top 32
abbrev lNames : Stmt := top 33
abbrev lPut : Stmt := top 34
abbrev lStand : Stmt := top 35
abbrev lSums : Stmt := top 36
abbrev lSpots : Stmt := top 37
abbrev lAllSpots : Stmt := top 38
abbrev lWith : Stmt := top 39
abbrev lDeedsOf : Stmt := top 40
abbrev lDue : Stmt := top 41
abbrev lWordOf : Stmt := top 42
abbrev lDone : Stmt := top 43
abbrev lRowOf : Stmt := top 44
abbrev lRowed : Stmt := top 45
abbrev lTold : Stmt := top 46
abbrev lRight : Stmt := top 47
abbrev lLaw : Stmt := top 48
abbrev iNotLike : Stmt := inClass (top 2) 0
abbrev iNoRun : Stmt := inClass (top 4) 0
abbrev iNoShelf : Stmt := inClass (top 5) 0
abbrev iNotOut : Stmt := inClass (top 6) 0
abbrev iFull : Stmt := inClass (top 7) 0
abbrev iStands : Stmt := inClass (top 8) 0
def fn : List He.DefD := [
  gD "joined" sJoined, gD "many_of" sManyOf, gD "all_spots" sAllSpots, gD "spots_of" sSpotsOf, gD "run_at" sRunAt, gD "changed" sChanged,
  gD "with_out" sWithOut, gD "many_out" sManyOut, gD "is_deed" sIsDeed,
  mD "Library" "__init__" "Library.__init__" sInit [.int 1] [], mD "Library" "now" "Library.now" sNow [] [], mD "Library" "standing" "Library.standing" sStanding [] [],
  mD "Library" "out" "Library.out" sOut [] [], mD "Library" "lent" "Library.lent" sLent [] [], mD "Library" "taken" "Library.taken" sTaken [] [],
  mD "Library" "deeds" "Library.deeds" sDeeds [] [], mD "Library" "stood" "Library.stood" sStood [] [], mD "Library" "take" "Library.take" sTake [] [],
  mD "Library" "look_out" "Library.look_out" sLookOut [] [], mD "Library" "put" "Library.put" sPut [] [], mD "Library" "end" "Library.end" sEnd [] [],
  mD "Library" "lend" "Library.lend" sLend [] [], mD "Library" "undo" "Library.undo" sUndo [] [], mD "Library" "done" "Library.done" sDone [] [],
  mD "Library" "do" "Library.do" sDo [] [("whole", .bl true)], mD "Library" "may" "Library.may" sMay [] [], mD "Library" "log" "Library.log" sLog [] [], mD "Library" "__eq__" "Library.__eq__" sEq [] []]
  ++ [gD "_law_box" lBox, gD "_law_take" lTake, gD "_law_pick" lPick, gD "_law_same" lSame, gD "_law_names" lNames, gD "_law_put_together" lPut, gD "_law_stand" lStand,
  gD "_law_sums" lSums, gD "_law_spots" lSpots, gD "_law_all_spots" lAllSpots, gD "_law_with" lWith, gD "_law_deeds_of" lDeedsOf, gD "_law_due" lDue, gD "_law_done" lDone,
  gD "_law_row_of" lRowOf, gD "_law_rowed" lRowed, gD "_law_told" lTold, gD "_law_right" lRight, gD "law" lLaw]
  ++ [mD "NotLike" "__init__" "NotLike.__init__" iNotLike [] [], mD "NoRun" "__init__" "NoRun.__init__" iNoRun [] [], mD "NoShelf" "__init__" "NoShelf.__init__" iNoShelf [] [],
  mD "NotOut" "__init__" "NotOut.__init__" iNotOut [] [], mD "Full" "__init__" "Full.__init__" iFull [] [], mD "Stands" "__init__" "Stands.__init__" iStands [] []]
def gNames : List Str := (["joined", "many_of", "all_spots", "spots_of", "run_at", "changed", "with_out", "many_out", "is_deed", "Library", "SIZES",
  "_law_box", "_law_take", "_law_pick", "_law_same", "_law_names", "_law_put_together", "_law_stand", "_law_sums", "_law_spots", "_law_all_spots", "_law_with", "_law_deeds_of", "_law_due", "_law_done"] : List Str)
  ++ (["_law_row_of", "_law_rowed", "_law_told", "_law_right", "law", "NotLike", "NoRun", "NoShelf", "NotOut", "Full", "Stands"] : List Str)
def fNames : List Str := ["len", "range", "enumerate", "zip", "tuple", "list", "dict", "set", "sorted", "sum", "any", "all", "abs", "min", "int", "isinstance", "str", "bool", "ValueError", "LookupError", "RuntimeError"]
def meths : List Str := ["now", "standing", "out", "lent", "taken", "deeds", "stood", "take", "look_out", "put", "end", "lend", "undo", "done", "do", "may", "log", "__eq__"]
def fa : List He.Fa := gNames.map He.Fa.glo ++ fNames.map He.Fa.free ++ [.str "TAKE" "take", .str "PUT" "put", .str "END" "end", .str "LEND" "lend", .cls "Library", .noat "Library" "own_states", .noat "Library" "own_log", .mkr "Library"]
  ++ meths.map (He.Fa.meth "Library")
/-- an own exception class -/
structure ExW where
  x : Str
  fld : Str
  bm : List Value
  nid : String
def lkB : List Value := [.type "LookupError", .type "Exception", .type "BaseException", .type "object"]
def rtB : List Value := [.type "RuntimeError", .type "Exception", .type "BaseException", .type "object"]
def veB : List Value := [.type "ValueError", .type "Exception", .type "BaseException", .type "object"]
def xNotLike : ExW := ⟨"NotLike", "spot", veB, "ValueError.__new__"⟩
def xNoRun : ExW := ⟨"NoRun", "spot", lkB, "LookupError.__new__"⟩
def xNoShelf : ExW := ⟨"NoShelf", "shelf", lkB, "LookupError.__new__"⟩
def xNotOut : ExW := ⟨"NotOut", "kind", lkB, "LookupError.__new__"⟩
def xFull : ExW := ⟨"Full", "many", rtB, "RuntimeError.__new__"⟩
def xStands : ExW := ⟨"Stands", "kind", rtB, "RuntimeError.__new__"⟩
def xs6 : List ExW := [xFull, xNoRun, xNoShelf, xNotLike, xNotOut, xStands]
/-- the six classes, as the clauses name them -/
def six (K : PySem.W.Frag) : List Value := [.ref (He.ga K "Full"), .ref (He.ga K "NoRun"), .ref (He.ga K "NoShelf"), .ref (He.ga K "NotLike"), .ref (He.ga K "NotOut"), .ref (He.ga K "Stands")]
def ExW.ok (K : PySem.W.Frag) (e : ExW) : Bool :=
  PySem.W.excInitIn K (He.ga K e.x) e.bm e.nid && (PySem.W.excOver K (He.ga K e.x) e.bm && (PySem.W.hasDictIn K (He.ga K e.x) && (He.eqO (PySem.W.findIn K (.ref (He.ga K e.x)) "__setattr__") (some (some (.builtin "object.__setattr__")))
    && (decide (PySem.W.subIn K (.ref (He.ga K e.x)) (.type "BaseException") = some true) && (decide (PySem.W.typeIn K (.ref (He.ga K e.x)) = some (.type "type")) && (PySem.W.keepIn K (.ref (He.ga K e.x))
    && (He.eqO (PySem.W.findIn K (.ref (He.ga K e.x)) e.fld) (some none) && (He.eqO (PySem.W.findIn K (.ref (He.ga K e.x)) "__init__") (some (some (.ref (He.ma K (He.ga K e.x) "__init__"))))
    && (decide (PySem.W.typeIn K (.ref (He.ma K (He.ga K e.x) "__init__")) = some (.type "function")) && decide (PySem.W.exmAny K (.ref (He.ga K e.x)) (six K) = some true))))))))))
/-- the class Library: its own ==, no own != -/
def libB (K : PySem.W.Frag) : Bool := match K.lookup (He.ga K "Library") with
  | some ⟨.type "type", _, .cls cd, sl⟩ => (match cd.mro, sl.toList with
    | [.ref C', .type "object"], [_, _, _, _, some (.builtin n), _] => C' == He.ga K "Library" && (!cd.hasDel && (PySem.W.nsOkIn K cd.ns && (He.eqO (PySem.W.nsIn K cd.ns "__eq__") (some (some (.ref (He.ma K (He.ga K "Library") "__eq__")))) && He.eqO (PySem.W.nsIn K cd.ns "__ne__") (some none))))
    | _, _ => false)
  | _ => false
/-- what isinstance asks of an instance -/
def insB (K : PySem.W.Frag) (C : Addr) : Bool := He.eqO (PySem.W.findIn K (.ref C) "__class__") (some (some (.builtin "object.__class__"))) && (He.eqO (PySem.W.specialIn K (.builtin "object.__class__") "__get__") (some (some (.builtin "getset_descriptor.__get__")))
  && (decide (PySem.W.takesIn K (.builtin "object.__class__") = some true) && decide (PySem.W.mroIn K C (.type "object") = some true)))
def moreB (K : PySem.W.Frag) : Bool := xs6.all (ExW.ok K) && (libB K && (decide (PySem.W.kitOne K (.ref (He.ga K "Library")) (.ref (He.ga K "Library")) = some true) && (He.valsB K (He.ga K "SIZES") [("take", .int 3), ("put", .int 4), ("end", .int 3), ("lend", .int 2)] && insB K (He.ga K "Library"))))
def tabs : List He.Tab := [(fun K => He.ga K "SIZES", ["take", "put", "end", "lend"])]
abbrev R : PySem.W.OpenRow := PySem.W.OpenLaw.row PySem.Challenge.rw_shelflikes_k76_whole_a_library_made_anew
abbrev hk : PySem.W.Hook := He.hookX 5 fa fn tabs [] moreB
def ob (s : PySem.W.SharedT) : He.AlX := He.obsX 5 fa fn tabs [] moreB (HandSHeadRun.getT s)
theorem ob_eq (s : PySem.W.SharedT) : ob s = hk.obs s.abs := He.obsX_eq (HandSHeadRun.getT_eq s)
def loose1 : List Str := ["_wall", "NotLike", "BadDeed", "NoRun", "NoShelf", "NotOut", "Full", "Stands", "joined", "many_of", "all_spots", "spots_of", "run_at", "books_in", "changed", "TAKE", "PUT", "END", "LEND", "SIZES", "with_out", "many_out", "is_deed", "Library"]
def loose2 : List Str := ["_law_box", "_law_take", "_law_pick", "_law_same", "_law_names", "_law_put_together", "_law_stand", "_law_sums", "_law_spots", "_law_all_spots", "_law_with", "_law_deeds_of", "_law_due", "_law_word_of", "_law_done", "_law_row_of", "_law_rowed", "_law_told", "_law_right"]
def loose : List Str := loose1 ++ loose2
end Sh
namespace Sh
open PySem PySem.Spec PyProof.Rows L2
/-- the top's run, once for each answer of the one row that it asks of the world -/
theorem run (w : World) : HandSHeadRun.RunEq R (PySem.W.view R.prog [48]) hk ob 6000 loose w :=
  PySem.W.byRow2 "special-get-raises" (P := fun w => HandSHeadRun.RunEq R (PySem.W.view R.prog [48]) hk ob 6000 loose w) (fun w os => by kernel_rfl) (fun w os => by kernel_rfl) w
end Sh
/-! The plain law: shelves, deeds and their two state machines (the library's and the law's own), no program in sight. -/
namespace Sh
open PySem

abbrev Run := Str × Int
abbrev Shf := List Run
abbrev Std := List Shf

/-! ### joined -/
def jstep (acc : List Run) (r : Run) : List Run :=
  if 0 < r.2 then
    match acc[acc.length - 1]? with
    | some l => if l.1 = r.1 then acc.set (acc.length - 1) (r.1, l.2 + r.2) else acc ++ [r]
    | none => acc ++ [r]
  else acc
def joinR (l : List Run) : List Run := l.foldl jstep []
def sumR (l : List Run) : Int := (l.map (·.2)).sum
def AllPos (l : List Run) : Prop := ∀ r ∈ l, 0 < r.2

theorem sumR_nil : sumR [] = 0 := rfl
theorem sumR_cons (r : Run) (l : List Run) : sumR (r :: l) = r.2 + sumR l := by simp [sumR]
theorem sumR_append (a b : List Run) : sumR (a ++ b) = sumR a + sumR b := by
  induction a with
  | nil => simp [sumR_nil]
  | cons r a ih => rw [List.cons_append, sumR_cons, sumR_cons, ih]; omega
theorem sumR_set : ∀ {l : List Run} {j : Nat} {r y : Run}, l[j]? = some r → sumR (l.set j y) = sumR l - r.2 + y.2
  | [], j, r, y, h => by simp at h
  | a :: l, 0, r, y, h => by
    have e : a = r := Option.some.inj h
    subst e
    rw [List.set_cons_zero, sumR_cons, sumR_cons]; omega
  | a :: l, j + 1, r, y, h => by
    have ih := sumR_set (l := l) (j := j) (r := r) (y := y) h
    rw [List.set_cons_succ, sumR_cons, sumR_cons, ih]; omega
theorem AllPos.set {l : List Run} {j : Nat} {y : Run} (h : AllPos l) (hy : 0 < y.2) : AllPos (l.set j y) := fun r hr => by
  rcases List.mem_or_eq_of_mem_set hr with hr | rfl
  · exact h r hr
  · exact hy
theorem AllPos.append {a b : List Run} (h : AllPos a) (h' : AllPos b) : AllPos (a ++ b) := fun r hr => by
  rcases List.mem_append.mp hr with hr | hr
  · exact h r hr
  · exact h' r hr
theorem AllPos.one {r : Run} (h : 0 < r.2) : AllPos [r] := fun x hx => by
  rw [List.mem_singleton.mp hx]; exact h
theorem jstep_pos {acc : List Run} {r : Run} (h : AllPos acc) : AllPos (jstep acc r) := by
  unfold jstep
  split
  · rename_i hr
    split
    · rename_i l e
      have hl := h l (List.mem_of_getElem? e)
      split
      · exact h.set (by show 0 < l.2 + r.2; omega)
      · exact h.append (.one hr)
    · exact h.append (.one hr)
  · exact h
theorem jstep_sum {acc : List Run} {r : Run} (h0 : 0 ≤ r.2) : sumR (jstep acc r) = sumR acc + r.2 := by
  unfold jstep
  split
  · split
    · rename_i l e
      split
      · rw [sumR_set e]
        show sumR acc - l.2 + (l.2 + r.2) = _
        omega
      · rw [sumR_append, sumR_cons, sumR_nil]; omega
    · rw [sumR_append, sumR_cons, sumR_nil]; omega
  · omega
theorem jstep_len (acc : List Run) (r : Run) : (jstep acc r).length ≤ acc.length + 1 := by
  unfold jstep
  split
  · split
    · split
      · rw [List.length_set]; omega
      · simp
    · simp
  · omega
theorem fold_pos : ∀ (l : List Run) {acc : List Run}, AllPos acc → AllPos (l.foldl jstep acc)
  | [], _, h => h
  | _ :: l, _, h => fold_pos l (jstep_pos h)
theorem fold_sum : ∀ (l : List Run) {acc : List Run}, (∀ r ∈ l, 0 ≤ r.2) → sumR (l.foldl jstep acc) = sumR acc + sumR l
  | [], acc, _ => by rw [List.foldl_nil, sumR_nil]; omega
  | r :: l, acc, h => by
    rw [List.foldl_cons, fold_sum l (fun x hx => h x (List.mem_cons_of_mem _ hx)), jstep_sum (h r List.mem_cons_self), sumR_cons]; omega
theorem fold_len : ∀ (l : List Run) (acc : List Run), (l.foldl jstep acc).length ≤ acc.length + l.length
  | [], acc => by simp
  | r :: l, acc => by
    have h1 := fold_len l (jstep acc r)
    have h2 := jstep_len acc r
    rw [List.foldl_cons, List.length_cons]; omega
theorem join_pos (l : List Run) : AllPos (joinR l) := fold_pos l (fun r hr => by cases hr)
theorem join_sum {l : List Run} (h : ∀ r ∈ l, 0 ≤ r.2) : sumR (joinR l) = sumR l := by
  unfold joinR; rw [fold_sum l h, sumR_nil]; omega
theorem join_len (l : List Run) : (joinR l).length ≤ l.length := by
  have h := fold_len l []
  simpa [joinR] using h
theorem len_le_sum : ∀ {l : List Run}, AllPos l → (l.length : Int) ≤ sumR l
  | [], _ => by simp [sumR_nil]
  | r :: l, h => by
    have h1 := len_le_sum (l := l) fun x hx => h x (List.mem_cons_of_mem _ hx)
    have h2 := h r List.mem_cons_self
    rw [sumR_cons, List.length_cons]; omega
theorem sum_nonneg {l : List Run} (h : AllPos l) : 0 ≤ sumR l := by
  have := len_le_sum h; omega

/-! ### more books, or fewer, at a spot -/
def more (p q d : Int) (a b : Nat) : Int := if (a : Int) = p ∧ (b : Int) = q then d else 0
def addSh (p q d : Int) (a : Nat) (sh : Shf) : Shf := sh.mapIdx fun b r => (r.1, r.2 + more p q d a b)
def chgSh (p q d : Int) (a : Nat) (sh : Shf) : Shf := joinR (addSh p q d a sh)
def chg (st : Std) (p q d : Int) : Std := st.mapIdx (chgSh p q d)
def runAt (st : Std) (p q : Int) : Option Run := if 0 ≤ p ∧ 0 ≤ q then (st[p.toNat]?).bind fun sh => sh[q.toNat]? else none
def total (st : Std) : Int := (st.map sumR).sum
def PosS (st : Std) : Prop := ∀ sh ∈ st, AllPos sh
theorem total_nil : total [] = 0 := rfl
theorem total_cons (s : Shf) (r : Std) : total (s :: r) = sumR s + total r := by simp [total]
theorem total_nonneg : ∀ {st : Std}, PosS st → 0 ≤ total st
  | [], _ => by rw [total_nil]; omega
  | s :: r, h => by
    have h1 := total_nonneg (st := r) fun x hx => h x (List.mem_cons_of_mem _ hx)
    have h2 := sum_nonneg (h s List.mem_cons_self)
    rw [total_cons]; omega
theorem sh_le_total : ∀ {st : Std}, PosS st → ∀ sh ∈ st, sumR sh ≤ total st
  | s :: r, h, sh, hm => by
    have hr : PosS r := fun x hx => h x (List.mem_cons_of_mem _ hx)
    have h0 := total_nonneg hr
    have h2 := sum_nonneg (h s List.mem_cons_self)
    rw [total_cons]
    rcases List.mem_cons.mp hm with rfl | hm
    · omega
    · have := sh_le_total hr sh hm; omega
theorem more_shift (p q d : Int) (a b : Nat) : more p q d (a + 1) b = more (p - 1) q d a b := by
  unfold more
  by_cases h : ((a : Int) = p - 1 ∧ (b : Int) = q)
  · rw [if_pos h, if_pos ⟨by have := h.1; omega, h.2⟩]
  · rw [if_neg h, if_neg fun z => h ⟨by have := z.1; omega, z.2⟩]
theorem more_shiftB (p q d : Int) (a b : Nat) : more p q d a (b + 1) = more p (q - 1) d a b := by
  unfold more
  by_cases h : ((a : Int) = p ∧ (b : Int) = q - 1)
  · rw [if_pos h, if_pos ⟨h.1, by have := h.2; omega⟩]
  · rw [if_neg h, if_neg fun z => h ⟨z.1, by have := z.2; omega⟩]
theorem addSh_cons (p q d : Int) (a : Nat) (r : Run) (sh : Shf) : addSh p q d a (r :: sh) = (r.1, r.2 + more p q d a 0) :: addSh p (q - 1) d a sh := by
  unfold addSh
  rw [List.mapIdx_cons]
  congr 1
  apply congrFun
  congr 1
  funext b x
  rw [more_shiftB]
theorem addSh_off : ∀ (sh : Shf) {p q d : Int} {a : Nat}, ((a : Int) ≠ p ∨ q < 0) → addSh p q d a sh = sh
  | [], _, _, _, _, _ => rfl
  | r :: sh, p, q, d, a, h => by
    rw [addSh_cons, addSh_off sh (by rcases h with h | h; exact .inl h; right; omega)]
    have e : more p q d a 0 = 0 := if_neg fun z => by
      rcases h with h | h
      · exact h z.1
      · have := z.2; omega
    rw [e]
    simp
theorem addSh_sum : ∀ (sh : Shf) {q d : Int} {a : Nat} {r : Run}, 0 ≤ q → sh[q.toNat]? = some r → sumR (addSh (a : Int) q d a sh) = sumR sh + d
  | [], q, d, a, r, _, h => by simp at h
  | x :: sh, q, d, a, r, h0, h => by
    rw [addSh_cons, sumR_cons, sumR_cons]
    by_cases hq : q = 0
    · subst hq
      rw [addSh_off sh (.inr (by omega))]
      have e : more (a : Int) 0 d a 0 = d := if_pos ⟨rfl, rfl⟩
      rw [e]
      show x.2 + d + _ = _
      omega
    · have e : more (a : Int) q d a 0 = 0 := if_neg fun z => hq (by have := z.2; omega)
      have h' : sh[(q - 1).toNat]? = some r := by
        have z : q.toNat = (q - 1).toNat + 1 := by omega
        rw [z] at h
        simpa using h
      rw [e, addSh_sum sh (by omega) h']
      show x.2 + 0 + _ = _
      omega
theorem addSh_nonneg : ∀ (sh : Shf) {q d : Int} {a : Nat} {r : Run}, AllPos sh → 0 ≤ q → sh[q.toNat]? = some r → 0 ≤ r.2 + d → ∀ x ∈ addSh (a : Int) q d a sh, 0 ≤ x.2
  | [], q, d, a, r, _, _, h, _ => by simp at h
  | y :: sh, q, d, a, r, hp, h0, h, hd => by
    rw [addSh_cons]
    have hs : AllPos sh := fun z hz => hp z (List.mem_cons_of_mem _ hz)
    have hy := hp y List.mem_cons_self
    intro x hx
    by_cases hq : q = 0
    · subst hq
      have e : more (a : Int) 0 d a 0 = d := if_pos ⟨rfl, rfl⟩
      rw [addSh_off sh (.inr (by omega)), e] at hx
      have er : y = r := by simpa using h
      rcases List.mem_cons.mp hx with rfl | hx
      · subst er; exact hd
      · have := hs x hx; omega
    · have e : more (a : Int) q d a 0 = 0 := if_neg fun z => hq (by have := z.2; omega)
      have h' : sh[(q - 1).toNat]? = some r := by
        have z : q.toNat = (q - 1).toNat + 1 := by omega
        rw [z] at h
        simpa using h
      rw [e] at hx
      rcases List.mem_cons.mp hx with rfl | hx
      · show 0 ≤ y.2 + 0; omega
      · exact addSh_nonneg sh hs (by omega) h' hd x hx
theorem join_id_sum {sh : Shf} (h : AllPos sh) : sumR (joinR sh) = sumR sh := join_sum fun r hr => by have := h r hr; omega
theorem chg_cons (p q d : Int) (s : Shf) (st : Std) : chg (s :: st) p q d = chgSh p q d 0 s :: chg st (p - 1) q d := by
  unfold chg
  rw [List.mapIdx_cons]
  congr 1
  apply congrFun
  congr 1
  funext a sh
  unfold chgSh addSh
  congr 2
  funext b r
  rw [more_shift]
theorem chg_off : ∀ (st : Std) {p q d : Int}, PosS st → p < 0 → total (chg st p q d) = total st
  | [], _, _, _, _, _ => rfl
  | s :: st, p, q, d, h, hp => by
    rw [chg_cons, total_cons, total_cons, chg_off st (fun x hx => h x (List.mem_cons_of_mem _ hx)) (by omega)]
    unfold chgSh
    rw [addSh_off s (.inl (by omega)), join_id_sum (h s List.mem_cons_self)]
theorem chg_total : ∀ (st : Std) {p q d : Int} {r : Run}, PosS st → runAt st p q = some r → 0 ≤ r.2 + d → total (chg st p q d) = total st + d
  | [], p, q, d, r, _, h, _ => by unfold runAt at h; split at h <;> simp at h
  | s :: st, p, q, d, r, hs, h, hd => by
    have hst : PosS st := fun x hx => hs x (List.mem_cons_of_mem _ hx)
    rw [chg_cons, total_cons, total_cons]
    have h0 : 0 ≤ p ∧ 0 ≤ q := by
      by_cases z : 0 ≤ p ∧ 0 ≤ q
      · exact z
      · unfold runAt at h; rw [if_neg z] at h; cases h
    unfold runAt at h
    rw [if_pos h0] at h
    by_cases hp : p = 0
    · subst hp
      rw [chg_off st hst (by omega)]
      have h' : s[q.toNat]? = some r := by simpa using h
      have e : sumR (chgSh 0 q d 0 s) = sumR s + d := by
        have e1 := join_sum (addSh_nonneg (a := 0) s (hs s List.mem_cons_self) h0.2 h' hd)
        exact e1.trans (addSh_sum (a := 0) s h0.2 h')
      rw [e]; omega
    · have e : sumR (chgSh p q d 0 s) = sumR s := by
        unfold chgSh
        rw [addSh_off s (.inl (by omega)), join_id_sum (hs s List.mem_cons_self)]
      have z : p.toNat = (p - 1).toNat + 1 := by omega
      have h' : runAt st (p - 1) q = some r := by
        unfold runAt
        rw [if_pos ⟨by omega, h0.2⟩]
        rw [z] at h
        simpa using h
      rw [e, chg_total st hst h' hd]; omega
theorem chg_pos (st : Std) (p q d : Int) : PosS (chg st p q d) := fun sh hs => by
  obtain ⟨i, hi, rfl⟩ := List.mem_mapIdx.mp hs
  exact join_pos _
theorem chg_len (st : Std) (p q d : Int) : (chg st p q d).length = st.length := by simp [chg]

/-! ### kinds that stand -/
def Has (st : Std) (k : Str) : Prop := ∃ sh ∈ st, ∃ r ∈ sh, r.1 = k
def manyOf (st : Std) (k : Str) : Int := ((st.flatten.filter fun r => decide (r.1 = k)).map (·.2)).sum
theorem sum_pos_iff : ∀ {l : List Run}, AllPos l → (0 < (l.map (·.2)).sum ↔ l ≠ [])
  | [], _ => by simp
  | r :: l, h => by
    have h1 := sum_nonneg (l := l) fun x hx => h x (List.mem_cons_of_mem _ hx)
    have h2 := h r List.mem_cons_self
    have h3 : sumR l = (l.map (·.2)).sum := rfl
    rw [List.map_cons, List.sum_cons]
    constructor
    · intro _ z; cases z
    · intro _; omega
theorem many_iff {st : Std} (h : PosS st) (k : Str) : 0 < manyOf st k ↔ Has st k := by
  unfold manyOf
  rw [sum_pos_iff]
  · constructor
    · intro z
      obtain ⟨r, hr⟩ := List.exists_mem_of_ne_nil _ z
      obtain ⟨h1, h2⟩ := List.mem_filter.mp hr
      obtain ⟨sh, hs, hr'⟩ := List.mem_flatten.mp h1
      exact ⟨sh, hs, r, hr', of_decide_eq_true h2⟩
    · rintro ⟨sh, hs, r, hr, e⟩ z
      have hm : r ∈ st.flatten.filter fun r => decide (r.1 = k) := List.mem_filter.mpr ⟨List.mem_flatten.mpr ⟨sh, hs, hr⟩, decide_eq_true e⟩
      rw [z] at hm
      cases hm
  · intro r hr
    obtain ⟨h1, _⟩ := List.mem_filter.mp hr
    obtain ⟨sh, hs, hr'⟩ := List.mem_flatten.mp h1
    exact h sh hs r hr'

/-! ### books that are out -/
def encR (r : Run) : PyData := .tuple [.str r.1, .int r.2]
def srt (l : List Run) : List Run := l.mergeSort (PySem.W.dataLe false encR)
theorem srt_perm (l : List Run) : (srt l).Perm l := List.mergeSort_perm _ _
def look (l : List Run) (k : Str) : Int := match l.find? fun r => decide (r.1 = k) with
  | some r => r.2
  | none => 0
/-- found[kind] = found.get(kind, 0) + more -/
def putR (l : List Run) (k : Str) (v : Int) : List Run := if l.any (fun r => decide (r.1 = k)) = true then l.map fun r => if r.1 = k then (r.1, v) else r else l ++ [(k, v)]
def wout (l : List Run) (k : Str) (d : Int) : List Run := (srt (putR l k (look l k + d))).filter fun r => decide (0 < r.2)
def cnt (l : List Run) (k : Str) : Int := sumR (l.filter fun r => decide (r.1 = k))
def keys (l : List Run) : List Str := l.map (·.1)
theorem perm_sumR {a b : List Run} (h : a.Perm b) : sumR a = sumR b := by
  induction h with
  | nil => rfl
  | cons x _ ih => rw [sumR_cons, sumR_cons, ih]
  | swap x y l => rw [sumR_cons, sumR_cons, sumR_cons, sumR_cons]; omega
  | trans _ _ h1 h2 => rw [h1, h2]
theorem perm_cnt {a b : List Run} (h : a.Perm b) (k : Str) : cnt a k = cnt b k := perm_sumR (h.filter _)
theorem cnt_nil (k : Str) : cnt [] k = 0 := rfl
theorem cnt_cons (r : Run) (l : List Run) (k : Str) : cnt (r :: l) k = (if r.1 = k then r.2 else 0) + cnt l k := by
  unfold cnt
  by_cases h : r.1 = k
  · rw [List.filter_cons, if_pos (decide_eq_true h), sumR_cons, if_pos h]
  · rw [List.filter_cons, if_neg (by simpa using h), if_neg h]; omega
theorem cnt_out {l : List Run} {k : Str} (h : k ∉ keys l) : cnt l k = 0 := by
  unfold cnt
  have e : l.filter (fun r => decide (r.1 = k)) = [] := List.filter_eq_nil_iff.mpr fun r hr z => h (List.mem_map.mpr ⟨r, hr, of_decide_eq_true z⟩)
  rw [e]; rfl
theorem look_cons (r : Run) (l : List Run) (k : Str) : look (r :: l) k = if r.1 = k then r.2 else look l k := by
  unfold look
  by_cases h : r.1 = k
  · rw [List.find?_cons_of_pos (by simpa using h), if_pos h]
  · rw [List.find?_cons_of_neg (by simpa using h), if_neg h]
theorem look_cnt : ∀ {l : List Run}, (keys l).Nodup → ∀ k, look l k = cnt l k
  | [], _, k => rfl
  | r :: l, h, k => by
    obtain ⟨h1, h2⟩ := List.nodup_cons.mp h
    rw [look_cons, cnt_cons]
    by_cases e : r.1 = k
    · rw [if_pos e, if_pos e, cnt_out (by rw [← e]; exact h1)]; omega
    · rw [if_neg e, if_neg e, look_cnt h2 k]; omega
theorem map_off : ∀ {l : List Run} {k : Str} {v : Int}, k ∉ keys l → (l.map fun r => if r.1 = k then (r.1, v) else r) = l
  | [], _, _, _ => rfl
  | r :: l, k, v, h => by
    have h1 : r.1 ≠ k := fun z => h (by rw [← z]; exact List.mem_cons_self)
    rw [List.map_cons, if_neg h1, map_off fun z => h (List.mem_cons_of_mem _ z)]
theorem any_keys {l : List Run} {k : Str} : l.any (fun r => decide (r.1 = k)) = true ↔ k ∈ keys l := by
  rw [List.any_eq_true]
  constructor
  · rintro ⟨r, hr, e⟩
    exact List.mem_map.mpr ⟨r, hr, of_decide_eq_true e⟩
  · intro h
    obtain ⟨r, hr, e⟩ := List.mem_map.mp h
    exact ⟨r, hr, decide_eq_true e⟩
theorem map_sum : ∀ {l : List Run} {k : Str} {v : Int}, (keys l).Nodup → k ∈ keys l → sumR (l.map fun r => if r.1 = k then (r.1, v) else r) = sumR l - look l k + v
  | [], k, v, _, h => by cases h
  | r :: l, k, v, hn, h => by
    obtain ⟨h1, h2⟩ := List.nodup_cons.mp hn
    rw [List.map_cons, sumR_cons, sumR_cons, look_cons]
    by_cases e : r.1 = k
    · rw [if_pos e, if_pos e, map_off (by rw [← e]; exact h1)]
      show v + sumR l = _
      omega
    · have hm : k ∈ keys l := by
        rcases List.mem_cons.mp h with z | z
        · exact absurd z.symm e
        · exact z
      rw [if_neg e, if_neg e, map_sum h2 hm]; omega
theorem map_cnt : ∀ {l : List Run} {k : Str} {v : Int}, (keys l).Nodup → k ∈ keys l → ∀ j, cnt (l.map fun r => if r.1 = k then (r.1, v) else r) j = if j = k then v else cnt l j
  | [], k, v, _, h, j => by cases h
  | r :: l, k, v, hn, h, j => by
    obtain ⟨h1, h2⟩ := List.nodup_cons.mp hn
    rw [List.map_cons, cnt_cons, cnt_cons]
    by_cases e : r.1 = k
    · rw [if_pos e, map_off (by rw [← e]; exact h1)]
      by_cases ej : j = k
      · have e2 : r.1 = j := by rw [ej]; exact e
        rw [if_pos e2, if_pos ej, cnt_out (by rw [← e2]; exact h1)]
        show v + 0 = v
        omega
      · have e2 : ¬ r.1 = j := fun z => ej (by rw [← z]; exact e)
        rw [if_neg e2, if_neg e2, if_neg ej]
    · have hm : k ∈ keys l := by
        rcases List.mem_cons.mp h with z | z
        · exact absurd z.symm e
        · exact z
      rw [if_neg e, map_cnt h2 hm j]
      by_cases ej : j = k
      · have e2 : ¬ r.1 = j := fun z => e (by rw [z]; exact ej)
        rw [if_neg e2, if_pos ej, if_pos ej]; omega
      · rw [if_neg ej, if_neg ej]
theorem map_keys (l : List Run) (k : Str) (v : Int) : keys (l.map fun r => if r.1 = k then (r.1, v) else r) = keys l := by
  unfold keys
  rw [List.map_map]
  apply List.map_congr_left
  intro r _
  show (if r.1 = k then (r.1, v) else r).1 = r.1
  split <;> rfl
theorem cnt_append (a b : List Run) (k : Str) : cnt (a ++ b) k = cnt a k + cnt b k := by
  unfold cnt; rw [List.filter_append, sumR_append]
theorem look_out {l : List Run} {k : Str} (h : k ∉ keys l) : look l k = 0 := by
  unfold look
  have e : l.find? (fun r => decide (r.1 = k)) = none := List.find?_eq_none.mpr fun r hr z => h (List.mem_map.mpr ⟨r, hr, of_decide_eq_true z⟩)
  rw [e]
theorem putR_sum {l : List Run} {k : Str} {v : Int} (h : (keys l).Nodup) : sumR (putR l k v) = sumR l - look l k + v := by
  unfold putR
  split
  · rename_i e
    exact map_sum h (any_keys.mp e)
  · rename_i e
    rw [sumR_append, sumR_cons, sumR_nil, look_out fun z => e (any_keys.mpr z)]
    show sumR l + (v + 0) = _
    omega
theorem putR_cnt {l : List Run} {k : Str} {v : Int} (h : (keys l).Nodup) (j : Str) : cnt (putR l k v) j = if j = k then v else cnt l j := by
  unfold putR
  split
  · rename_i e
    exact map_cnt h (any_keys.mp e) j
  · rename_i e
    have hk : k ∉ keys l := fun z => e (any_keys.mpr z)
    rw [cnt_append, cnt_cons, cnt_nil]
    by_cases ej : j = k
    · rw [if_pos ej.symm, if_pos ej, ej, cnt_out hk]
      show 0 + (v + 0) = v
      omega
    · rw [if_neg fun z => ej z.symm, if_neg ej]; omega
theorem putR_nodup {l : List Run} {k : Str} {v : Int} (h : (keys l).Nodup) : (keys (putR l k v)).Nodup := by
  unfold putR
  split
  · rw [map_keys]; exact h
  · rename_i e
    have hk : k ∉ keys l := fun z => e (any_keys.mpr z)
    unfold keys
    rw [List.map_append]
    refine List.nodup_append.mpr ⟨h, by simp, fun a ha b hb => ?_⟩
    have hb' : b = k := by simpa using hb
    rw [hb']
    rintro rfl
    exact hk ha
theorem putR_nonneg {l : List Run} {k : Str} {v : Int} (h : AllPos l) (hv : 0 ≤ v) : ∀ r ∈ putR l k v, 0 ≤ r.2 := by
  unfold putR
  intro r hr
  split at hr
  · obtain ⟨x, hx, e⟩ := List.mem_map.mp hr
    have hp := h x hx
    split at e
    · rw [← e]; exact hv
    · rw [← e]; omega
  · rcases List.mem_append.mp hr with hr | hr
    · have := h r hr; omega
    · rw [List.mem_singleton.mp hr]; exact hv
theorem filt_sum : ∀ {l : List Run}, (∀ r ∈ l, 0 ≤ r.2) → sumR (l.filter fun r => decide (0 < r.2)) = sumR l
  | [], _ => rfl
  | r :: l, h => by
    have ih := filt_sum (l := l) fun x hx => h x (List.mem_cons_of_mem _ hx)
    have h1 := h r List.mem_cons_self
    rw [List.filter_cons]
    by_cases e : 0 < r.2
    · rw [if_pos (decide_eq_true e), sumR_cons, sumR_cons, ih]
    · rw [if_neg (by simpa using e), sumR_cons, ih]; omega
theorem filt_cnt {l : List Run} (h : ∀ r ∈ l, 0 ≤ r.2) (k : Str) : cnt (l.filter fun r => decide (0 < r.2)) k = cnt l k := by
  unfold cnt
  rw [List.filter_filter]
  have e : (l.filter fun r => decide (r.1 = k) && decide (0 < r.2)) = (l.filter fun r => decide (r.1 = k)).filter fun r => decide (0 < r.2) := by
    rw [List.filter_filter]
    apply List.filter_congr
    intro r _
    rw [Bool.and_comm]
  rw [e]
  exact filt_sum fun r hr => h r (List.mem_filter.mp hr).1
theorem keys_filter_nodup {l : List Run} (p : Run → Bool) (h : (keys l).Nodup) : (keys (l.filter p)).Nodup :=
  List.Nodup.sublist (List.Sublist.map _ List.filter_sublist) h
theorem wout_nodup {l : List Run} {k : Str} {d : Int} (h : (keys l).Nodup) : (keys (wout l k d)).Nodup := by
  refine keys_filter_nodup _ ?_
  exact (List.Perm.nodup_iff ((srt_perm (putR l k (look l k + d))).map (fun r : Run => r.1))).mpr (putR_nodup h)
theorem wout_pos (l : List Run) (k : Str) (d : Int) : AllPos (wout l k d) := fun r hr => of_decide_eq_true (List.mem_filter.mp hr).2
theorem srt_nonneg {l : List Run} (h : ∀ r ∈ l, 0 ≤ r.2) : ∀ r ∈ srt l, 0 ≤ r.2 := fun r hr => h r ((srt_perm l).mem_iff.mp hr)
theorem wout_cnt {l : List Run} {k : Str} {d : Int} (h : (keys l).Nodup) (hp : AllPos l) (hd : 0 ≤ cnt l k + d) (j : Str) : cnt (wout l k d) j = cnt l j + if j = k then d else 0 := by
  have hn := putR_nonneg (k := k) hp (show 0 ≤ look l k + d by rw [look_cnt h]; exact hd)
  unfold wout
  rw [filt_cnt (srt_nonneg hn), perm_cnt (srt_perm _), putR_cnt h, look_cnt h]
  split
  · rename_i e; rw [e]
  · omega
theorem wout_sum {l : List Run} {k : Str} {d : Int} (h : (keys l).Nodup) (hp : AllPos l) (hd : 0 ≤ cnt l k + d) : sumR (wout l k d) = sumR l + d := by
  have hn := putR_nonneg (k := k) hp (show 0 ≤ look l k + d by rw [look_cnt h]; exact hd)
  unfold wout
  rw [filt_sum (srt_nonneg hn), perm_sumR (srt_perm _), putR_sum h]; omega
theorem cnt_pos_iff {l : List Run} (hp : AllPos l) (k : Str) : 0 < cnt l k ↔ k ∈ keys l := by
  unfold cnt
  have e : sumR (l.filter fun r => decide (r.1 = k)) = ((l.filter fun r => decide (r.1 = k)).map (·.2)).sum := rfl
  rw [e, sum_pos_iff fun r hr => hp r (List.mem_filter.mp hr).1]
  constructor
  · intro z
    obtain ⟨r, hr⟩ := List.exists_mem_of_ne_nil _ z
    obtain ⟨h1, h2⟩ := List.mem_filter.mp hr
    exact List.mem_map.mpr ⟨r, h1, of_decide_eq_true h2⟩
  · intro h z
    obtain ⟨r, hr, e⟩ := List.mem_map.mp h
    have hm : r ∈ l.filter fun r => decide (r.1 = k) := List.mem_filter.mpr ⟨hr, decide_eq_true e⟩
    rw [z] at hm
    cases hm

/-! ### the two machines -/
inductive Deed where
  | take (i j : Int)
  | put (k : Str) (i j : Int)
  | fin (k : Str) (i : Int)
  | lend (n : Int)

/-- the library's state; the law's -/
structure PSt where
  st : Std
  out : List Run
  ln : Int
  tk : Int
structure LSt where
  st : Std
  aw : List Str
  ln : Int
  tk : Int

def addAt (st : Std) (i : Int) (k : Str) : Std := st.modify i.toNat fun sh => sh ++ [(k, 1)]

def pstep (s : PSt) : Deed → Option PSt
  | .take i j => match runAt s.st i j with
    | none => none
    | some r => if s.ln ≤ sumR s.out then none else some ⟨chg s.st i j (-1), wout s.out r.1 1, s.ln, s.tk + 1⟩
  | .put k i j => if k ∈ keys s.out then (match runAt s.st i j with
      | none => none
      | some r => if r.1 = k then some ⟨chg s.st i j 1, wout s.out k (-1), s.ln, s.tk⟩ else none) else none
  | .fin k i => if k ∈ keys s.out then (if 0 ≤ i ∧ i < s.st.length then (if 0 < manyOf s.st k then none else some ⟨addAt s.st i k, wout s.out k (-1), s.ln, s.tk⟩) else none) else none
  | .lend n => if n < sumR s.out then none else some ⟨s.st, s.out, n, s.tk⟩

/-- a step of the law's machine: where the deed is refused, none; the books that are out in some order -/
inductive LStep : LSt → Deed → LSt → Prop
  | take {s : LSt} {i j : Int} {r : Run} {aw' : List Str} (h : runAt s.st i j = some r) (hl : (s.aw.length : Int) < s.ln) (ha : aw'.Perm (s.aw ++ [r.1])) : LStep s (.take i j) ⟨chg s.st i j (-1), aw', s.ln, s.tk + 1⟩
  | put {s : LSt} {k : Str} {i j : Int} {r : Run} (hk : k ∈ s.aw) (h : runAt s.st i j = some r) (e : r.1 = k) : LStep s (.put k i j) ⟨chg s.st i j 1, s.aw.erase k, s.ln, s.tk⟩
  | fin {s : LSt} {k : Str} {i : Int} (hk : k ∈ s.aw) (h : 0 ≤ i ∧ i < s.st.length) (hs : ¬ Has s.st k) : LStep s (.fin k i) ⟨addAt s.st i k, s.aw.erase k, s.ln, s.tk⟩
  | lend {s : LSt} {n : Int} (h : (s.aw.length : Int) ≤ n) : LStep s (.lend n) ⟨s.st, s.aw, n, s.tk⟩
/-- whether the law's machine takes it -/
def LOk (s : LSt) : Deed → Prop
  | .take i j => (∃ r, runAt s.st i j = some r) ∧ (s.aw.length : Int) < s.ln
  | .put k i j => k ∈ s.aw ∧ ∃ r, runAt s.st i j = some r ∧ r.1 = k
  | .fin k i => k ∈ s.aw ∧ (0 ≤ i ∧ i < s.st.length) ∧ ¬ Has s.st k
  | .lend n => (s.aw.length : Int) ≤ n

def bd (s : LSt) : Int := total s.st + s.aw.length
structure Wf (s : LSt) : Prop where
  pos : PosS s.st
  bd : bd s ≤ 60
  len : s.st.length ≤ 10
structure Rel (p : PSt) (s : LSt) : Prop where
  st : p.st = s.st
  ln : p.ln = s.ln
  tk : p.tk = s.tk
  nd : (keys p.out).Nodup
  pos : AllPos p.out
  cnt : ∀ k, cnt p.out k = (s.aw.count k : Nat)
  sum : sumR p.out = (s.aw.length : Nat)
theorem Rel.mem {p : PSt} {s : LSt} (R : Rel p s) (k : Str) : k ∈ keys p.out ↔ k ∈ s.aw := by
  rw [← cnt_pos_iff R.pos, R.cnt]
  constructor
  · intro h
    exact List.count_pos_iff.mp (by omega)
  · intro h
    have := List.count_pos_iff.mpr h
    omega
theorem runAt_mem {st : Std} {p q : Int} {r : Run} (h : runAt st p q = some r) : ∃ sh ∈ st, r ∈ sh := by
  unfold runAt at h
  split at h
  · cases e : st[p.toNat]? with
    | none => rw [e] at h; simp at h
    | some sh =>
      rw [e] at h
      exact ⟨sh, List.mem_of_getElem? e, List.mem_of_getElem? h⟩
  · cases h
theorem addAt_total : ∀ (st : Std) {i : Int} {k : Str}, 0 ≤ i → i < st.length → total (addAt st i k) = total st + 1
  | [], i, k, h0, h => by simp at h; omega
  | s :: st, i, k, h0, h => by
    unfold addAt
    by_cases e : i = 0
    · subst e
      show total ((s ++ [(k, 1)]) :: st) = _
      rw [total_cons, total_cons, sumR_append, sumR_cons, sumR_nil]
      show sumR s + (1 + 0) + _ = _
      omega
    · have z : i.toNat = (i - 1).toNat + 1 := by omega
      have ih := addAt_total st (i := i - 1) (k := k) (by omega) (by rw [List.length_cons] at h; omega)
      unfold addAt at ih
      rw [z]
      show total (s :: st.modify (i - 1).toNat _) = _
      rw [total_cons, total_cons, ih]; omega
theorem addAt_pos {st : Std} {i : Int} {k : Str} (h : PosS st) : PosS (addAt st i k) := fun sh hs => by
  unfold addAt at hs
  obtain ⟨j, hj, e⟩ := List.mem_iff_getElem.mp hs
  rw [List.getElem_modify] at e
  split at e
  · rw [← e]
    exact (h _ (List.getElem_mem _)).append (.one (Int.zero_lt_one))
  · rw [← e]
    exact h _ (List.getElem_mem _)
theorem addAt_len (st : Std) (i : Int) (k : Str) : (addAt st i k).length = st.length := by simp [addAt]
theorem Wf.step {s s' : LSt} {d : Deed} (h : Wf s) (t : LStep s d s') : Wf s' := by
  obtain ⟨hp, hb, hl⟩ := h
  unfold Sh.bd at hb
  cases t with
  | @take i j r aw' h1 h2 ha =>
    obtain ⟨sh, hs, hr⟩ := runAt_mem h1
    have hr1 := hp sh hs r hr
    refine ⟨chg_pos _ _ _ _, ?_, by rw [chg_len]; exact hl⟩
    unfold Sh.bd
    show total (chg s.st i j (-1)) + (aw'.length : Int) ≤ 60
    rw [chg_total s.st hp h1 (by omega), ha.length_eq, List.length_append, List.length_singleton]
    omega
  | @put k i j r hk h1 e =>
    obtain ⟨sh, hs, hr⟩ := runAt_mem h1
    have hr1 := hp sh hs r hr
    refine ⟨chg_pos _ _ _ _, ?_, by rw [chg_len]; exact hl⟩
    unfold Sh.bd
    show total (chg s.st i j 1) + ((s.aw.erase k).length : Int) ≤ 60
    have := List.length_pos_of_mem hk
    rw [chg_total s.st hp h1 (by omega), List.length_erase_of_mem hk]
    omega
  | @fin k i hk h1 hs =>
    refine ⟨addAt_pos hp, ?_, by rw [addAt_len]; exact hl⟩
    unfold Sh.bd
    show total (addAt s.st i k) + ((s.aw.erase k).length : Int) ≤ 60
    have := List.length_pos_of_mem hk
    rw [addAt_total s.st h1.1 h1.2, List.length_erase_of_mem hk]
    omega
  | @lend n h1 => exact ⟨hp, hb, hl⟩
theorem cnt_le_sum {l : List Run} (hp : AllPos l) (k : Str) : 0 ≤ cnt l k := sum_nonneg fun r hr => hp r (List.mem_filter.mp hr).1
/-- the library's machine takes what the law's takes, and the two go on alike -/
theorem Rel.ok {p : PSt} {s : LSt} (R : Rel p s) (W : Wf s) (d : Deed) : (pstep p d).isSome = true ↔ LOk s d := by
  cases d with
  | take i j =>
    unfold pstep LOk
    rw [R.st]
    dsimp only
    cases e : runAt s.st i j with
    | none =>
      dsimp only
      constructor
      · intro z; cases z
      · rintro ⟨⟨r, z⟩, _⟩; cases z
    | some r =>
      have e1 := R.ln
      have e2 := R.sum
      dsimp only
      by_cases h : p.ln ≤ sumR p.out
      · rw [if_pos h]
        constructor
        · intro z; cases z
        · rintro ⟨_, z⟩; omega
      · rw [if_neg h]
        constructor
        · intro _; exact ⟨⟨r, rfl⟩, by omega⟩
        · intro _; rfl
  | put k i j =>
    unfold pstep LOk
    rw [R.st]
    dsimp only
    by_cases hk : k ∈ s.aw
    · rw [if_pos ((R.mem k).mpr hk)]
      cases e : runAt s.st i j with
      | none =>
        dsimp only
        constructor
        · intro z; cases z
        · rintro ⟨_, r, z, _⟩; cases z
      | some r =>
        dsimp only
        by_cases z : r.1 = k
        · rw [if_pos z]
          constructor
          · intro _; exact ⟨hk, r, rfl, z⟩
          · intro _; rfl
        · rw [if_neg z]
          constructor
          · intro y; cases y
          · rintro ⟨_, r', y, w⟩
            cases y
            exact absurd w z
    · rw [if_neg fun z => hk ((R.mem k).mp z)]
      constructor
      · intro y; cases y
      · rintro ⟨y, _⟩; exact absurd y hk
  | fin k i =>
    unfold pstep LOk
    rw [R.st]
    dsimp only
    by_cases hk : k ∈ s.aw
    · rw [if_pos ((R.mem k).mpr hk)]
      by_cases hi : 0 ≤ i ∧ i < (s.st.length : Int)
      · rw [if_pos hi]
        by_cases hm : 0 < manyOf s.st k
        · rw [if_pos hm]
          constructor
          · intro y; cases y
          · rintro ⟨_, _, y⟩; exact absurd ((many_iff W.pos k).mp hm) y
        · rw [if_neg hm]
          constructor
          · intro _; exact ⟨hk, hi, fun z => hm ((many_iff W.pos k).mpr z)⟩
          · intro _; rfl
      · rw [if_neg hi]
        constructor
        · intro z; cases z
        · intro z; exact absurd z.2.1 hi
    · rw [if_neg fun z => hk ((R.mem k).mp z)]
      constructor
      · intro y; cases y
      · rintro ⟨y, _⟩; exact absurd y hk
  | lend n =>
    unfold pstep LOk
    have e2 := R.sum
    dsimp only
    by_cases h : n < sumR p.out
    · rw [if_pos h]
      constructor
      · intro z; cases z
      · intro z; omega
    · rw [if_neg h]
      constructor
      · intro _; omega
      · intro _; rfl
theorem Rel.step {p p' : PSt} {s s' : LSt} {d : Deed} (R : Rel p s) (h : pstep p d = some p') (t : LStep s d s') : Rel p' s' := by
  cases t with
  | @take i j r aw' h1 h2 ha =>
    unfold pstep at h
    dsimp only at h
    rw [R.st, h1] at h
    dsimp only at h
    rw [if_neg (by rw [R.sum, R.ln]; omega)] at h
    cases h
    have hc : 0 ≤ Sh.cnt p.out r.1 + 1 := by have := cnt_le_sum R.pos r.1; omega
    refine ⟨rfl, R.ln, congrArg (· + 1) R.tk, wout_nodup R.nd, wout_pos _ _ _, fun k => ?_, ?_⟩
    · show Sh.cnt (wout p.out r.1 1) k = (aw'.count k : Nat)
      rw [wout_cnt R.nd R.pos hc, R.cnt, ha.count_eq, List.count_append, List.count_singleton]
      by_cases e : k = r.1
      · subst e; simp
      · rw [if_neg e]
        have : (r.1 == k) = false := by simpa using fun z => e z.symm
        simp [this]
    · show sumR (wout p.out r.1 1) = (aw'.length : Nat)
      rw [wout_sum R.nd R.pos hc, R.sum, ha.length_eq, List.length_append, List.length_singleton]
      omega
  | @put k i j r hk h1 e =>
    unfold pstep at h
    dsimp only at h
    rw [if_pos ((R.mem k).mpr hk), R.st, h1] at h
    dsimp only at h
    rw [if_pos e] at h
    cases h
    have hc : 0 ≤ Sh.cnt p.out k + -1 := by
      have := (cnt_pos_iff R.pos k).mpr ((R.mem k).mpr hk); omega
    refine ⟨rfl, R.ln, R.tk, wout_nodup R.nd, wout_pos _ _ _, fun l => ?_, ?_⟩
    · show Sh.cnt (wout p.out k (-1)) l = ((s.aw.erase k).count l : Nat)
      rw [wout_cnt R.nd R.pos hc, R.cnt]
      by_cases el : l = k
      · subst el
        rw [List.count_erase_self, if_pos rfl]
        have := List.count_pos_iff.mpr hk
        omega
      · rw [if_neg el, List.count_erase_of_ne (by simpa using el)]; omega
    · show sumR (wout p.out k (-1)) = ((s.aw.erase k).length : Nat)
      have := List.length_pos_of_mem hk
      rw [wout_sum R.nd R.pos hc, R.sum, List.length_erase_of_mem hk]; omega
  | @fin k i hk h1 hs =>
    unfold pstep at h
    dsimp only at h
    rw [if_pos ((R.mem k).mpr hk), R.st, if_pos h1] at h
    split at h
    · cases h
    · cases h
      have hc : 0 ≤ Sh.cnt p.out k + -1 := by
        have := (cnt_pos_iff R.pos k).mpr ((R.mem k).mpr hk); omega
      refine ⟨rfl, R.ln, R.tk, wout_nodup R.nd, wout_pos _ _ _, fun l => ?_, ?_⟩
      · show Sh.cnt (wout p.out k (-1)) l = ((s.aw.erase k).count l : Nat)
        rw [wout_cnt R.nd R.pos hc, R.cnt]
        by_cases el : l = k
        · subst el
          rw [List.count_erase_self, if_pos rfl]
          have := List.count_pos_iff.mpr hk
          omega
        · rw [if_neg el, List.count_erase_of_ne (by simpa using el)]; omega
      · show sumR (wout p.out k (-1)) = ((s.aw.erase k).length : Nat)
        have := List.length_pos_of_mem hk
        rw [wout_sum R.nd R.pos hc, R.sum, List.length_erase_of_mem hk]; omega
  | @lend n h1 =>
    unfold pstep at h
    dsimp only at h
    rw [if_neg (by rw [R.sum]; omega)] at h
    cases h
    exact ⟨R.st, rfl, R.tk, R.nd, R.pos, R.cnt, R.sum⟩

/-! ### rows of deeds -/
def pst (s : PSt) (d : Deed) : PSt := (pstep s d).getD s
def pafter (s : PSt) (ds : List Deed) : PSt := ds.foldl pst s
def pscan (s : PSt) : List Deed → List PSt
  | [] => [s]
  | d :: ds => s :: pscan (pst s d) ds
def Takes (s : PSt) : List Deed → Prop
  | [] => True
  | d :: ds => (pstep s d).isSome = true ∧ Takes (pst s d) ds
/-- how many of a row are done -/
def doN (s : PSt) : List Deed → Nat
  | [] => 0
  | d :: ds => if (pstep s d).isSome = true then doN (pst s d) ds + 1 else 0
theorem doN_le : ∀ (ds : List Deed) (s : PSt), doN s ds ≤ ds.length
  | [], _ => Nat.le_refl _
  | d :: ds, s => by
    unfold doN
    split
    · have := doN_le ds (pst s d); rw [List.length_cons]; omega
    · omega
theorem takes_doN : ∀ (ds : List Deed) (s : PSt), Takes s (ds.take (doN s ds))
  | [], _ => by rw [List.take_nil]; trivial
  | d :: ds, s => by
    unfold doN
    split
    · rename_i h
      exact ⟨h, takes_doN ds _⟩
    · trivial
theorem takes_append : ∀ (a b : List Deed) (s : PSt), Takes s (a ++ b) ↔ Takes s a ∧ Takes (pafter s a) b
  | [], b, s => by
    constructor
    · intro h; exact ⟨trivial, h⟩
    · intro h; exact h.2
  | d :: a, b, s => by
    constructor
    · intro h
      have h2 := (takes_append a b _).mp h.2
      exact ⟨⟨h.1, h2.1⟩, h2.2⟩
    · intro h
      exact ⟨h.1.1, (takes_append a b _).mpr ⟨h.1.2, h.2⟩⟩
theorem takes_take {ds : List Deed} {s : PSt} (h : Takes s ds) (n : Nat) : Takes s (ds.take n) := by
  have e := List.take_append_drop n ds
  rw [← e] at h
  exact ((takes_append _ _ _).mp h).1
theorem pafter_append (s : PSt) (a b : List Deed) : pafter s (a ++ b) = pafter (pafter s a) b := List.foldl_append
theorem pscan_len : ∀ (ds : List Deed) (s : PSt), (pscan s ds).length = ds.length + 1
  | [], _ => rfl
  | d :: ds, s => by
    unfold pscan
    rw [List.length_cons, pscan_len ds, List.length_cons]
theorem pscan_snoc : ∀ (ds : List Deed) (s : PSt) (d : Deed), pscan s (ds ++ [d]) = pscan s ds ++ [pst (pafter s ds) d]
  | [], _, _ => rfl
  | c :: ds, s, d => by
    show s :: pscan (pst s c) (ds ++ [d]) = s :: (pscan (pst s c) ds ++ [pst (pafter (pst s c) ds) d])
    rw [pscan_snoc ds]
theorem pscan_last : ∀ (ds : List Deed) (s : PSt), (pscan s ds)[ds.length]? = some (pafter s ds)
  | [], _ => rfl
  | d :: ds, s => by
    show (s :: pscan (pst s d) ds)[ds.length + 1]? = _
    rw [List.getElem?_cons_succ, pscan_last ds]
    rfl
theorem pscan_dropLast (ds : List Deed) (s : PSt) (d : Deed) : (pscan s (ds ++ [d])).dropLast = pscan s ds := by
  rw [pscan_snoc, List.dropLast_concat]
end Sh
/-! d.items() of a dict with text keys and whole numbers; sorted(d.items()) -/
namespace Sh
open PySem PySem.Spec PyProof.Rows L2 L2.DX
def kvR (r : Run) : Key × V := (Sum.inr r.1, V.int r.2)
def runV (r : Run) : List V := [V.str r.1, V.int r.2]
theorem paired_maps {α β γ : Type} {F : α → β → Prop} {f : γ → α} {g : γ → β} : ∀ {zs : List γ}, (∀ z ∈ zs, F (f z) (g z)) → Paired F (zs.map f) (zs.map g)
  | [], _ => .nil
  | z :: zs, h => .cons (h z List.mem_cons_self) (paired_maps fun y hy => h y (List.mem_cons_of_mem _ hy))
theorem entries_runs {P : Program} {w : World} : ∀ {es : List DictEntry} {l : List Run} {vs : List (Key × Value)}, Pairs (mixKind P w) es vs → KV (l.map kvR) vs → ∀ (j : Nat) (e : DictEntry), es[j]? = some e →
    ∃ r t1 t2, l[j]? = some r ∧ e.key = Value.str r.1 t1 ∧ e.val = Value.int r.2 t2
  | [], _, _, _, _, j, e, he => by simp at he
  | e0 :: es, [], vs, p, k, j, e, he => by
    rw [List.map_nil] at k
    cases k
    cases p
  | e0 :: es, r :: l, vs, p, k, j, e, he => by
    rw [List.map_cons] at k
    cases k with
    | @cons _ q _ qs hq hk =>
      obtain ⟨q1, q2⟩ := q
      cases p with
      | cons hkey hval hp =>
        cases j with
        | zero =>
          have ee : e0 = e := Option.some.inj he
          subst ee
          obtain ⟨e1, t2, e2⟩ := hq
          have e1' : (Sum.inr r.1 : Key) = q1 := e1
          subst e1'
          obtain ⟨t1, h1⟩ : ∃ t1, e0.key = Value.str r.1 t1 := by
            rcases keyIs_shape (show keyIs (Sum.inr r.1) e0.key = true from hkey) with ⟨i, t, z, _⟩ | ⟨x, t, z, y⟩
            · cases z
            · cases z
              exact ⟨t, y⟩
          exact ⟨r, t1, t2, rfl, h1, hval.trans e2⟩
        | succ j =>
          obtain ⟨r', t1, t2, a, b, c⟩ := entries_runs hp hk j e (by simpa using he)
          exact ⟨r', t1, t2, by simpa using a, b, c⟩
section
variable {X : Cx}
def rItemsK : V → List V → Hp → VK → Prop := fun x xs H Q => ∃ (a : Addr) (kvs : List (Key × V)), x = .ref a ∧ xs = [] ∧ H a = some (.dK kvs) ∧ ∀ p, H p = none → Q (.ref p) (upd H p (itemsO p a))
theorem mt_itemsK : MtR X "dict.items" rItemsK := by
  intro pins s σ H x xs v us Q I rx rxs h
  obtain ⟨a, kvs, rfl, rfl, ha, q⟩ := h
  cases rx
  cases rxs
  obtain ⟨z, hd, vs, rel, o, es, ep, ho, hx, hdat, _⟩ := dk_of I.hok ha
  refine DT.callItems (es := es) (ep := ep) hd ⟨o, ho, hx, hdat⟩ ?_
  have hf : H s.heap.objs.size = none := I.hok.fresh (Nat.le_refl _)
  exact ⟨.ref s.heap.objs.size, upd H s.heap.objs.size (itemsO s.heap.objs.size a), I.laid (t' := s.toks) (fun b u e => Heap.get?_push_of_some _ e) (Nat.le_refl _) (itemsO_ok (Heap.get?_push_size _ rfl)), rfl, q _ hf⟩
/-- sorted(d.items()) -/
def rSortR : List V → Hp → VK → Prop := fun vs H Q => ∃ (p a : Addr) (l : List Run), vs = [.ref p] ∧ H p = some (itemsO p a) ∧ H a = some (.dK (l.map kvR)) ∧
  ∀ (H' : Hp) (q : Addr) (ts : List Addr), (∀ b o, H b = some o → H' b = some o) → H q = none → H' q = some (.lst (ts.map V.ref)) → Paired (fun t r => H' t = some (.tup (runV r))) ts (srt l) → Q (.ref q) H'
theorem cr_sortR (hc : X.calm = true) (hu : X.A.units + 64 < cLine) : CallR X (.builtin "sorted") rSortR := by
  intro pins s σ H xs us Q I r h
  obtain ⟨p, a, l, rfl, hp, ha, q⟩ := h
  obtain rfl := Vals.ref1 r
  have view : s.heap.IsItemsView p a := (show ObjOk X.prog X.w H s.heap p (itemsO p a) from I.hok p _ hp).1
  obtain ⟨z, hd, vs, rel, o, es, ep, ho, hx, hdat, hkeys, hprs, hnd⟩ := dk_of I.hok ha
  have l1 : (l.map kvR).length = vs.length := Paired.length rel
  have l0 : es.toList.length = vs.length := hprs.length
  have l2 : es.size = l.length := by
    rw [List.length_map] at l1
    rw [Array.length_toList] at l0
    omega
  have hz : l.length ≤ sizeLine := by
    rw [List.length_map] at z
    exact z
  have hh : X.A.handled = none := I.ok.hd hc
  refine PySem.ShS.sorted_collected (DT.collectI (A := X.A.in1) (es := es) (ep := ep) hh view ⟨o, ho, hx, hdat⟩ (by omega) fun h' tk as hk hlt hl hG => ⟨by rw [List.length_map, hl]; omega, ?_⟩)
  have lak : as.length = l.length := by omega
  have nd : as.Nodup := List.Pairwise.imp (fun h => Nat.ne_of_lt h) hG.rise
  have pr : ∀ (j : Nat) (b : Addr), as[j]? = some b → ∃ r t1 t2, l[j]? = some r ∧ h'.get? b = some { cls := .type "tuple", data := .seq #[Value.str r.1 t1, Value.int r.2 t2] } := by
    intro j b hj
    obtain ⟨en, he, hg⟩ := hG.pairs j b hj
    obtain ⟨r, t1, t2, e1, e2, e3⟩ := entries_runs hprs rel j en (by simpa using he)
    exact ⟨r, t1, t2, e1, by rw [hg, e2, e3]⟩
  have zi : ∀ b ∈ as.zip l, ∃ j : Nat, as[j]? = some b.1 ∧ l[j]? = some b.2 := fun b hb => by
    obtain ⟨j, hj⟩ := List.mem_iff_getElem?.mp hb
    exact ⟨j, List.getElem?_zip_eq_some.mp hj⟩
  have prz : ∀ b ∈ as.zip l, ∃ t1 t2, h'.get? b.1 = some { cls := .type "tuple", data := .seq #[Value.str b.2.1 t1, Value.int b.2.2 t2] } := fun b hb => by
    obtain ⟨j, j1, j2⟩ := zi b hb
    obtain ⟨r, t1, t2, e1, e2⟩ := pr j b.1 j1
    have er : r = b.2 := Option.some.inj (e1.symm.trans j2)
    subst er
    exact ⟨t1, t2, e2⟩
  have hf : (as.zip l).map (fun b => Value.ref b.1) = as.map Value.ref := by
    have e : (as.zip l).map Prod.fst = as := List.map_fst_zip (by omega)
    rw [← e, List.map_map]
    rw [e]
    rfl
  have hs2 : (as.zip l).map Prod.snd = l := List.map_snd_zip (by omega)
  have E1 : PySem.W.EachIs (fun (v : Value) (b : Addr × Run) => v = .ref b.1) (as.map Value.ref) (as.zip l) := by
    rw [← hf]
    have t := PySem.W.EachIs.of (R := fun (v : Value) (b : Addr × Run) => v = .ref b.1) (zs := (as.zip l).map fun b => (Value.ref b.1, b)) (fun p hp => by
      obtain ⟨b, _, rfl⟩ := List.mem_map.mp hp
      rfl)
    rw [List.map_map, List.map_map] at t
    have e3 : (as.zip l).map (Prod.snd ∘ fun b => (Value.ref b.1, b)) = as.zip l := by
      show (as.zip l).map (fun b => b) = _
      exact List.map_id' _
    rw [e3] at t
    exact t
  have E2 : PySem.W.EachIs (fun (v : Value) (b : Addr × Run) => ∃ as', Reads h' v (encR b.2) as' ∧ h'.objs.size ∉ as') (as.map Value.ref) (as.zip l) := by
    rw [← hf]
    have t := PySem.W.EachIs.of (R := fun (v : Value) (b : Addr × Run) => ∃ as', Reads h' v (encR b.2) as' ∧ h'.objs.size ∉ as') (zs := (as.zip l).map fun b => (Value.ref b.1, b)) (fun p hp => by
      obtain ⟨b, hb, rfl⟩ := List.mem_map.mp hp
      obtain ⟨t1, t2, e⟩ := prz b hb
      refine ⟨_, Reads.tuple e rfl rfl (ReadsAll.cons (Reads.str _ _) (ReadsAll.cons (Reads.int _ _) ReadsAll.nil)), by simp⟩)
    rw [List.map_map, List.map_map] at t
    have e3 : (as.zip l).map (Prod.snd ∘ fun b => (Value.ref b.1, b)) = as.zip l := by
      show (as.zip l).map (fun b => b) = _
      exact List.map_id' _
    rw [e3] at t
    exact t
  refine PySem.ShS.sort_tail (s := { s with heap := h', toks := tk }) (enc := fun b : Addr × Run => encR b.2) E1 E2 (PySem.W.AllAlike.of fun a b => by simp [encR, PySem.W.alike, PySem.W.alikeAll]) (PySem.W.Sortable.tuples fun b => ⟨_, _, rfl⟩) (by rw [List.length_zip]; omega) (fun b _ => ?_) fun out c h2 hlen hR k2 hcl => ?_
  · have : (encR b.2).depth ≤ 2 := by simp [encR, PyData.depth, PyData.depthAll]
    omega
  · generalize hsb : (as.zip l).mergeSort (PySem.W.dataLe false fun b : Addr × Run => encR b.2) = sb at hR
    have hperm : sb.Perm (as.zip l) := by rw [← hsb]; exact List.mergeSort_perm _ _
    have hsnd : sb.map Prod.snd = srt l := by
      have e := PySem.W.sort_maps (r := PySem.W.dataLe false fun b : Addr × Run => encR b.2) (s := PySem.W.dataLe false encR) Prod.snd (l := as.zip l) (fun _ _ _ _ => rfl)
      rw [hsb, hs2] at e
      exact e
    have hout : out = (sb.map Prod.fst).map Value.ref := by
      have go : ∀ {vs : List Value} {bs : List (Addr × Run)}, PySem.W.EachIs (fun (v : Value) (b : Addr × Run) => v = .ref b.1) vs bs → vs = (bs.map Prod.fst).map Value.ref := by
        intro vs bs h
        induction h with
        | nil => rfl
        | cons h _ ih => rw [h, ih]; rfl
      exact go hR
    have hn0 : H h'.objs.size = none := I.hok.fresh (Nat.le_of_lt hlt)
    have kS : ∀ b o, s.heap.get? b = some o → h2.get? b = some o := fun b o e => k2 b o (hk b o e)
    have I1 : Inv X pins σ H { s with heap := h2, toks := tk } := I.kept (t' := tk) kS
    have hsl : sb.length = l.length := by
      rw [hperm.length_eq, List.length_zip]; omega
    have rv : Vals ((sb.map Prod.fst).map V.ref) out := by
      rw [hout]
      exact vals_maps (fun z : Addr => V.ref z) (fun z => Value.ref z) (sb.map Prod.fst) fun _ _ => rfl
    have I2 : Inv X pins σ (upd H h'.objs.size (.lst ((sb.map Prod.fst).map V.ref))) { s with heap := h2, toks := tk } :=
      I1.take (h' := h2) (t' := tk) (fun b ob _ e => e) (I.fpOk (Nat.le_of_lt hlt) hn0) ⟨by rw [List.length_map, List.length_map, hsl]; exact hz, out, c, rv, hcl⟩
    have ne0 : ∀ b o, h'.get? b = some o → b ≠ h'.objs.size := fun b o e => Nat.ne_of_lt (Heap.lt_size e)
    obtain ⟨H2, I3, g, qt⟩ := takeT (P := fun b vs => ∃ (j : Nat) (r : Run), as[j]? = some b ∧ l[j]? = some r ∧ vs = runV r) I as _ I2 nd fun b hb => by
      obtain ⟨j, hj⟩ := List.mem_iff_getElem?.mp hb
      obtain ⟨r, t1, t2, e1, e2⟩ := pr j b hj
      have hbl : s.heap.objs.size ≤ b := Nat.le_of_lt (hG.above b hb)
      refine ⟨hbl, ?_, runV r, ⟨j, r, hj, e1, rfl⟩, fun H3 => ⟨(by rw [sizeLine_eq]; show 2 ≤ 16777216; omega), [Value.str r.1 t1, Value.int r.2 t2], .cons ⟨t1, rfl⟩ (.cons ⟨t2, rfl⟩ .nil), ⟨_, k2 _ _ e2, rfl, 0, rfl⟩⟩⟩
      rw [upd_ne (ne0 _ _ e2)]
      exact I.hok.fresh hbl
    have gr : ∀ b o, H b = some o → H2 b = some o := fun b o e => g b o (by rw [upd_ne (ne_of_none e hn0)]; exact e)
    refine ⟨.ref h'.objs.size, H2, I3, rfl, q H2 h'.objs.size (sb.map Prod.fst) gr hn0 (g _ _ upd_same) ?_⟩
    rw [← hsnd]
    refine paired_maps fun b hb => ?_
    obtain ⟨i, i1, i2⟩ := zi b (hperm.mem_iff.mp hb)
    obtain ⟨vs', ⟨j, r', j1, j2, ev⟩, hH⟩ := qt b.1 (List.mem_of_getElem? i1)
    have eij : i = j := (List.getElem?_inj (List.getElem?_eq_some_iff.mp i1).1 nd).mp (i1.trans j1.symm)
    subst eij
    have ee : r' = b.2 := Option.some.inj (j2.symm.trans i2)
    rw [ev, ee] at hH
    exact hH
end
end Sh
/-! What the top has left, calls by names, what stands for the plain law's data in the heap. -/
namespace Sh
open PySem PySem.Spec PyProof.Rows L2
/-- what the top left -/
structure Txt (w : World) (K : PySem.W.Frag) (mg : Str → Option Value) : Prop where
  glo : ∀ x, x ∈ gNames → mg x = some (.ref (He.ga K x))
  free : ∀ x, x ∈ fNames → mg x = none
  str : ∀ x z, He.Fa.str x z ∈ fa → ∃ t, mg x = some (.str z t)
  fact : ∀ f, f ∈ fa → f.ok K = true
  def_ : ∀ d : He.DefD, d ∈ fn → ∃ fd, L2.FunD K d.name d.qual d.params d.body d.scope (d.dvs K) (d.kws K) (He.fAd K d.at_) fd
  more : moreB K = true
  tab : ∃ es n, L2.KDict K w (He.ga K "SIZES") es n
theorem txt_of {w : World} {K : PySem.W.Frag} {h h' : Heap} {mg : Str → Option Value} (c : He.SaysX fa fn tabs [] moreB w h K) (X : K.In h') (G : h'.Ns mainGlobals mg) : Txt w K mg where
  glo := fun x hx => He.glo_ok X G (c.t.d.facts (f := .glo x) (List.mem_append_left _ (List.mem_append_left _ (List.mem_append_left _ (List.mem_map.mpr ⟨x, hx, rfl⟩)))))
  free := fun x hx => He.free_ok X G (c.t.d.facts (f := .free x) (List.mem_append_left _ (List.mem_append_left _ (List.mem_append_right _ (List.mem_map.mpr ⟨x, hx, rfl⟩)))))
  str := fun x z h => He.str_ok X G (c.t.d.facts h)
  fact := fun f h => c.t.d.facts h
  def_ := fun d h => c.t.d.defs h
  more := c.more
  tab := c.t.tab 0
abbrev LC (K : PySem.W.Frag) : Addr := He.ga K "Library"
theorem Txt.cl {w : World} {K : PySem.W.Frag} {mg : Str → Option Value} (T : Txt w K mg) : Cls K (LC K) := He.cls_ok (T.fact (.cls "Library") (by simp [fa]))
theorem Txt.meth {w : World} {K : PySem.W.Frag} {mg : Str → Option Value} (T : Txt w K mg) {m : Str} (h : m ∈ meths) : Meth K (LC K) m (He.ma K (LC K) m) :=
  He.meth_ok (T.fact (.meth "Library" m) (List.mem_append_right _ (List.mem_map.mpr ⟨m, h, rfl⟩)))
theorem Txt.nS {w : World} {K : PySem.W.Frag} {mg : Str → Option Value} (T : Txt w K mg) : NoAttr K (LC K) "own_states" := He.noat_ok (T.fact (.noat "Library" "own_states") (by simp [fa]))
theorem Txt.nL {w : World} {K : PySem.W.Frag} {mg : Str → Option Value} (T : Txt w K mg) : NoAttr K (LC K) "own_log" := He.noat_ok (T.fact (.noat "Library" "own_log") (by simp [fa]))
theorem Txt.mk1 {w : World} {K : PySem.W.Frag} {mg : Str → Option Value} (T : Txt w K mg) : Mk K (LC K) (He.ma K (LC K) "__init__") := He.mkr_ok (T.fact (.mkr "Library") (by simp [fa]))
/-- a module's text -/
theorem pe_con {X : Cx} {w : World} (T : Txt w X.K X.mg) (x z : Str) {pos : Pos} (h : He.Fa.str x z ∈ fa := by simp [fa]) (hg : Gl X x := by rfl) (hd : (x == ("__debug__" : Str)) = false := by decide) : PE X (.Name x pos) (tC (.str z)) := by
  obtain ⟨t, e⟩ := T.str x z h
  exact pe_glob hg e ⟨t, rfl⟩ hd
/-! ### defs by names -/
structure Def (P : Program) (w : World) (K : PySem.W.Frag) (mg : Str → Option Value) (base : Heap) (CX : CXT) (k : Nat) (x : Str) (ps : List Str) (sp : Sp) : Prop where
  ex : ∃ fd, FnOk P w K mg base CX k (He.ga K x) fd ps sp ∧ Binds K fd ps []
  kp : PySem.W.keepIn K (.ref (He.ga K x)) = true
  g : mg x = some (.ref (He.ga K x))
structure Mth (P : Program) (w : World) (K : PySem.W.Frag) (mg : Str → Option Value) (base : Heap) (CX : CXT) (k : Nat) (m : Str) (ps : List Str) (sp : Sp) : Prop where
  ex : ∃ fd, FnOk P w K mg base CX k (He.ma K (LC K) m) fd ps sp ∧ Binds K fd ps []
  me : Meth K (LC K) m (He.ma K (LC K) m)
section
variable {X : Cx} {CX : CXT} {j k : Nat} {x m : Str} {ps : List Str} {sp : Sp} {t : TA} {ta : TE} {e o : Expr} {es : List Expr} {p pos apos : Pos}
theorem pe_fn (d : Def X.prog X.w X.K X.mg X.base CX0 k x ps sp) (hr : Room j X.A) (ha : PA X (e :: es) t) (hk : k ≤ j := by decide) (hg : Gl X x := by rfl)
    (hdb : (x == ("__debug__" : Str)) = false := by decide) (he : starEach (e :: es) X.env = (false, eval e X.env) :: starEach es X.env := by rfl) (hpl : (backTo pos (starEach es X.env)).any (·.1) = false := by rfl) :
    PE X (.Call (.Name x p) (e :: es) [] pos) (tCall sp [] E0 t) := by
  obtain ⟨fd, F, b⟩ := d.ex
  exact pe_call F (hr.mono hk) hg d.g d.kp b .nil pass0 ha hdb he hpl
theorem pe_me {pl : Sem Bool} (d : Mth X.prog X.w X.K X.mg X.base CX0 k m ps sp) (hr : Room j X.A) (c : Cls X.K (LC X.K)) (he : PE X o ta) (ha : PA X (e :: es) t) (hk : k ≤ j := by decide)
    (hst : starEach (e :: es) X.env = (false, eval e X.env) :: starEach es X.env := by rfl) (hpl : (backTo pos (starEach es X.env)).any (·.1) = false := by rfl)
    (ht : eval (.Call (.Attribute o m apos) (e :: es) [] pos) X.env = (do
      let ov ← eval o X.env
      standAt apos.atName
      let (f, first) ← holding [ov] (getMethod ov m pl)
      callWith pos f first (backTo pos (starEach (e :: es) X.env)) (backToKw pos (keywordEach [] X.env))) := by rfl) :
    PE X (.Call (.Attribute o m apos) (e :: es) [] pos) (tMeth (LC X.K) m sp [] E0 ta t) := by
  obtain ⟨fd, F, b⟩ := d.ex
  exact pe_meth he c d.me F (hr.mono hk) b .nil pass0 ha hst hpl ht
theorem pe_me0 {pl : Sem Bool} (d : Mth X.prog X.w X.K X.mg X.base CX0 k m ps sp) (hr : Room j X.A) (c : Cls X.K (LC X.K)) (he : PE X o ta) (hk : k ≤ j := by decide)
    (ht : eval (.Call (.Attribute o m apos) [] [] pos) X.env = (do
      let ov ← eval o X.env
      standAt apos.atName
      let (f, first) ← holding [ov] (getMethod ov m pl)
      callWith pos f first (backTo pos (starEach [] X.env)) (backToKw pos (keywordEach [] X.env))) := by rfl) :
    PE X (.Call (.Attribute o m apos) [] [] pos) (tMeth (LC X.K) m sp [] E0 ta tNil) := by
  obtain ⟨fd, F, b⟩ := d.ex
  exact pe_meth0 he c d.me F (hr.mono hk) b .nil pass0 ht
end
section
variable {P : Program} {w : World} {K : PySem.W.Frag} {mg : Str → Option Value} {base : Heap}
/-- a def from its body's walk -/
theorem Def.of {CX : CXT} {k : Nat} {x : Str} {st : Stmt} {N ps : List Str} {sp : Sp} (T : Txt w K mg) (hd : gD x st ∈ fn) (hx : x ∈ gNames) (S : FnScope N ps (defScope st))
    (hb : ∀ (kV doc pm : Value) (an : Option Addr) (cdv ct : Value) (us : List Value), us.length = ps.length → bindArgs (PySem.W.fnOf x x (defArgs st) (defBody st) (defScope st) .none kV doc pm an cdv ct) ⟨us, []⟩ = pure (ps.zip us))
    (len : ∀ vs H Q E, sp vs H Q E → vs.length = ps.length)
    (hbody : ∀ (cdv : Value) (A : Around) (outer : List Env) (s : Shared) (H : Hp) (vs : List V) (Q : VK) (E : XK), Room k (A.deeper (envOfC x (defScope st) s.heap.objs.size (He.ga K x) cdv)) → sp vs H Q E →
      ∃ t, PSs (cxOf CX P w K mg base N x (defScope st) (He.ga K x) cdv A outer s H E) (defBody st) t ∧ t { nx := fun _ H' => Q .non H', rt := Q } (start N vs) H) : Def P w K mg base CX (k + 1) x ps sp := by
  obtain ⟨fd, F⟩ := T.def_ _ hd
  exact ⟨⟨fd, FunD.ok F S len hbody, FunD.bindsN F hb⟩, F.kp, T.glo x hx⟩
theorem Mth.of {CX : CXT} {k : Nat} {m q : Str} {st : Stmt} {N ps : List Str} {sp : Sp} (T : Txt w K mg) (hd : mD "Library" m q st [] [] ∈ fn) (hx : m ∈ meths) (S : FnScope N ps (defScope st))
    (hb : ∀ (kV doc pm : Value) (an : Option Addr) (cdv ct : Value) (us : List Value), us.length = ps.length → bindArgs (PySem.W.fnOf m q (defArgs st) (defBody st) (defScope st) .none kV doc pm an cdv ct) ⟨us, []⟩ = pure (ps.zip us))
    (len : ∀ vs H Q E, sp vs H Q E → vs.length = ps.length)
    (hbody : ∀ (cdv : Value) (A : Around) (outer : List Env) (s : Shared) (H : Hp) (vs : List V) (Q : VK) (E : XK), Room k (A.deeper (envOfC q (defScope st) s.heap.objs.size (He.ma K (LC K) m) cdv)) → sp vs H Q E →
      ∃ t, PSs (cxOf CX P w K mg base N q (defScope st) (He.ma K (LC K) m) cdv A outer s H E) (defBody st) t ∧ t { nx := fun _ H' => Q .non H', rt := Q } (start N vs) H) : Mth P w K mg base CX (k + 1) m ps sp := by
  obtain ⟨fd, F⟩ := T.def_ _ hd
  exact ⟨⟨fd, FunD.ok F S len hbody, FunD.bindsN F hb⟩, T.meth hx⟩
end
theorem ps_nox {X : Cx} {st : Stmt} {t : TS} (h : PS X.nox st t) : PS X st t := ⟨fun pins s σ H D I hw =>
  wpAny_mono (h.run pins s σ H D (I.wish _) hw) (fun _ _ q => q.unwish) fun _ _ z => False.elim z⟩
/-- an expression that is never come to -/
theorem pe_never {X : Cx} {e : Expr} : PE X e (fun _ _ _ => False) := ⟨fun _ _ _ _ _ _ h => h.elim⟩
/-! ### heaps -/
/-- all that is tracked stays -/
def Ex (H H' : Hp) : Prop := ∀ b o, H b = some o → H' b = some o
theorem Ex.refl (H : Hp) : Ex H H := fun _ _ h => h
theorem Ex.trans {H H1 H2 : Hp} (a : Ex H H1) (b : Ex H1 H2) : Ex H H2 := fun x o h => b x o (a x o h)
theorem Ex.new {H : Hp} {p : Addr} {o : HO} (h : H p = none) : Ex H (upd H p o) := fun a u e => by
  rw [upd_ne (ne_of_none e h)]
  exact e
theorem Ex.mut {H H' : Hp} {p : Addr} {o : HO} (e : Ex H H') (h : H p = none) : Ex H (upd H' p o) := fun a u q => by
  rw [upd_ne (ne_of_none q h)]
  exact e a u q
theorem Ex.sq {K : PySem.W.Frag} {H H' : Hp} {a : Addr} {xs : List V} (e : Ex H H') (h : SqL K H a xs) : SqL K H' a xs := Same.seq e h
/-- what never changes -/
def Im : HO → Bool
  | .tup _ => true
  | .frz _ _ => true
  | _ => false
/-- tuples stay -/
def Tk (H H' : Hp) : Prop := ∀ b o, Im o = true → H b = some o → H' b = some o
theorem Tk.refl (H : Hp) : Tk H H := fun _ _ _ h => h
theorem Tk.trans {H H1 H2 : Hp} (a : Tk H H1) (b : Tk H1 H2) : Tk H H2 := fun c o i h => b c o i (a c o i h)
theorem tk_ex {H H' : Hp} (e : Ex H H') : Tk H H' := fun b o _ h => e b o h
theorem tk_new {H : Hp} {p : Addr} {o : HO} (h : H p = none) : Tk H (upd H p o) := tk_ex (Ex.new h)
theorem tk_upd {H : Hp} {p : Addr} {o o' : HO} (h : H p = some o') (i : Im o' = false) : Tk H (upd H p o) := fun b u iu e => by
  rw [upd_ne fun z => by
    rw [z, h] at e
    cases e
    rw [iu] at i
    cases i]
  exact e
theorem Tk.mut {H H' : Hp} {p : Addr} {o o' : HO} (t : Tk H H') (h : H' p = some o') (i : Im o' = false) : Tk H (upd H' p o) := t.trans (tk_upd h i)
/-- all but what stands at ex stays -/
def Ch (ex : List Addr) (H H' : Hp) : Prop := ∀ b o, b ∉ ex → H b = some o → H' b = some o
theorem Ch.refl (ex : List Addr) (H : Hp) : Ch ex H H := fun _ _ _ h => h
theorem Ch.trans {ex : List Addr} {H H1 H2 : Hp} (a : Ch ex H H1) (b : Ch ex H1 H2) : Ch ex H H2 := fun c o i h => b c o i (a c o i h)
theorem Ch.of {ex : List Addr} {H H' : Hp} (e : Ex H H') : Ch ex H H' := fun b o _ h => e b o h
theorem Ch.upd {ex : List Addr} {H : Hp} {p : Addr} {o : HO} (h : p ∈ ex) : Ch ex H (upd H p o) := fun b u hb e => by
  rw [upd_ne fun z => hb (by rw [z]; exact h)]
  exact e
theorem Ch.new {ex : List Addr} {H : Hp} {p : Addr} {o : HO} (h : H p = none) : Ch ex H (L2.upd H p o) := .of (Ex.new h)
theorem Ch.sub {ex ex' : List Addr} {H H' : Hp} (c : Ch ex H H') (s : ∀ b ∈ ex, b ∈ ex') : Ch ex' H H' := fun b o hb e => c b o (fun z => hb (s b z)) e
theorem Ex.nn {H H' : Hp} (e : Ex H H') {p : Addr} (h : H' p = none) : H p = none := by
  cases q : H p with
  | none => rfl
  | some o => rw [e p o q] at h; cases h
theorem Tk.rd {H H' : Hp} {a : Addr} {xs : List V} (t : Tk H H') (h : Rd H a (.tup xs)) : Rd H' a (.tup xs) := by
  rcases h with h | ⟨o, h⟩
  · exact .inl (t _ _ rfl h)
  · exact .inr ⟨o, t _ _ rfl h⟩
theorem Tk.dn {H H' : Hp} {a : Addr} {xs : List V} (t : Tk H H') (h : DN H a xs) : DN H' a xs := let ⟨o, d, e⟩ := h; ⟨o, d, t _ _ rfl e⟩
theorem Tk.tup {H H' : Hp} {a : Addr} {xs : List V} (t : Tk H H') (h : H a = some (.tup xs)) : H' a = some (.tup xs) := t _ _ rfl h
theorem rd_tup {H : Hp} {p : Addr} {xs : List V} : Rd (upd H p (.tup xs)) p (.tup xs) := .inl upd_same
theorem rd_sq {K : PySem.W.Frag} {H : Hp} {a : Addr} {xs : List V} (h : Rd H a (.tup xs)) : SqT K H a xs := .inl h
/-! ### data in the heap -/
def Mon {α : Type} (R : Hp → V → α → Prop) : Prop := ∀ (H H' : Hp) (v : V) (x : α), Tk H H' → R H v x → R H' v x
def TupV {α : Type} (R : Hp → V → α → Prop) (H : Hp) (v : V) (l : List α) : Prop := ∃ a vs, v = .ref a ∧ Rd H a (.tup vs) ∧ Paired (R H) vs l
/-- a tuple without a dict -/
def DnV {α : Type} (R : Hp → V → α → Prop) (H : Hp) (v : V) (l : List α) : Prop := ∃ a vs, v = .ref a ∧ DN H a vs ∧ Paired (R H) vs l
def RunV (H : Hp) (v : V) (r : Run) : Prop := ∃ a, v = .ref a ∧ Rd H a (.tup (runV r))
def StrV (_ : Hp) (v : V) (z : Str) : Prop := v = .str z
abbrev ShV : Hp → V → Shf → Prop := TupV RunV
abbrev StV : Hp → V → Std → Prop := TupV ShV
abbrev OutV : Hp → V → List Run → Prop := DnV RunV
abbrev AwV : Hp → V → List Str → Prop := DnV StrV
/-- the items of a list -/
def LstV {α : Type} (R : Hp → V → α → Prop) (H : Hp) (a : Addr) (l : List α) : Prop := ∃ vs, H a = some (.lst vs) ∧ Paired (R H) vs l
theorem pmono {α : Type} {R : Hp → V → α → Prop} (m : Mon R) {H H' : Hp} (t : Tk H H') {vs : List V} {l : List α} (h : Paired (R H) vs l) : Paired (R H') vs l := Paired.mapP h fun _ _ r => m _ _ _ _ t r
theorem mon_run : Mon RunV := fun _ _ _ _ t h => let ⟨a, e, r⟩ := h; ⟨a, e, t.rd r⟩
theorem mon_str : Mon StrV := fun _ _ _ _ _ h => h
theorem mon_tup {α : Type} {R : Hp → V → α → Prop} (m : Mon R) : Mon (TupV R) := fun _ _ _ _ t h => let ⟨a, vs, e, r, p⟩ := h; ⟨a, vs, e, t.rd r, pmono m t p⟩
theorem mon_dn {α : Type} {R : Hp → V → α → Prop} (m : Mon R) : Mon (DnV R) := fun _ _ _ _ t h => let ⟨a, vs, e, r, p⟩ := h; ⟨a, vs, e, t.dn r, pmono m t p⟩
theorem mon_sh : Mon ShV := mon_tup mon_run
theorem mon_st : Mon StV := mon_tup mon_sh
theorem mon_out : Mon OutV := mon_dn mon_run
theorem mon_aw : Mon AwV := mon_dn mon_str
theorem DnV.tup {α : Type} {R : Hp → V → α → Prop} {H : Hp} {v : V} {l : List α} (h : DnV R H v l) : TupV R H v l := let ⟨a, vs, e, r, p⟩ := h; ⟨a, vs, e, r.rd, p⟩
theorem pget {α β : Type} {F : α → β → Prop} : ∀ {l₁ : List α} {l₂ : List β} {j : Nat} {x : β}, Paired F l₁ l₂ → l₂[j]? = some x → ∃ y, l₁[j]? = some y ∧ F y x
  | _, _, _, _, .nil, h => by simp at h
  | _, _, 0, x, .cons (a := a) h t, e => ⟨a, rfl, by have q := Option.some.inj e; subst q; exact h⟩
  | _, _, j + 1, x, .cons h t, e => by
    obtain ⟨y, h1, h2⟩ := pget (j := j) t (by simpa using e)
    exact ⟨y, by simpa using h1, h2⟩
theorem pgetL {α β : Type} {F : α → β → Prop} : ∀ {l₁ : List α} {l₂ : List β} {j : Nat} {y : α}, Paired F l₁ l₂ → l₁[j]? = some y → ∃ x, l₂[j]? = some x ∧ F y x
  | _, _, _, _, .nil, h => by simp at h
  | _, _, 0, y, .cons (b := b) h t, e => ⟨b, rfl, by have q := Option.some.inj e; subst q; exact h⟩
  | _, _, j + 1, y, .cons h t, e => by
    obtain ⟨x, h1, h2⟩ := pgetL (j := j) t (by simpa using e)
    exact ⟨x, by simpa using h1, h2⟩
theorem plen {α β : Type} {F : α → β → Prop} {l₁ : List α} {l₂ : List β} (h : Paired F l₁ l₂) : l₁.length = l₂.length := Paired.length h
theorem papp {α β : Type} {F : α → β → Prop} : ∀ {a c : List α} {b d : List β}, Paired F a b → Paired F c d → Paired F (a ++ c) (b ++ d)
  | _, _, _, _, .nil, h => h
  | _, _, _, _, .cons h t, g => .cons h (papp t g)
theorem psnoc {α β : Type} {F : α → β → Prop} {a : List α} {b : List β} {x : α} {y : β} (h : Paired F a b) (g : F x y) : Paired F (a ++ [x]) (b ++ [y]) := papp h (.cons g .nil)
theorem pset {α β : Type} {F : α → β → Prop} : ∀ {a : List α} {b : List β} {x : α} {y : β} (j : Nat), Paired F a b → F x y → Paired F (a.set j x) (b.set j y)
  | _, _, _, _, _, .nil, _ => .nil
  | _, _, _, _, 0, .cons _ t, g => .cons g t
  | _, _, _, _, j + 1, .cons h t, g => .cons h (pset j t g)
theorem ptake {α β : Type} {F : α → β → Prop} : ∀ {a : List α} {b : List β} (n : Nat), Paired F a b → Paired F (a.take n) (b.take n)
  | _, _, 0, _ => .nil
  | _, _, _ + 1, .nil => .nil
  | _, _, n + 1, .cons h t => .cons h (ptake n t)
theorem pdrop {α β : Type} {F : α → β → Prop} : ∀ {a : List α} {b : List β} (n : Nat), Paired F a b → Paired F (a.drop n) (b.drop n)
  | _, _, 0, h => h
  | _, _, _ + 1, .nil => .nil
  | _, _, n + 1, .cons _ t => pdrop n t
theorem pmapL {α β γ : Type} {F : α → β → Prop} {f : γ → β} {G : α → γ → Prop} : ∀ {a : List α} {c : List γ}, Paired G a c → (∀ x z, G x z → F x (f z)) → Paired F a (c.map f)
  | _, _, .nil, _ => .nil
  | _, _, .cons h t, g => .cons (g _ _ h) (pmapL t g)
theorem take_more {α : Type} {l : List α} {i : Nat} {x : α} (h : l[i]? = some x) : l.take (i + 1) = l.take i ++ [x] := by
  rw [List.take_add_one, h]
  rfl
theorem fold_more {α β : Type} {f : β → α → β} {b : β} {l : List α} {i : Nat} {x : α} (h : l[i]? = some x) : (l.take (i + 1)).foldl f b = f ((l.take i).foldl f b) x := by
  rw [take_more h, List.foldl_append]
  rfl
theorem pstr {vs : List V} {H : Hp} {zs : List Str} (h : Paired (StrV H) vs zs) : vs = zs.map V.str := by
  induction h with
  | nil => rfl
  | cons h _ ih => rw [ih, show _ = V.str _ from h]; rfl
theorem pstr' {H : Hp} : ∀ (zs : List Str), Paired (StrV H) (zs.map V.str) zs
  | [] => .nil
  | _ :: zs => .cons rfl (pstr' zs)
theorem small {n : Nat} (h : n ≤ 1000000) : n ≤ sizeLine := by rw [sizeLine_eq]; omega
theorem small' {n : Nat} (h : n ≤ 1000000) : n < sizeLine := by rw [sizeLine_eq]; omega
theorem rDn {K : PySem.W.Frag} {H : Hp} {Q : VK} {ys : List V} (h : NewT Q H ys) : NewT Q H ys := h
/-- two lists of pairs: found by place -/
theorem if_t {c : Bool} {A B : Prop} (hc : c = true) (h : A) : if c = true then A else B := by
  rw [if_pos hc]
  exact h
theorem if_f {c : Bool} {A B : Prop} (hc : c = false) (h : B) : if c = true then A else B := by
  rw [hc, if_neg Bool.false_ne_true]
  exact h
theorem if_2 {c : Bool} {A B : Prop} (h1 : c = true → A) (h2 : c = false → B) : if c = true then A else B := by
  cases c
  · exact if_f rfl (h2 rfl)
  · exact if_t rfl (h1 rfl)
end Sh
/-! More of the plain law: spots, prefixes; small words on indices, dicts. -/
namespace Sh
open PySem PySem.Spec PyProof.Rows L2
/-! ### indices -/
theorem atI_end {α : Type} {xs : List α} {v : α} (h : xs[xs.length - 1]? = some v) : atI xs (-1) = some v := by
  have hl : 0 < xs.length := by
    cases xs with
    | nil => simp at h
    | cons a l => exact Nat.succ_pos _
  unfold atI ixN
  rw [if_neg (by decide), if_pos (by omega)]
  have e : ((-1 : Int) + (xs.length : Int)).toNat = xs.length - 1 := by omega
  rw [e]
  exact h
theorem ixN_end {n : Nat} (h : 0 < n) : ixN n (-1) = some (n - 1) := by
  unfold ixN
  rw [if_neg (by decide), if_pos (by omega)]
  have e : ((-1 : Int) + (n : Int)).toNat = n - 1 := by omega
  rw [e]
theorem atI_pos {α : Type} {xs : List α} {p : Int} {v : α} (h0 : 0 ≤ p) (h : xs[p.toNat]? = some v) : atI xs p = some v := by
  have e : ((p.toNat : Nat) : Int) = p := Int.toNat_of_nonneg h0
  rw [← e]
  exact atI_nat h
theorem ixN_nat {n : Nat} {p : Int} (h0 : 0 ≤ p) (h : p < n) : ixN n p = some p.toNat := by
  unfold ixN
  rw [if_pos h0, if_pos h]
/-! ### walks -/
theorem loop_walk {J : It} {n : Nat} {G : Hp → Prop} {Y : Nat → Hp → V → Hp → Prop} (w : Walk J n G Y) {H0 : Hp} {Qd : Hp → Prop} {B : (Hp → Prop) → V → Hp → Prop} (Pv : Nat → Hp → Prop) (h0 : Pv 0 H0) (hG : ∀ i H, i ≤ n → Pv i H → G H)
    (hs : ∀ i x H H', i < n → Pv i H → Y i H x H' → B (Pv (i + 1)) x H') (hd : ∀ H, Pv n H → Qd H) :
    ∃ W : Nat → Nat → Hp → Prop, (∃ m, W 0 m H0) ∧ ∀ i m H, W i m H → (J.stop i H ∧ Qd H) ∨ (J.go i H ∧ ∃ Nx : Hp → Prop, (∀ H', Nx H' → ∃ m', m' < m ∧ W (i + 1) m' H') ∧ ∀ x H', J.yld i H x H' → B Nx x H') := by
  refine ⟨fun i m H => m = n - i ∧ i ≤ n ∧ Pv i H, ⟨n, by simp, Nat.zero_le _, h0⟩, ?_⟩
  rintro i m H ⟨rfl, hi, p⟩
  have q := hG i H hi p
  by_cases hlt : i < n
  · exact .inr ⟨w.goes i H hlt q, Pv (i + 1), fun H' p' => ⟨n - (i + 1), by omega, rfl, hlt, p'⟩, fun x H' y => hs i x H H' hlt p (w.yields i H x H' hlt q y)⟩
  · have e : i = n := by omega
    subst e
    exact .inl ⟨w.stops H q, hd H p⟩
theorem walk_enumT {K : PySem.W.Frag} {a : Addr} {xs : List V} : Walk (ItE K a) xs.length (fun H => SqT K H a xs) (YPair (fun i => some (.int (i : Nat))) (fun i => xs[i]?)) := by
  refine ⟨fun i _ hi q => ⟨xs, xs[i], q, by simp [hi]⟩, fun _ q => ⟨xs, q, Nat.le_refl _⟩, fun i H v H' _ q y => ?_⟩
  obtain ⟨T, x, h1, h2, h3, h4⟩ := y
  exact ⟨T, .int (i : Nat), x, h1, h2, h3, rfl, h4 xs q⟩
/-! ### spots -/
def allTo (st : Std) : Nat → List (Nat × Nat)
  | 0 => []
  | n + 1 => allTo st n ++ (List.range (st[n]?.getD []).length).map fun b => (n, b)
def allSp (st : Std) : List (Nat × Nat) := allTo st st.length
def runN (st : Std) (p : Nat × Nat) : Option Run := (st[p.1]?).bind fun sh => sh[p.2]?
theorem mem_allTo {st : Std} {p : Nat × Nat} : ∀ n, p ∈ allTo st n ↔ p.1 < n ∧ (runN st p).isSome = true
  | 0 => by simp [allTo]
  | n + 1 => by
    unfold allTo
    rw [List.mem_append, mem_allTo n]
    constructor
    · rintro (⟨h1, h2⟩ | h)
      · exact ⟨by omega, h2⟩
      · obtain ⟨b, hb, rfl⟩ := List.mem_map.mp h
        rw [List.mem_range] at hb
        refine ⟨by show n < n + 1; omega, ?_⟩
        unfold runN
        show ((st[n]?).bind fun sh => sh[b]?).isSome = true
        cases e : st[n]? with
        | none => rw [e] at hb; simp at hb
        | some sh =>
          rw [e] at hb
          have hb' : b < sh.length := hb
          show (sh[b]?).isSome = true
          rw [List.getElem?_eq_getElem hb']
          rfl
    · rintro ⟨h1, h2⟩
      by_cases h : p.1 < n
      · exact .inl ⟨h, h2⟩
      · right
        have e : p.1 = n := by omega
        obtain ⟨a, b⟩ := p
        have e' : a = n := e
        subst e'
        refine List.mem_map.mpr ⟨b, ?_, rfl⟩
        rw [List.mem_range]
        unfold runN at h2
        have h3 : ((st[a]?).bind fun sh => sh[b]?).isSome = true := h2
        cases e : st[a]? with
        | none => rw [e] at h3; simp at h3
        | some sh =>
          rw [e] at h3
          have h4 : (sh[b]?).isSome = true := h3
          show b < sh.length
          cases e2 : sh[b]? with
          | none => rw [e2] at h4; cases h4
          | some r => exact (List.getElem?_eq_some_iff.mp e2).1
theorem mem_allSp {st : Std} {p : Nat × Nat} : p ∈ allSp st ↔ (runN st p).isSome = true := by
  unfold allSp
  rw [mem_allTo]
  constructor
  · exact fun h => h.2
  · intro h
    refine ⟨?_, h⟩
    unfold runN at h
    cases e : st[p.1]? with
    | none => rw [e] at h; simp at h
    | some sh => exact (List.getElem?_eq_some_iff.mp e).1
theorem runAt_runN {st : Std} {p q : Int} (h : 0 ≤ p ∧ 0 ≤ q) : runAt st p q = runN st (p.toNat, q.toNat) := by
  unfold runAt
  rw [if_pos h]
  rfl
theorem allTo_len {st : Std} : ∀ n, (allTo st n).length = ((st.take n).map List.length).sum
  | 0 => rfl
  | n + 1 => by
    unfold allTo
    rw [List.length_append, allTo_len n, List.length_map, List.length_range, List.take_add_one, List.map_append, List.sum_append]
    congr 1
    cases st[n]? with
    | none => rfl
    | some sh => simp
theorem allSp_len (st : Std) : (allSp st).length = st.flatten.length := by
  unfold allSp
  rw [allTo_len, List.take_length, List.length_flatten]
def isKind (st : Std) (k : Str) (p : Nat × Nat) : Bool := match runN st p with
  | some r => decide (r.1 = k)
  | none => false
def spotsOf (st : Std) (k : Str) : List (Nat × Nat) := (allSp st).filter (isKind st k)
theorem flat_take {st : Std} {i : Nat} {sh : Shf} (h : st[i]? = some sh) : (st.take (i + 1)).flatten = (st.take i).flatten ++ sh := by
  rw [take_more h, List.flatten_append]
  simp
theorem flat_len_take (st : Std) (i : Nat) : (st.take i).flatten.length ≤ st.flatten.length := by
  rw [List.length_flatten, List.length_flatten]
  conv => rhs; rw [← List.take_append_drop i st, List.map_append, List.sum_append]
  omega
theorem flat_len_part {st : Std} {i j : Nat} {sh : Shf} (h : st[i]? = some sh) : ((st.take i).flatten ++ sh.take j).length ≤ st.flatten.length := by
  have h1 := flat_len_take st (i + 1)
  rw [flat_take h, List.length_append] at h1
  rw [List.length_append, List.length_take]
  omega
theorem flat_get {st : Std} {i : Nat} {sh : Shf} (h : st[i]? = some sh) : sh.length ≤ st.flatten.length := by
  have h1 := flat_len_take st (i + 1)
  rw [flat_take h, List.length_append] at h1
  omega
theorem mapIdx_more {α β : Type} {f : Nat → α → β} {l : List α} {i : Nat} {x : α} (h : l[i]? = some x) : (l.take (i + 1)).mapIdx f = (l.take i).mapIdx f ++ [f i x] := by
  have hi := (List.getElem?_eq_some_iff.mp h).1
  rw [take_more h, List.mapIdx_append]
  have e : (l.take i).length = i := by rw [List.length_take]; omega
  simp [e]
/-! ### dicts of texts to whole numbers -/
theorem val_kvR (l : List Run) (k : Str) : (valV (l.map kvR) (Sum.inr k)).getD (.int 0) = V.int (look l k) := by
  induction l with
  | nil => rfl
  | cons r l ih =>
    unfold valV at ih ⊢
    rw [List.map_cons, look_cons]
    by_cases h : r.1 = k
    · rw [List.find?_cons_of_pos (by simp [kvR, h]), if_pos h]
      rfl
    · rw [List.find?_cons_of_neg (by simpa [kvR] using h), if_neg h]
      exact ih
theorem any_kvR (l : List Run) (k : Str) : ((l.map kvR).any fun kv => decide (kv.1 = Sum.inr k)) = l.any fun r => decide (r.1 = k) := by
  induction l with
  | nil => rfl
  | cons r l ih =>
    rw [List.map_cons, List.any_cons, List.any_cons, ih]
    congr 1
    simp [kvR]
theorem put_kvR (l : List Run) (k : Str) (v : Int) : putK (l.map kvR) (Sum.inr k) (.int v) = (putR l k v).map kvR := by
  unfold putK putR
  rw [any_kvR]
  by_cases h : (l.any fun r => decide (r.1 = k)) = true
  · rw [if_pos h, if_pos h, List.map_map, List.map_map]
    congr 1
    funext r
    by_cases e : r.1 = k
    · simp [kvR, e]
    · simp [kvR, e]
  · rw [if_neg h, if_neg h, List.map_append]
    rfl
theorem is_kvR (l : List Run) (k : Str) : (valV (l.map kvR) (Sum.inr k)).isSome = decide (k ∈ keys l) := by
  induction l with
  | nil => rfl
  | cons r l ih =>
    unfold valV at ih ⊢
    rw [List.map_cons]
    by_cases h : r.1 = k
    · rw [List.find?_cons_of_pos (by simp [kvR, h])]
      have : k ∈ keys (r :: l) := by rw [← h]; exact List.mem_cons_self
      simp [this]
    · rw [List.find?_cons_of_neg (by simpa [kvR] using h), ih]
      have : (k ∈ keys (r :: l)) ↔ k ∈ keys l := by
        constructor
        · intro z
          rcases List.mem_cons.mp z with z | z
          · exact absurd z.symm h
          · exact z
        · exact List.mem_cons_of_mem _
      simp [this]
theorem merge_fresh : ∀ (more acc : List (Key × V)), ((acc ++ more).map (·.1)).Nodup → mergeK acc more = acc ++ more
  | [], acc, _ => by show acc = acc ++ []; simp
  | p :: r, acc, h => by
    have hp : putK acc p.1 p.2 = acc ++ [p] := by
      unfold putK
      rw [if_neg]
      intro z
      obtain ⟨q, hq, e⟩ := List.any_eq_true.mp z
      have e' : q.1 = p.1 := of_decide_eq_true e
      rw [List.map_append, List.nodup_append] at h
      exact h.2.2 q.1 (List.mem_map.mpr ⟨q, hq, rfl⟩) p.1 (by simp) e'
    show mergeK (putK acc p.1 p.2) r = _
    rw [hp, merge_fresh r (acc ++ [p]) (by simpa using h)]
    simp
theorem merge_kvR {l : List Run} (h : (keys l).Nodup) : mergeK [] (l.map kvR) = l.map kvR := by
  have e := merge_fresh (l.map kvR) [] (by
    rw [List.nil_append, List.map_map]
    have e2 : l.map ((fun kv : Key × V => kv.1) ∘ kvR) = (keys l).map (Sum.inr : Str → Key) := by
      unfold keys
      rw [List.map_map]
      rfl
    rw [e2]
    exact List.Pairwise.map _ (fun a b hab z => hab (Sum.inr.inj z)) h)
  simpa using e
/-! ### rules within a comprehension's block: K told -/
section
variable {X : Cx} {tg l a b : Expr} {tl : TE} {es : List Expr} {kk n : Nat} {t : TGs} {pos : Pos}
theorem pi_tupK (K : PySem.W.Frag) (hl : PE X l tl) (hK : X.K = K := by rfl) : PI X tg l (iTup K tl) := by subst hK; exact pi_tup hl
theorem pi_listK (K : PySem.W.Frag) (hl : PE X l tl) (hK : X.K = K := by rfl) : PI X tg l (iList K tl) := by subst hK; exact pi_list hl
theorem pg_tupK (K : PySem.W.Frag) (hc : X.calm = true) (h : PGs X es t) (hn : (assignEach es X.env).length = n := by rfl) (hst : (assignEach es X.env).findIdx? (·.1) = none := by rfl) (hK : X.K = K := by rfl) : PG X (.Tuple es kk pos) (gTup K n t) := by subst hK; exact pg_tup hc h hn hst
theorem ix_tupK (K : PySem.W.Frag) (hK : X.K = K := by rfl) : IxR X (rIxT K) := by subst hK; exact ix_tup
theorem ix_listK (K : PySem.W.Frag) (hK : X.K = K := by rfl) : IxR X (rIxL K) := by subst hK; exact ix_list
theorem call_len_seqK (K : PySem.W.Frag) (hK : X.K = K := by rfl) : CallR X (.builtin "len") (fun xs H Q => ∃ p ys, xs = [V.ref p] ∧ (SqL K H p ys ∨ SqT K H p ys) ∧ Q (.int ys.length) H) := by subst hK; exact call_len_seq
theorem op_notIn_seqK (K : PySem.W.Frag) (hK : X.K = K := by rfl) : OpR X (compareOp .NotIn) (rIn K true) := by subst hK; exact op_notIn_seq
theorem op_neDK (K : PySem.W.Frag) (hu : X.A.units + 64 < cLine) (hK : X.K = K := by rfl) : OpR X (compareOp .NotEq) (rNeD K) := by subst hK; exact op_neD hu
end
end Sh
/-! The program's functions on shelves. -/
namespace Sh
open PySem PySem.Spec PyProof.Rows L2
abbrev scJoined_N : List Str := ["runs", "found", "kind", "many"]
abbrev scJoined_P : List Str := ["runs"]
abbrev scJoined_S : Scope := defScope sJoined
theorem scJoined : FnScope scJoined_N scJoined_P (defScope sJoined) := ⟨rfl, rfl, rfl, by decide +kernel, rfl, by decide +kernel, by decide +kernel⟩
def spJoined (K : PySem.W.Frag) : Sp := fun vs H Q _ => ∃ (a : Addr) (xs : List V) (l : List Run), vs = [.ref a] ∧ SqL K H a xs ∧ Paired (RunV H) xs l ∧ l.length ≤ 1000 ∧ ∀ H' v, Ex H H' → ShV H' v (joinR l) → Q v H'
section
variable {P : Program} {w : World} {K : PySem.W.Frag} {mg : Str → Option Value} {base : Heap}
theorem joinR_take (l : List Run) (i : Nat) : ((l.take i).foldl jstep []).length ≤ i := by
  have h := fold_len (l.take i) []
  rw [List.length_take] at h
  simp at h
  omega
theorem d_joined (hT : Txt w K mg) : Def P w K mg base CX0 1 "joined" ["runs"] (spJoined K) := by
  refine Def.of hT (st := sJoined) (by simp [fn]) (by decide +kernel) scJoined (fun _ _ _ _ _ _ us hl => match us, hl with | [_], _ => rfl) (fun vs H Q E h => by obtain ⟨a, xs, l, rfl, _⟩ := h; rfl) fun cdv A outer s H vs Q E hr h => ?_
  refine' ⟨_, PSs.nox ?walk, ?read⟩
  case walk => exact (
    (pss_cons (ps_set (i := 1) scJoined.nd rfl (Or.inl rfl) (pe_lst pa_nil))
    (pss_cons (ps_for PassesOwn.never rfl (pi_list (pv 0)) (pg_tup rfl (pgs_cons (pg_name (i := 2) scJoined.nd rfl (Or.inl rfl)) (pgs_cons (pg_name (i := 3) scJoined.nd rfl (Or.inl rfl)) pgs_nil)))
    (pss_one (ps_if (PW.pt (pw_and (pt_cmpR op_gt (pv 3) pe_int (nomark _)) (pw_and (pt_cmpR op_gt (pe_callB call_len_seq (by rfl) (hT.free "len" (by decide +kernel)) boot_len (pa_cons (pv 1) pa_nil)) pe_int (nomark _)) (pw_and1 (pt_cmpR op_eq (pe_ix ix_tup (pe_ix ix_list (pv 1) (pe_un un_neg pe_int) (fun _ _ => rfl)) pe_int (fun _ _ => rfl)) (pv 2) (nomark _))))))
    (pss_one (ps_asg (pe_tup (pa_cons (pv 2) (pa_cons (pe_op op_add (pe_ix ix_tup (pe_ix ix_list (pv 1) (pe_un un_neg pe_int) (fun _ _ => rfl)) pe_int (fun _ _ => rfl)) (pv 3)) pa_nil))) (pg_sub (pv 1) (pe_un un_neg pe_int) set_list)))
    (pss_one (ps_if (pt_cmpR op_gt (pv 3) pe_int (nomark _))
    (pss_one (ps_expr (pe_bm PySem.F.plainAttrs_list PySem.F.slot_list_append PySem.F.type_list_append mt_append (pv 1) (pa_cons (pe_tup (pa_cons (pv 2) (pa_cons (pv 3) pa_nil))) pa_nil))))
    pss_nil)))))
    (pss_one (ps_ret (pe_callTy cr_tupN (by rfl) (hT.free "tuple" (by decide +kernel)) (by decide +kernel) (pa_cons (pv 1) pa_nil))))))
    )
  case read =>
    obtain ⟨a, xs, l, rfl, hs, hp, hz, q⟩ := h
    have hlen := plen hp
    refine ⟨Nat.zero_le _, fun p np => ?_⟩
    refine ⟨_, rfl, a, rfl, ⟨_, (Ex.new np).sq hs⟩, for_list (K := K) (a := a) (xs := xs) (fun i σ H' => ∃ k m vs, σ = [some (.ref a), some (.ref p), k, m] ∧ Ex H H' ∧ H' p = some (.lst vs) ∧ Paired (RunV H') vs ((l.take i).foldl jstep []))
      ⟨none, none, [], rfl, Ex.new np, upd_same, .nil⟩ (fun i σ H' _ h => ?_) (fun i x σ H' hx h => ?_) (fun σ H' h => ?_)⟩
    · obtain ⟨_, _, _, _, ex, _⟩ := h
      exact ex.sq hs
    · obtain ⟨k, m, vs, rfl, ex, hl, hv⟩ := h
      obtain ⟨r, hr', b, rfl, rd⟩ := pgetL hp hx
      have hv2 := plen hv
      have hj := joinR_take l i
      have hi : i < l.length := (List.getElem?_eq_some_iff.mp hr').1
      have tk := tk_ex ex
      refine ⟨b, _, rfl, rd_sq (tk.rd rd), rfl, _, _, rfl, _, _, rfl, rfl, ?_⟩
      have fin : ∀ (σ' : L2.St) (H2 : Hp) (vs' : List V), (∃ k m, σ' = [some (.ref a), some (.ref p), k, m]) → Ex H H2 → H2 p = some (.lst vs') → Paired (RunV H2) vs' (jstep ((l.take i).foldl jstep []) r) → (∃ k m vs, σ' = [some (.ref a), some (.ref p), k, m] ∧ Ex H H2 ∧ H2 p = some (.lst vs) ∧ Paired (RunV H2) vs ((l.take (i + 1)).foldl jstep [])) := by
        rintro σ' H2 vs' ⟨k, m, rfl⟩ e1 e2 e3
        exact ⟨k, m, vs', rfl, e1, e2, by rw [fold_more hr']; exact e3⟩
      generalize hacc : (l.take i).foldl jstep [] = acc at *
      have app : 0 < r.2 → jstep acc r = acc ++ [r] → tIfS (tTest (tOp (rI0 fun i j => .bl (decide (j < i))) (tVar 3) (tC (.int 0)))) (tDrop (tBM K "list" rAppend (tVar 1) (tCons (tTup (tCons (tVar 2) (tCons (tVar 3) tNil))) tNil))) tNext { nx := fun σ' H2 => (∃ k m vs, σ' = [some (.ref a), some (.ref p), k, m] ∧ Ex H H2 ∧ H2 p = some (.lst vs) ∧ Paired (RunV H2) vs ((l.take (i + 1)).foldl jstep [])), rt := Q } [some (.ref a), some (.ref p), some (.str r.1), some (.int r.2)] H' := by
        intro c1 ej
        refine ⟨_, rfl, _, _, rfl, rfl, _, rfl, if_t (decide_eq_true c1) ?_⟩
        refine ⟨_, rfl, .inl ⟨rfl, _, SqL.of hl⟩, _, rfl, _, rfl, (by show 2 ≤ sizeLine; decide), fun t nt => ?_⟩
        have hpt : p ≠ t := ne_of_none hl nt
        have tk2 : Tk H' (upd (upd H' t (.tup (runV r))) p (.lst (vs ++ [.ref t]))) := (tk_new nt).mut (by rw [upd_ne hpt]; exact hl) rfl
        refine ⟨p, vs, _, rfl, rfl, by rw [upd_ne hpt]; exact hl, small' (by omega), ?_⟩
        refine fin _ _ _ ⟨_, _, rfl⟩ ((ex.trans (Ex.new nt)).mut np) upd_same ?_
        rw [ej]
        exact psnoc (pmono mon_run tk2 hv) ⟨t, rfl, .inl (by rw [upd_ne (Ne.symm hpt)]; exact upd_same)⟩
      refine ⟨_, rfl, _, _, rfl, rfl, _, rfl, if_2 (fun c => ?_) (fun c => ?_)⟩
      · have c1 : 0 < r.2 := of_decide_eq_true c
        refine ⟨_, rfl, p, vs, rfl, .inl (SqL.of hl), _, _, rfl, rfl, _, rfl, if_2 (fun c2 => ?_) (fun c2 => ?_)⟩
        · have c3 : 0 < vs.length := by have := of_decide_eq_true c2; omega
          have hlast : acc[acc.length - 1]? = some acc[acc.length - 1] := List.getElem?_eq_getElem (by omega)
          generalize acc[acc.length - 1] = la at hlast
          obtain ⟨lv, hlv, b2, rfl, rd2⟩ := pget hv hlast
          have hat : atI vs (-1) = some (V.ref b2) := atI_end (by rw [hv2]; exact hlv)
          refine ⟨_, rfl, _, rfl, p, vs, _, _, rfl, rfl, SqL.of hl, hat, b2, _, _, _, rfl, rfl, rd_sq rd2, rfl, _, rfl, rfl, _, rfl, if_2 (fun c4 => ?_) (fun c4 => ?_)⟩
          · have c5 : la.1 = r.1 := by
              have e := of_decide_eq_true c4
              injection e
            refine ⟨_, rfl, _, rfl, _, rfl, p, vs, _, _, rfl, rfl, SqL.of hl, hat, b2, _, _, _, rfl, rfl, rd_sq rd2, rfl, _, rfl, _, _, rfl, rfl, (by show 2 ≤ sizeLine; decide), fun t nt => ?_⟩
            have hpt : p ≠ t := ne_of_none hl nt
            refine ⟨_, rfl, _, rfl, p, vs, _, vs.length - 1, rfl, rfl, by rw [upd_ne hpt]; exact hl, ixN_end c3, ?_⟩
            have tk2 : Tk H' (upd (upd H' t (.tup [.str r.1, .int (la.2 + r.2)])) p (.lst (vs.set (vs.length - 1) (.ref t)))) := (tk_new nt).mut (by rw [upd_ne hpt]; exact hl) rfl
            refine fin _ _ _ ⟨_, _, rfl⟩ ((ex.trans (Ex.new nt)).mut np) upd_same ?_
            have ej : jstep acc r = acc.set (acc.length - 1) (r.1, la.2 + r.2) := by
              unfold jstep
              rw [if_pos c1, hlast]
              show (if la.1 = r.1 then _ else _) = _
              rw [if_pos c5]
            rw [ej, ← hv2]
            exact pset _ (pmono mon_run tk2 hv) ⟨t, rfl, .inl (by rw [upd_ne (Ne.symm hpt)]; exact upd_same)⟩
          · have c5 : ¬ la.1 = r.1 := fun z => by
              have e := of_decide_eq_false c4
              exact e (by rw [z])
            refine app c1 ?_
            unfold jstep
            rw [if_pos c1, hlast]
            show (if la.1 = r.1 then _ else _) = _
            rw [if_neg c5]
        · have c3 : acc = [] := by
            have := of_decide_eq_false c2
            have e : acc.length = 0 := by omega
            exact List.length_eq_zero_iff.mp e
          refine app c1 ?_
          subst c3
          unfold jstep
          rw [if_pos c1]
          rfl
      · have c1 : ¬ 0 < r.2 := of_decide_eq_false c
        refine ⟨_, rfl, _, _, rfl, rfl, _, rfl, if_f c ?_⟩
        refine fin _ _ _ ⟨_, _, rfl⟩ ex hl ?_
        unfold jstep
        rw [if_neg c1]
        exact hv
    · obtain ⟨k, m, vs, rfl, ex, hl, hv⟩ := h
      have e : xs.length = l.length := hlen
      rw [e, List.take_length] at hv
      refine ⟨_, rfl, p, vs, rfl, .inl ⟨SqL.of hl, fun t o nt ho => ?_⟩⟩
      refine q _ _ (ex.trans (Ex.new nt)) ⟨t, vs, rfl, .inr ⟨o, upd_same⟩, pmono mon_run (tk_new nt) hv⟩
end
end Sh
/-! The program's functions on shelves, second part. -/
namespace Sh
open PySem PySem.Spec PyProof.Rows L2
def SpotV (H : Hp) (v : V) (p : Nat × Nat) : Prop := ∃ a, v = .ref a ∧ Rd H a (.tup [.int (p.1 : Nat), .int (p.2 : Nat)])
theorem mon_spot : Mon SpotV := fun _ _ _ _ t h => let ⟨a, e, r⟩ := h; ⟨a, e, t.rd r⟩
structure Small (st : Std) : Prop where
  len : st.length ≤ 1000
  flat : st.flatten.length ≤ 1000
abbrev scManyOf_N : List Str := ["standing", "kind", "shelf", "other", "many"]
abbrev scManyOf_P : List Str := ["standing", "kind"]
abbrev scManyOf_S : Scope := defScope sManyOf
theorem scManyOf : FnScope scManyOf_N scManyOf_P (defScope sManyOf) := ⟨rfl, rfl, rfl, by decide +kernel, rfl, by decide +kernel, by decide +kernel⟩
abbrev scAllSpots_N : List Str := ["standing", "number", "shelf", "place"]
abbrev scAllSpots_P : List Str := ["standing"]
abbrev scAllSpots_S : Scope := defScope sAllSpots
theorem scAllSpots : FnScope scAllSpots_N scAllSpots_P (defScope sAllSpots) := ⟨rfl, rfl, rfl, by decide +kernel, rfl, by decide +kernel, by decide +kernel⟩
abbrev scSpotsOf_N : List Str := ["standing", "kind", "number", "place"]
abbrev scSpotsOf_P : List Str := ["standing", "kind"]
abbrev scSpotsOf_S : Scope := defScope sSpotsOf
theorem scSpotsOf : FnScope scSpotsOf_N scSpotsOf_P (defScope sSpotsOf) := ⟨rfl, rfl, rfl, by decide +kernel, rfl, by decide +kernel, by decide +kernel⟩
abbrev scRunAt_N : List Str := ["standing", "spot", "number", "place"]
abbrev scRunAt_P : List Str := ["standing", "spot"]
abbrev scRunAt_S : Scope := defScope sRunAt
theorem scRunAt : FnScope scRunAt_N scRunAt_P (defScope sRunAt) := ⟨rfl, rfl, rfl, by decide +kernel, rfl, by decide +kernel, by decide +kernel⟩
abbrev scChanged_N : List Str := ["standing", "more", "found", "number", "shelf", "place", "kind", "many"]
abbrev scChanged_P : List Str := ["standing", "more"]
abbrev scChanged_S : Scope := defScope sChanged
theorem scChanged : FnScope scChanged_N scChanged_P (defScope sChanged) := ⟨rfl, rfl, rfl, by decide +kernel, rfl, by decide +kernel, by decide +kernel⟩
abbrev scManyOut_N : List Str := ["out", "kind", "many"]
abbrev scManyOut_P : List Str := ["out"]
abbrev scManyOut_S : Scope := defScope sManyOut
theorem scManyOut : FnScope scManyOut_N scManyOut_P (defScope sManyOut) := ⟨rfl, rfl, rfl, by decide +kernel, rfl, by decide +kernel, by decide +kernel⟩
abbrev scWithOut_N : List Str := ["out", "kind", "more", "found", "one", "many"]
abbrev scWithOut_P : List Str := ["out", "kind", "more"]
abbrev scWithOut_S : Scope := defScope sWithOut
theorem scWithOut : FnScope scWithOut_N scWithOut_P (defScope sWithOut) := ⟨rfl, rfl, rfl, by decide +kernel, rfl, by decide +kernel, by decide +kernel⟩
def spManyOf (K : PySem.W.Frag) : Sp := fun vs H Q _ => ∃ (v : V) (st : Std) (k : Str), vs = [v, .str k] ∧ StV H v st ∧ Small st ∧ ∀ H', Ex H H' → Q (.int (manyOf st k)) H'
def spAllSpots (K : PySem.W.Frag) : Sp := fun vs H Q _ => ∃ (v : V) (st : Std), vs = [v] ∧ StV H v st ∧ Small st ∧ ∀ H' D xs, Ex H H' → H D = none → H' D = some (.lst xs) → Paired (SpotV H') xs (allSp st) → Q (.ref D) H'
def spSpotsOf (K : PySem.W.Frag) : Sp := fun vs H Q _ => ∃ (v : V) (st : Std) (k : Str), vs = [v, .str k] ∧ StV H v st ∧ Small st ∧ ∀ H' D xs, Ex H H' → H D = none → H' D = some (.lst xs) → Paired (SpotV H') xs (spotsOf st k) → Q (.ref D) H'
def spRunAt (K : PySem.W.Frag) : Sp := fun vs H Q _ => ∃ (v : V) (st : Std) (b : Addr) (p q : Int), vs = [v, .ref b] ∧ StV H v st ∧ Rd H b (.tup [.int p, .int q]) ∧ (runAt st p q = none → Q .non H) ∧ (∀ r u, runAt st p q = some r → RunV H u r → Q u H)
def spChanged (K : PySem.W.Frag) : Sp := fun vs H Q _ => ∃ (v : V) (st : Std) (d : Addr) (p q dd : Int), vs = [v, .ref d] ∧ StV H v st ∧ Small st ∧ H d = some (.dT [([Sum.inl p, Sum.inl q], .int dd)]) ∧ ∀ H' u, Ex H H' → StV H' u (chg st p q dd) → Q u H'
def spManyOut (K : PySem.W.Frag) : Sp := fun vs H Q _ => ∃ (v : V) (l : List Run), vs = [v] ∧ OutV H v l ∧ l.length ≤ 1000 ∧ ∀ H', Ex H H' → Q (.int (sumR l)) H'
def spWithOut (K : PySem.W.Frag) : Sp := fun vs H Q _ => ∃ (v : V) (l : List Run) (k : Str) (d : Int), vs = [v, .str k, .int d] ∧ OutV H v l ∧ (keys l).Nodup ∧ l.length ≤ 1000 ∧ ∀ H' u, Ex H H' → OutV H' u (wout l k d) → Q u H'
theorem out_pairs {K : PySem.W.Frag} {H : Hp} : ∀ {vs : List V} {l : List Run}, Paired (RunV H) vs l → ∃ ps : List Addr, vs = ps.map V.ref ∧ Paired (fun p (kv : Key × V) => SqT K H p [kV kv.1, kv.2]) ps (l.map kvR)
  | _, _, .nil => ⟨[], rfl, .nil⟩
  | _, _, .cons h t => by
    obtain ⟨ps, e, r⟩ := out_pairs (K := K) t
    obtain ⟨a, ea, rd⟩ := h
    exact ⟨a :: ps, by rw [ea, e]; rfl, .cons (rd_sq rd) r⟩
section
variable {P : Program} {w : World} {K : PySem.W.Frag} {mg : Str → Option Value} {base : Heap}
theorem d_many_of (hT : Txt w K mg) : Def P w K mg base CX0 1 "many_of" scManyOf_P (spManyOf K) := by
  refine Def.of hT (st := sManyOf) (by simp [fn]) (by decide +kernel) scManyOf (fun _ _ _ _ _ _ us hl => match us, hl with | [_, _], _ => rfl) (fun vs H Q E h => by obtain ⟨v, st, k, rfl, _⟩ := h; rfl) fun cdv A outer s H vs Q E hr h => ?_
  refine' ⟨_, PSs.nox ?walk, ?read⟩
  case walk => exact (
    (pss_one (ps_ret (pe_callB (cr_sum rfl) (by rfl) (hT.free "sum" (by decide +kernel)) (by decide +kernel) (pa_cons (pe_lc2 (own := [("shelf", 2), ("other", 3), ("many", 4)]) (vs1 := [3, 4]) rfl scManyOf.nd (pi_tup (pv 0)) (blkOk_by (N := scManyOf_N) (sc := scManyOf_S) (by decide +kernel)) (by decide) (fun _ _ _ _ _ => (pg_name (i := 2) scManyOf.nd rfl (Or.inl rfl))) (fun _ _ _ _ _ => pts_nil) (fun _ _ _ _ _ => (pi_tupK K (pv 2))) (fun _ _ _ _ _ => (pg_tupK (n := 2) K rfl (pgs_cons (pg_name (i := 3) scManyOf.nd rfl (Or.inl rfl)) (pgs_cons (pg_name (i := 4) scManyOf.nd rfl (Or.inl rfl)) pgs_nil)))) (fun _ _ _ _ _ => pts_one (pt_cmpR op_eq (pv 3) (pv 1) (nomark _))) (fun _ _ _ _ _ => (pv 4))) pa_nil))))
    )
  case read =>
    obtain ⟨v, st, k, rfl, ⟨a, vs, rfl, rd, hp⟩, hz, q⟩ := h
    have hlen := plen hp
    have f : List Run → List V := fun l => ((l.filter fun r => decide (r.1 = k)).map (·.2)).map V.int
    refine ⟨_, rfl, a, rfl, ⟨_, rd_sq rd⟩, fun D nD => loop_walk (walk_tup (xs := vs)) (fun i H' => Ex H H' ∧ H' D = some (.lst ((((st.take i).flatten.filter fun r => decide (r.1 = k)).map (·.2)).map V.int)))
      ⟨Ex.new nD, upd_same⟩ (fun i H' _ h => rd_sq ((tk_ex h.1).rd rd)) (fun i x H' H2 hi h y => ?_) (fun H' h => ?_)⟩
    · obtain ⟨rfl, hx⟩ := y
      obtain ⟨ex, hD⟩ := h
      obtain ⟨sh, hsh, b, ws, rfl, rd2, hp2⟩ := pgetL hp hx
      refine ⟨rfl, ⟨_, rfl, b, rfl, ⟨_, rd_sq ((tk_ex ex).rd rd2)⟩, loop_walk (walk_tup (xs := ws)) (fun j H' => Ex H H' ∧ H' D = some (.lst (((((st.take i).flatten ++ sh.take j).filter fun r => decide (r.1 = k)).map (·.2)).map V.int)))
        ⟨ex, by rw [List.take_zero, List.append_nil]; exact hD⟩ (fun j H' _ h => rd_sq ((tk_ex h.1).rd rd2)) (fun j x H' H2 hj h y => ?_) (fun H' h => ?_)⟩⟩
      · obtain ⟨rfl, hx2⟩ := y
        obtain ⟨ex2, hD2⟩ := h
        obtain ⟨r, hr2, c, rfl, rd3⟩ := pgetL hp2 hx2
        have hpart := flat_len_part (j := j) hsh
        refine ⟨c, _, rfl, rd_sq ((tk_ex ex2).rd rd3), rfl, _, _, rfl, _, _, rfl, rfl, rfl, _, rfl, _, rfl, rfl, _, rfl, if_2 (fun ck => ?_) (fun ck => ?_)⟩
        · have ck' : r.1 = k := by have e := of_decide_eq_true ck; injection e
          refine ⟨_, rfl, _, hD2, ?_, ex2.mut nD, ?_⟩
          · refine small' ?_
            rw [List.length_map, List.length_map]
            have := List.length_filter_le (fun r : Run => decide (r.1 = k)) ((st.take i).flatten ++ sh.take j)
            have := hz.flat
            omega
          · rw [upd_same, take_more hr2, ← List.append_assoc, List.filter_append (l₁ := (st.take i).flatten ++ sh.take j), List.map_append, List.map_append, List.filter_cons_of_pos (by simpa using ck')]
            rfl
        · have ck' : ¬ r.1 = k := fun z => (of_decide_eq_false ck) (by rw [z])
          refine ⟨ex2, ?_⟩
          rw [hD2, take_more hr2, ← List.append_assoc, List.filter_append (l₁ := (st.take i).flatten ++ sh.take j), List.filter_cons_of_neg (by simpa using ck')]
          simp
      · obtain ⟨ex2, hD2⟩ := h
        refine ⟨ex2, ?_⟩
        rw [hD2, flat_take hsh, plen hp2, List.take_length]
    · obtain ⟨ex, hD⟩ := h
      rw [hlen, List.take_length] at hD
      exact ⟨D, _, rfl, SqL.of hD, q _ ex⟩
theorem d_all_spots (hT : Txt w K mg) : Def P w K mg base CX0 1 "all_spots" scAllSpots_P (spAllSpots K) := by
  refine Def.of hT (st := sAllSpots) (by simp [fn]) (by decide +kernel) scAllSpots (fun _ _ _ _ _ _ us hl => match us, hl with | [_], _ => rfl) (fun vs H Q E h => by obtain ⟨v, st, rfl, _⟩ := h; rfl) fun cdv A outer s H vs Q E hr h => ?_
  refine' ⟨_, PSs.nox ?walk, ?read⟩
  case walk => exact (
    (pss_one (ps_ret (pe_lc2 (own := [("number", 1), ("shelf", 2), ("place", 3)]) (vs1 := [3]) rfl scAllSpots.nd (pi_enumT (by rfl) (hT.free "enumerate" (by decide +kernel)) (pa_cons (pv 0) pa_nil)) (blkOk_by (N := scAllSpots_N) (sc := scAllSpots_S) (by decide +kernel)) (by decide) (fun _ _ _ _ _ => (pg_tupK (n := 2) K rfl (pgs_cons (pg_name (i := 1) scAllSpots.nd rfl (Or.inl rfl)) (pgs_cons (pg_name (i := 2) scAllSpots.nd rfl (Or.inl rfl)) pgs_nil)))) (fun _ _ _ _ _ => pts_nil) (fun _ _ _ _ _ => (pi_range1 (by rfl) (hT.free "range" (by decide +kernel)) (pa_cons (pe_callB (call_len_seqK K) (by rfl) (hT.free "len" (by decide +kernel)) boot_len (pa_cons (pv 2) pa_nil)) pa_nil))) (fun _ _ _ _ _ => (pg_name (i := 3) scAllSpots.nd rfl (Or.inl rfl))) (fun _ _ _ _ _ => pts_nil) (fun _ _ _ _ _ => (pe_tup (pa_cons (pv 1) (pa_cons (pv 3) pa_nil)))))))
    )
  case read =>
    obtain ⟨v, st, rfl, ⟨a, vs, rfl, rd, hp⟩, hz, q⟩ := h
    have hlen := plen hp
    refine ⟨_, rfl, a, _, rfl, rd_sq rd, fun D nD => loop_walk (walk_enumT (xs := vs)) (fun i H' => Ex H H' ∧ ∃ xs, H' D = some (.lst xs) ∧ Paired (SpotV H') xs (allTo st i))
      ⟨Ex.new nD, [], upd_same, .nil⟩ (fun i H' _ h => rd_sq ((tk_ex h.1).rd rd)) (fun i x H' H2 hi h y => ?_) (fun H' h => ?_)⟩
    · obtain ⟨ex, xs, hD, hxs⟩ := h
      obtain ⟨T, x1, x2, rfl, nT, rfl, e1, e2⟩ := y
      cases e1
      obtain ⟨sh, hsh, b, ws, rfl, rd2, hp2⟩ := pgetL hp e2
      have exT := Ex.new (o := .tup [V.int (i : Nat), .ref b]) nT
      have hDT : D ≠ T := ne_of_none hD nT
      have hl2 := plen hp2
      have hfl := flat_get hsh
      have hzf := hz.flat
      refine ⟨T, _, rfl, SqT.of upd_same, rfl, _, _, rfl, _, _, rfl, rfl, rfl, ⟨_, rfl, b, ws, rfl, .inr (rd_sq ((tk_ex (ex.trans exT)).rd rd2)), _, rfl, by omega, by omega,
        loop_walk (walk_range (lo := 0) (n := ((ws.length : Nat) : Int).toNat)) (fun j H' => Ex H H' ∧ ∃ xs, H' D = some (.lst xs) ∧ Paired (SpotV H') xs (allTo st i ++ (List.range j).map fun b => (i, b)))
          ⟨ex.trans exT, xs, by rw [upd_ne hDT]; exact hD, by rw [List.range_zero, List.map_nil, List.append_nil]; exact pmono mon_spot (tk_ex exT) hxs⟩ (fun _ _ _ _ => trivial) (fun j x H' H2 hj h y => ?_) (fun H' h => ?_)⟩⟩
      · obtain ⟨rfl, rfl⟩ := y
        obtain ⟨ex2, ys, hD2, hys⟩ := h
        have hpl := plen hys
        rw [List.length_append, List.length_map, List.length_range, allTo_len] at hpl
        have hpart := flat_len_part (j := j) hsh
        rw [List.length_append, List.length_take, List.length_flatten] at hpart
        have hj' : j < sh.length := by omega
        refine ⟨rfl, ⟨_, rfl, _, rfl, (by show 2 ≤ sizeLine; decide), fun t nt => ?_⟩⟩
        have hDt : D ≠ t := ne_of_none hD2 nt
        refine ⟨ys, by rw [upd_ne hDt]; exact hD2, small' (by omega), (ex2.trans (Ex.new nt)).mut nD, _, upd_same, ?_⟩
        have tk2 : Tk H2 (upd (upd H2 t (.tup [V.int (i : Nat), V.int (0 + (j : Nat))])) D (.lst (ys ++ [.ref t]))) := (tk_new nt).mut (by rw [upd_ne hDt]; exact hD2) rfl
        rw [List.range_succ, List.map_append, ← List.append_assoc]
        exact psnoc (pmono mon_spot tk2 hys) ⟨t, rfl, .inl (by rw [upd_ne (Ne.symm hDt), upd_same]; show some (HO.tup [V.int (i : Nat), V.int (0 + (j : Nat))]) = some (HO.tup [V.int (i : Nat), V.int (j : Nat)]); rw [Int.zero_add])⟩
      · obtain ⟨ex2, ys, hD2, hys⟩ := h
        refine ⟨ex2, ys, hD2, ?_⟩
        unfold allTo
        rw [hsh]
        have e : ((ws.length : Nat) : Int).toNat = sh.length := by omega
        rw [e] at hys
        exact hys
    · obtain ⟨ex, xs, hD, hxs⟩ := h
      rw [hlen] at hxs
      exact q _ _ _ ex nD hD hxs
end
end Sh
/-! The program's functions on shelves, third part. -/
namespace Sh
open PySem PySem.Spec PyProof.Rows L2
theorem st_get {H : Hp} {vs : List V} {st : Std} (hp : Paired (ShV H) vs st) {p : Nat × Nat} {r : Run} (h : runN st p = some r) :
    ∃ b ws c, vs[p.1]? = some (V.ref b) ∧ Rd H b (.tup ws) ∧ ws[p.2]? = some (V.ref c) ∧ Rd H c (.tup (runV r)) := by
  unfold runN at h
  cases e : st[p.1]? with
  | none => rw [e] at h; simp at h
  | some sh =>
    rw [e] at h
    have h2 : sh[p.2]? = some r := h
    obtain ⟨x, hx, b, ws, rfl, rd, hw⟩ := pget hp e
    obtain ⟨y, hy, c, rfl, rc⟩ := pget hw h2
    exact ⟨b, ws, c, hx, rd, hy, rc⟩
theorem val_more (p q d : Int) (i j : Nat) : (valV [([Sum.inl p, Sum.inl q], V.int d)] ([Sum.inl (i : Int), Sum.inl (j : Int)] : List Key)).getD (.int 0) = V.int (more p q d i j) := by
  unfold valV more
  by_cases h : (i : Int) = p ∧ (j : Int) = q
  · rw [if_pos h, List.find?_cons_of_pos (by simp [h.1, h.2])]
    rfl
  · rw [if_neg h, List.find?_cons_of_neg (by
      intro z
      have z2 := of_decide_eq_true z
      injection z2 with z3 z4
      injection z4 with z5 z6
      exact h ⟨(Sum.inl.inj z3).symm, (Sum.inl.inj z5).symm⟩)]
    rfl
theorem runAt_none {st : Std} {p q : Int} (h : ¬ (0 ≤ p ∧ 0 ≤ q)) : runAt st p q = none := if_neg h
section
variable {P : Program} {w : World} {K : PySem.W.Frag} {mg : Str → Option Value} {base : Heap}
theorem d_spots_of (hT : Txt w K mg) : Def P w K mg base CX0 2 "spots_of" scSpotsOf_P (spSpotsOf K) := by
  have d_all_spots := d_all_spots (P := P) (base := base) hT
  refine Def.of hT (st := sSpotsOf) (by simp [fn]) (by decide +kernel) scSpotsOf (fun _ _ _ _ _ _ us hl => match us, hl with | [_, _], _ => rfl) (fun vs H Q E h => by obtain ⟨v, st, k, rfl, _⟩ := h; rfl) fun cdv A outer s H vs Q E hr h => ?_
  refine' ⟨_, PSs.nox ?walk, ?read⟩
  case walk => exact (
    (pss_one (ps_ret (pe_lc (own := [("number", 2), ("place", 3)]) rfl scSpotsOf.nd (pi_list (pe_fn d_all_spots hr (pa_cons (pv 0) pa_nil))) (blkOk_by (N := scSpotsOf_N) (sc := scSpotsOf_S) (by decide +kernel)) (fun _ _ _ _ _ => (pg_tupK (n := 2) K rfl (pgs_cons (pg_name (i := 2) scSpotsOf.nd rfl (Or.inl rfl)) (pgs_cons (pg_name (i := 3) scSpotsOf.nd rfl (Or.inl rfl)) pgs_nil)))) (fun _ _ _ _ _ => pts_one (pt_cmpR op_eq (pe_ix (ix_tupK K) (pe_ix (ix_tupK K) (pe_ix (ix_tupK K) (pv 0) (pv 2) (fun _ _ => rfl)) (pv 3) (fun _ _ => rfl)) pe_int (fun _ _ => rfl)) (pv 1) (nomark _))) (fun _ _ _ _ _ => (pe_tup (pa_cons (pv 2) (pa_cons (pv 3) pa_nil)))))))
    )
  case read =>
    obtain ⟨v, st, k, rfl, hst, hz, q⟩ := h
    obtain ⟨a, vs, rfl, rd, hp⟩ := hst
    refine ⟨_, rfl, _, st, rfl, ⟨a, vs, rfl, rd, hp⟩, hz, fun H1 L xs ex1 nL hL hxs => ⟨L, rfl, ⟨_, SqL.of hL⟩, fun D nD => ?_⟩⟩
    have hlen := plen hxs
    refine loop_walk (walk_list (xs := xs)) (fun i H' => Ex H1 H' ∧ ∃ ys, H' D = some (.lst ys) ∧ Paired (SpotV H') ys (((allSp st).take i).filter (isKind st k)))
      ⟨Ex.new nD, [], upd_same, .nil⟩ (fun i H' _ h => h.1.sq (SqL.of hL)) (fun i x H' H2 hi h y => ?_) (fun H' h => ?_)
    · obtain ⟨rfl, hx⟩ := y
      obtain ⟨ex2, ys, hD, hys⟩ := h
      obtain ⟨p, hp0, c, rfl, rc⟩ := pgetL hxs hx
      have hmem := mem_allSp.mp (List.mem_of_getElem? hp0)
      obtain ⟨r, hr0⟩ := Option.isSome_iff_exists.mp hmem
      obtain ⟨b, ws, c2, h1, h2, h3, h4⟩ := st_get hp hr0
      have tk := tk_ex (ex1.trans ex2)
      have hyl := plen hys
      have hfl := List.length_filter_le (isKind st k) ((allSp st).take i)
      rw [List.length_take, allSp_len] at hfl
      have hzf := hz.flat
      have ek : isKind st k p = decide (r.1 = k) := by unfold isKind; rw [hr0]
      have et : ((allSp st).take (i + 1)).filter (isKind st k) = ((allSp st).take i).filter (isKind st k) ++ (if r.1 = k then [p] else []) := by
        rw [take_more hp0, List.filter_append]
        congr 1
        by_cases e : r.1 = k
        · rw [if_pos e, List.filter_cons_of_pos (by rw [ek]; exact decide_eq_true e)]; rfl
        · rw [if_neg e, List.filter_cons_of_neg (by rw [ek]; simpa using e)]; rfl
      refine ⟨c, _, rfl, rd_sq ((tk_ex ex2).rd rc), rfl, _, _, rfl, _, _, rfl, rfl, rfl, ?_⟩
      refine ⟨_, rfl, _, rfl, a, vs, _, _, rfl, rfl, rd_sq (tk.rd rd), atI_nat h1, _, rfl, b, ws, _, _, rfl, rfl, rd_sq (tk.rd h2), atI_nat h3, c2, _, _, _, rfl, rfl, rd_sq (tk.rd h4), rfl, _, rfl, rfl, _, rfl, if_2 (fun ck => ?_) (fun ck => ?_)⟩
      · have ck' : r.1 = k := by have e := of_decide_eq_true ck; injection e
        refine ⟨_, rfl, _, rfl, (by show 2 ≤ sizeLine; decide), fun t nt => ?_⟩
        have hDt : D ≠ t := ne_of_none hD nt
        refine ⟨ys, by rw [upd_ne hDt]; exact hD, small' (by omega), (ex2.trans (Ex.new nt)).mut nD, _, upd_same, ?_⟩
        rw [et, if_pos ck']
        have tk2 : Tk H2 (upd (upd H2 t (.tup [V.int (p.1 : Nat), V.int (p.2 : Nat)])) D (.lst (ys ++ [.ref t]))) := (tk_new nt).mut (by rw [upd_ne hDt]; exact hD) rfl
        exact psnoc (pmono mon_spot tk2 hys) ⟨t, rfl, .inl (by rw [upd_ne (Ne.symm hDt), upd_same])⟩
      · have ck' : ¬ r.1 = k := fun z => (of_decide_eq_false ck) (by rw [z])
        refine ⟨ex2, ys, hD, ?_⟩
        rw [et, if_neg ck', List.append_nil]
        exact hys
    · obtain ⟨ex2, ys, hD, hys⟩ := h
      rw [hlen, List.take_length] at hys
      exact q _ _ _ (ex1.trans ex2) (ex1.nn nD) hD hys
theorem d_run_at (hT : Txt w K mg) : Def P w K mg base CX0 1 "run_at" scRunAt_P (spRunAt K) := by
  refine Def.of hT (st := sRunAt) (by simp [fn]) (by decide +kernel) scRunAt (fun _ _ _ _ _ _ us hl => match us, hl with | [_, _], _ => rfl) (fun vs H Q E h => by obtain ⟨v, st, b, p, q, rfl, _⟩ := h; rfl) fun cdv A outer s H vs Q E hr h => ?_
  refine' ⟨_, PSs.nox ?walk, ?read⟩
  case walk => exact (
    (pss_cons (ps_asg (pv 1) (pg_tup rfl (pgs_cons (pg_name (i := 2) scRunAt.nd rfl (Or.inl rfl)) (pgs_cons (pg_name (i := 3) scRunAt.nd rfl (Or.inl rfl)) pgs_nil))))
    (pss_cons (ps_if (PW.pt (pw_or (pt_not (pt_chain op_le op_lt pe_int (pv 2) (pe_callB call_len_seq (by rfl) (hT.free "len" (by decide +kernel)) boot_len (pa_cons (pv 0) pa_nil)))) (pw_or1 (pt_not (pt_chain op_le op_lt pe_int (pv 3) (pe_callB call_len_seq (by rfl) (hT.free "len" (by decide +kernel)) boot_len (pa_cons (pe_ix ix_tup (pv 0) (pv 2) (fun _ _ => rfl)) pa_nil)))))))
    (pss_one (ps_ret pe_non))
    pss_nil)
    (pss_one (ps_ret (pe_ix ix_tup (pe_ix ix_tup (pv 0) (pv 2) (fun _ _ => rfl)) (pv 3) (fun _ _ => rfl))))))
    )
  case read =>
    obtain ⟨v, st, b, p, q, rfl, ⟨a, vs, rfl, rd, hp⟩, rd2, qn, qs⟩ := h
    have hlen := plen hp
    refine ⟨_, rfl, b, _, rfl, rd_sq rd2, rfl, _, _, rfl, _, _, rfl, rfl, ?_⟩
    refine ⟨_, rfl, _, _, rfl, rfl, _, rfl, if_2 (fun c1 => ?_) (fun c1 => ?_)⟩
    · have p0 : 0 ≤ p := of_decide_eq_true c1
      refine ⟨_, rfl, a, vs, rfl, .inr (rd_sq rd), _, _, rfl, rfl, _, rfl, ?_⟩
      by_cases p1 : p < (vs.length : Int)
      · refine if_f (by simpa using p1) ?_
        have hlt : p.toNat < st.length := by omega
        have hst : st[p.toNat]? = some st[p.toNat] := List.getElem?_eq_getElem hlt
        generalize st[p.toNat] = sh at hst
        obtain ⟨x, hx, b2, ws, rfl, rd3, hw⟩ := pget hp hst
        have hwl := plen hw
        refine ⟨_, rfl, _, _, rfl, rfl, _, rfl, if_2 (fun c2 => ?_) (fun c2 => ?_)⟩
        · have q0 : 0 ≤ q := of_decide_eq_true c2
          refine ⟨_, rfl, _, rfl, a, vs, _, _, rfl, rfl, rd_sq rd, atI_pos p0 hx, b2, ws, rfl, .inr (rd_sq rd3), _, _, rfl, rfl, _, rfl, ?_⟩
          have er : runAt st p q = sh[q.toNat]? := by
            unfold runAt
            rw [if_pos ⟨p0, q0⟩, hst]
            rfl
          by_cases q1 : q < (ws.length : Int)
          · have hqt : q.toNat < sh.length := by omega
            have hsh : sh[q.toNat]? = some sh[q.toNat] := List.getElem?_eq_getElem hqt
            generalize sh[q.toNat] = r at hsh
            obtain ⟨y, hy, ry⟩ := pget hw hsh
            refine if_f (by simpa using q1) ?_
            exact ⟨_, rfl, _, rfl, a, vs, _, _, rfl, rfl, rd_sq rd, atI_pos p0 hx, _, rfl, b2, ws, _, _, rfl, rfl, rd_sq rd3, atI_pos q0 hy, qs r y (er.trans hsh) ry⟩
          · refine if_t (by simpa using q1) (qn ?_)
            rw [er]
            exact List.getElem?_eq_none (by omega)
        · have q0 : ¬ 0 ≤ q := of_decide_eq_false c2
          exact ⟨_, rfl, if_t rfl (qn (runAt_none fun z => q0 z.2))⟩
      · refine if_t (by simpa using p1) (qn ?_)
        unfold runAt
        by_cases z : 0 ≤ p ∧ 0 ≤ q
        · rw [if_pos z, List.getElem?_eq_none (by omega)]
          rfl
        · rw [if_neg z]
    · have p0 : ¬ 0 ≤ p := of_decide_eq_false c1
      exact ⟨_, rfl, if_t rfl (if_t rfl (qn (runAt_none fun z => p0 z.1)))⟩
theorem d_changed (hT : Txt w K mg) : Def P w K mg base CX0 2 "changed" scChanged_P (spChanged K) := by
  have d_joined := d_joined (P := P) (base := base) hT
  refine Def.of hT (st := sChanged) (by simp [fn]) (by decide +kernel) scChanged (fun _ _ _ _ _ _ us hl => match us, hl with | [_, _], _ => rfl) (fun vs H Q E h => by obtain ⟨v, st, b, p, q, dd, rfl, _⟩ := h; rfl) fun cdv A outer s H vs Q E hr h => ?_
  have hu := hu_of hr
  refine' ⟨_, PSs.nox ?walk, ?read⟩
  case walk => exact (
    (pss_cons (ps_set (i := 2) scChanged.nd rfl (Or.inl rfl) (pe_lst pa_nil))
    (pss_cons (ps_for PassesOwn.never rfl (pi_enumT (by rfl) (hT.free "enumerate" (by decide +kernel)) (pa_cons (pv 0) pa_nil)) (pg_tup rfl (pgs_cons (pg_name (i := 3) scChanged.nd rfl (Or.inr rfl)) (pgs_cons (pg_name (i := 4) scChanged.nd rfl (Or.inl rfl)) pgs_nil)))
    (pss_one (ps_expr (pe_bm PySem.F.plainAttrs_list PySem.F.slot_list_append PySem.F.type_list_append mt_append (pv 2) (pa_cons (pe_fn d_joined hr (pa_cons (pe_lc (own := [("place", 5), ("kind", 6), ("many", 7)]) rfl scChanged.nd (pi_enumT (by rfl) (hT.free "enumerate" (by decide +kernel)) (pa_cons (pv 4) pa_nil)) (blkOk_by (N := scChanged_N) (sc := scChanged_S) (by decide +kernel)) (fun _ _ _ _ _ => (pg_tupK (n := 2) K rfl (pgs_cons (pg_name (i := 5) scChanged.nd rfl (Or.inl rfl)) (pgs_cons (pg_tupK (n := 2) K rfl (pgs_cons (pg_name (i := 6) scChanged.nd rfl (Or.inl rfl)) (pgs_cons (pg_name (i := 7) scChanged.nd rfl (Or.inl rfl)) pgs_nil))) pgs_nil)))) (fun _ _ _ _ _ => pts_nil) (fun _ _ _ _ _ => (pe_tup (pa_cons (pv 6) (pa_cons (pe_op op_add (pv 7) (pe_dget2 hu (pv 1) (pe_tup (pa_cons (pv 3) (pa_cons (pv 5) pa_nil))) pe_int ⟨rfl, rfl, rfl, rfl⟩)) pa_nil))))) pa_nil)) pa_nil)))))
    (pss_one (ps_ret (pe_callTy cr_tupN (by rfl) (hT.free "tuple" (by decide +kernel)) (by decide +kernel) (pa_cons (pv 2) pa_nil))))))
    )
  case read =>
    obtain ⟨v, st, d, p, q, dd, rfl, ⟨a, vs, rfl, rd, hp⟩, hz, hd, qq⟩ := h
    have hlen := plen hp
    have hzl := hz.len
    have hzf := hz.flat
    refine ⟨Nat.zero_le _, fun F nF => ?_⟩
    refine ⟨_, rfl, a, vs, rfl, rd_sq ((tk_new nF).rd rd), for_it (walk_enumT (xs := vs)) (fun i σ H' => ∃ n s, σ = [some (.ref a), some (.ref d), some (.ref F), n, s, none, none, none] ∧ Ex H H' ∧ ∃ xs, H' F = some (.lst xs) ∧ Paired (ShV H') xs ((st.take i).mapIdx (chgSh p q dd)))
      ⟨none, none, rfl, Ex.new nF, [], upd_same, .nil⟩ (fun i σ H' _ h => by obtain ⟨_, _, _, ex, _⟩ := h; exact rd_sq ((tk_ex ex).rd rd)) (fun i x σ H' H2 hi h y => ?_) (fun σ H' h => ?_)⟩
    · obtain ⟨n0, s0, rfl, ex, xs, hF, hxs⟩ := h
      obtain ⟨T, x1, x2, rfl, nT, rfl, e1, e2⟩ := y
      cases e1
      obtain ⟨sh, hsh, b, ws, rfl, rd2, hp2⟩ := pgetL hp e2
      have exT := Ex.new (o := .tup [V.int (i : Nat), .ref b]) nT
      have hFT : F ≠ T := ne_of_none hF nT
      have hl2 := plen hp2
      have hfl := flat_get hsh
      have hxl := plen hxs
      rw [List.length_mapIdx, List.length_take] at hxl
      have ex2 := ex.trans exT
      refine ⟨T, _, rfl, SqT.of upd_same, rfl, _, _, rfl, _, _, rfl, rfl, ?_⟩
      refine ⟨_, rfl, .inl ⟨rfl, _, SqL.of (by rw [upd_ne hFT]; exact hF)⟩, _, rfl, b, ws, rfl, rd_sq ((tk_ex ex2).rd rd2), fun D nD => ?_⟩
      have nHD := ex2.nn nD
      have exG : Ex H' (upd H' T (.tup [V.int (i : Nat), .ref b])) := exT
      generalize upd H' T (.tup [V.int (i : Nat), .ref b]) = G at *
      have hFG : G F = some (.lst xs) := exG _ _ hF
      refine loop_walk (walk_enumT (xs := ws)) (fun j H2 => Ex G H2 ∧ ∃ ys, H2 D = some (.lst ys) ∧ Paired (RunV H2) ys ((sh.take j).mapIdx fun b r => (r.1, r.2 + more p q dd i b)))
        ⟨Ex.new nD, [], upd_same, .nil⟩ (fun j H2 _ h => rd_sq ((tk_ex (ex2.trans h.1)).rd rd2)) (fun j x H1 H2 hj h y => ?_) (fun H2 h => ?_)
      · obtain ⟨exj, ys, hD, hys⟩ := h
        obtain ⟨T2, y1, y2, rfl, nT2, rfl, f1, f2⟩ := y
        cases f1
        obtain ⟨r, hr2, c, rfl, rc⟩ := pgetL hp2 f2
        have exT2 := Ex.new (o := .tup [V.int (j : Nat), .ref c]) nT2
        have hDT : D ≠ T2 := ne_of_none hD nT2
        have hyl := plen hys
        rw [List.length_mapIdx, List.length_take] at hyl
        have ex3 := (ex2.trans exj).trans exT2
        refine ⟨T2, _, rfl, SqT.of upd_same, rfl, _, _, rfl, _, _, rfl, c, _, rfl, rd_sq ((tk_ex ex3).rd rc), rfl, _, _, rfl, _, _, rfl, rfl, rfl, rfl, ?_⟩
        generalize upd H1 T2 (.tup [V.int (j : Nat), .ref c]) = G2 at *
        have hD2 : G2 D = some (.lst ys) := exT2 _ _ hD
        refine ⟨_, rfl, _, rfl, _, rfl, d, rfl, .inr ⟨_, .inl (ex3 _ _ hd)⟩, _, rfl, _, rfl, (by show 2 ≤ sizeLine; decide), fun t nt => ?_⟩
        refine ⟨_, DGet.t (k := [Sum.inl (i : Int), Sum.inl (j : Int)]) (Ex.new nt _ _ (ex3 _ _ hd)) upd_same, _, _, rfl, val_more p q dd i j, (by show 2 ≤ sizeLine; decide), fun t2 nt2 => ?_⟩
        have ext := (Ex.new (o := .tup [V.int (i : Nat), V.int (j : Nat)]) nt)
        have ext2 := ext.trans (Ex.new (o := .tup [V.str r.1, V.int (r.2 + more p q dd i j)]) nt2)
        refine ⟨ys, ext2 _ _ hD2, small' (by omega), ((exj.trans exT2).trans ext2).mut nD, _, upd_same, ?_⟩
        rw [mapIdx_more hr2]
        have hDt2 : D ≠ t2 := ne_of_none (ext _ _ hD2) nt2
        have tk2 : Tk H1 (upd (upd (upd G2 t (.tup [V.int (i : Nat), V.int (j : Nat)])) t2 (.tup [V.str r.1, V.int (r.2 + more p q dd i j)])) D (.lst (ys ++ [.ref t2]))) := (tk_ex (exT2.trans ext2)).mut (ext2 _ _ hD2) rfl
        exact psnoc (pmono mon_run tk2 hys) ⟨t2, rfl, .inl (by rw [upd_ne (Ne.symm hDt2), upd_same]; rfl)⟩
      · obtain ⟨exj, ys, hD, hys⟩ := h
        rw [hl2, List.take_length] at hys
        refine ⟨D, ys, _, rfl, SqL.of hD, hys, by rw [List.length_mapIdx]; omega, fun H3 u ex4 hu3 => ?_⟩
        have ex5 : Ex G H3 := exj.trans ex4
        refine ⟨F, xs, u, rfl, rfl, ex5 _ _ hFG, small' (by omega), _, _, rfl, (ex2.trans ex5).mut nF, _, upd_same, ?_⟩
        rw [mapIdx_more hsh]
        have tk2 : Tk H' (upd H3 F (.lst (xs ++ [u]))) := (tk_ex (exG.trans ex5)).mut (ex5 _ _ hFG) rfl
        exact psnoc (pmono mon_sh tk2 hxs) (mon_sh _ _ _ _ (tk_upd (ex5 _ _ hFG) rfl) hu3)
    · obtain ⟨n0, s0, rfl, ex, xs, hF, hxs⟩ := h
      rw [hlen, List.take_length] at hxs
      refine ⟨_, rfl, F, xs, rfl, .inl ⟨SqL.of hF, fun t o nt ho => ?_⟩⟩
      exact qq _ _ (ex.trans (Ex.new nt)) ⟨t, xs, rfl, .inr ⟨o, upd_same⟩, pmono mon_sh (tk_new nt) hxs⟩
theorem d_many_out (hT : Txt w K mg) : Def P w K mg base CX0 1 "many_out" scManyOut_P (spManyOut K) := by
  refine Def.of hT (st := sManyOut) (by simp [fn]) (by decide +kernel) scManyOut (fun _ _ _ _ _ _ us hl => match us, hl with | [_], _ => rfl) (fun vs H Q E h => by obtain ⟨v, l, rfl, _⟩ := h; rfl) fun cdv A outer s H vs Q E hr h => ?_
  refine' ⟨_, PSs.nox ?walk, ?read⟩
  case walk => exact (
    (pss_one (ps_ret (pe_callB (cr_sum rfl) (by rfl) (hT.free "sum" (by decide +kernel)) (by decide +kernel) (pa_cons (pe_lc (own := [("kind", 1), ("many", 2)]) rfl scManyOut.nd (pi_tup (pv 0)) (blkOk_by (N := scManyOut_N) (sc := scManyOut_S) (by decide +kernel)) (fun _ _ _ _ _ => (pg_tupK (n := 2) K rfl (pgs_cons (pg_name (i := 1) scManyOut.nd rfl (Or.inl rfl)) (pgs_cons (pg_name (i := 2) scManyOut.nd rfl (Or.inl rfl)) pgs_nil)))) (fun _ _ _ _ _ => pts_nil) (fun _ _ _ _ _ => (pv 2))) pa_nil))))
    )
  case read =>
    obtain ⟨v, l, rfl, ⟨a, vs, rfl, dn, hp⟩, hz, q⟩ := h
    have hlen := plen hp
    refine ⟨_, rfl, a, rfl, ⟨_, dn.sq⟩, fun D nD => loop_walk (walk_tup (xs := vs)) (fun i H' => Ex H H' ∧ H' D = some (.lst (((l.take i).map (·.2)).map V.int)))
      ⟨Ex.new nD, upd_same⟩ (fun i H' _ h => ((tk_ex h.1).dn dn).sq) (fun i x H' H2 hi h y => ?_) (fun H' h => ?_)⟩
    · obtain ⟨rfl, hx⟩ := y
      obtain ⟨ex, hD⟩ := h
      obtain ⟨r, hr2, b, rfl, rd⟩ := pgetL hp hx
      refine ⟨b, _, rfl, rd_sq ((tk_ex ex).rd rd), rfl, _, _, rfl, _, _, rfl, rfl, rfl, _, rfl, _, hD, small' (by rw [List.length_map, List.length_map, List.length_take]; omega), ex.mut nD, ?_⟩
      rw [upd_same, take_more hr2, List.map_append, List.map_append]
      rfl
    · obtain ⟨ex, hD⟩ := h
      rw [hlen, List.take_length] at hD
      exact ⟨D, _, rfl, SqL.of hD, q _ ex⟩
theorem d_with_out (hT : Txt w K mg) : Def P w K mg base CX0 1 "with_out" scWithOut_P (spWithOut K) := by
  refine Def.of hT (st := sWithOut) (by simp [fn]) (by decide +kernel) scWithOut (fun _ _ _ _ _ _ us hl => match us, hl with | [_, _, _], _ => rfl) (fun vs H Q E h => by obtain ⟨v, l, k, d, rfl, _⟩ := h; rfl) fun cdv A outer s H vs Q E hr h => ?_
  have hu := hu_of hr
  refine' ⟨_, PSs.nox ?walk, ?read⟩
  case walk => exact (
    (pss_cons (ps_set (i := 3) scWithOut.nd rfl (Or.inl rfl) (pe_callTy (cr_dictN rfl) (by rfl) (hT.free "dict" (by decide +kernel)) (by decide +kernel) (pa_cons (pv 0) pa_nil)))
    (pss_cons (ps_dput hu (pv 3) (pv 1) (pe_op op_add (pe_dget2 hu (pv 3) (pv 1) pe_int ⟨rfl, rfl, rfl, rfl⟩) (pv 2)) rfl)
    (pss_one (ps_ret (pe_callTy cr_tupN (by rfl) (hT.free "tuple" (by decide +kernel)) (by decide +kernel) (pa_cons (pe_lc (own := [("one", 4), ("many", 5)]) rfl scWithOut.nd (pi_list (pe_callB (cr_sortR rfl hr.units) (by rfl) (hT.free "sorted" (by decide +kernel)) (by decide +kernel) (pa_cons (pe_bm0 PySem.F.plainAttrs_dict PySem.F.slot_dict_items PySem.F.type_dict_items mt_itemsK (pv 3)) pa_nil))) (blkOk_by (N := scWithOut_N) (sc := scWithOut_S) (by decide +kernel)) (fun _ _ _ _ _ => (pg_tupK (n := 2) K rfl (pgs_cons (pg_name (i := 4) scWithOut.nd rfl (Or.inl rfl)) (pgs_cons (pg_name (i := 5) scWithOut.nd rfl (Or.inl rfl)) pgs_nil)))) (fun _ _ _ _ _ => pts_one (pt_cmpR op_gt (pv 5) pe_int (nomark _))) (fun _ _ _ _ _ => (pe_tup (pa_cons (pv 4) (pa_cons (pv 5) pa_nil))))) pa_nil))))))
    )
  case read =>
    obtain ⟨v, l, k, d, rfl, ⟨a, vs, rfl, dn, hp⟩, nd, hz, q⟩ := h
    obtain ⟨ps, rfl, hps⟩ := out_pairs (K := K) hp
    refine ⟨_, rfl, a, ps, _, rfl, dn, hps, fun F nF => ?_⟩
    rw [merge_kvR nd]
    have hF : upd H F (HO.dK (l.map kvR)) F = some (.dK (l.map kvR)) := upd_same
    refine ⟨_, rfl, F, rfl, .inl ⟨_, .inl hF⟩, _, rfl, _, DGet.k (k := Sum.inr k) hF, _, rfl, _, _, val_kvR l k, rfl, _, rfl, _, rfl, F, _, rfl, DPut.k (k := Sum.inr k) hF (small' (by rw [List.length_map]; omega)), ?_⟩
    rw [put_kvR, upd_upd]
    have hl2 : (putR l k (look l k + d)).length ≤ 1001 := by
      unfold putR
      split
      · rw [List.length_map]; omega
      · rw [List.length_append]; show l.length + 1 ≤ 1001; omega
    have hw : wout l k d = (srt (putR l k (look l k + d))).filter fun r => decide (0 < r.2) := rfl
    generalize putR l k (look l k + d) = m at *
    have exF : Ex H (upd H F (.dK (m.map kvR))) := Ex.new nF
    have hF2 : upd H F (HO.dK (m.map kvR)) F = some (.dK (m.map kvR)) := upd_same
    generalize upd H F (HO.dK (m.map kvR)) = G at *
    refine ⟨_, rfl, .inr (.inr (.inl ⟨rfl, .inl ⟨_, hF2⟩⟩)), F, _, rfl, rfl, hF2, fun p np => ?_⟩
    refine ⟨p, F, m, rfl, upd_same, by rw [upd_ne (ne_of_none hF2 np)]; exact hF2, fun H1 L ts ex1 nL hL hts => ?_⟩
    have exG : Ex G H1 := (Ex.new np).trans ex1
    refine ⟨L, rfl, ⟨_, SqL.of hL⟩, fun D nD => ?_⟩
    have hlen := plen hts
    have hsl : (srt m).length = m.length := (srt_perm m).length_eq
    refine loop_walk (walk_list (xs := ts.map V.ref)) (fun i H' => Ex H1 H' ∧ ∃ ys, H' D = some (.lst ys) ∧ Paired (RunV H') ys (((srt m).take i).filter fun r => decide (0 < r.2)))
      ⟨Ex.new nD, [], upd_same, .nil⟩ (fun i H' _ h => h.1.sq (SqL.of hL)) (fun i x H' H2 hi h y => ?_) (fun H' h => ?_)
    · obtain ⟨rfl, hx⟩ := y
      obtain ⟨ex2, ys, hD, hys⟩ := h
      rw [List.getElem?_map] at hx
      cases hti : ts[i]? with
      | none => rw [hti] at hx; cases hx
      | some t0 =>
        rw [hti] at hx
        cases (Option.some.inj hx)
        obtain ⟨r, hr2, rd⟩ := pgetL hts hti
        have hyl := plen hys
        have hfl := List.length_filter_le (fun r : Run => decide (0 < r.2)) ((srt m).take i)
        rw [List.length_take] at hfl
        have et : ((srt m).take (i + 1)).filter (fun r => decide (0 < r.2)) = ((srt m).take i).filter (fun r => decide (0 < r.2)) ++ (if 0 < r.2 then [r] else []) := by
          rw [take_more hr2, List.filter_append]
          congr 1
          by_cases e : 0 < r.2
          · rw [if_pos e]
            exact List.filter_cons_of_pos (p := fun r : Run => decide (0 < r.2)) (l := []) (decide_eq_true e)
          · rw [if_neg e]
            exact List.filter_cons_of_neg (p := fun r : Run => decide (0 < r.2)) (l := []) (by simpa using e)
        refine ⟨t0, _, rfl, SqT.of (ex2 _ _ rd), rfl, _, _, rfl, _, _, rfl, rfl, rfl, _, rfl, _, _, rfl, rfl, _, rfl, if_2 (fun ck => ?_) (fun ck => ?_)⟩
        · have ck' : 0 < r.2 := of_decide_eq_true ck
          refine ⟨_, rfl, _, rfl, (by show 2 ≤ sizeLine; decide), fun t nt => ?_⟩
          have hDt : D ≠ t := ne_of_none hD nt
          refine ⟨ys, by rw [upd_ne hDt]; exact hD, small' (by omega), (ex2.trans (Ex.new nt)).mut nD, _, upd_same, ?_⟩
          rw [et, if_pos ck']
          have tk2 : Tk H2 (upd (upd H2 t (.tup (runV r))) D (.lst (ys ++ [.ref t]))) := (tk_new nt).mut (by rw [upd_ne hDt]; exact hD) rfl
          exact psnoc (pmono mon_run tk2 hys) ⟨t, rfl, .inl (by rw [upd_ne (Ne.symm hDt), upd_same]; rfl)⟩
        · have ck' : ¬ 0 < r.2 := of_decide_eq_false ck
          refine ⟨ex2, ys, hD, ?_⟩
          rw [et, if_neg ck', List.append_nil]
          exact hys
    · obtain ⟨ex2, ys, hD, hys⟩ := h
      rw [List.length_map, hlen, List.take_length] at hys
      refine ⟨D, ys, rfl, .inl ⟨SqL.of hD, fun t o nt ho => ?_⟩⟩
      refine q _ _ (((exF.trans exG).trans ex2).trans (Ex.new nt)) ⟨t, ys, rfl, ⟨o, ho, upd_same⟩, ?_⟩
      rw [hw]
      exact pmono mon_run (tk_new nt) hys
end
end Sh
/-! Own exception classes over a built-in one whose __init__ calls the built-in's and stores one field. -/
namespace PySem
namespace ShX
open PySem.W PySem.Calls PyProof.Rows Builtin Builtin.ObjectAttr
section
variable {prog : Program} {w : World} {A : Around} {E : Value → Shared → Prop} {R : Result → Shared → Prop} {hp : Heap} {g : Array GenState} {d : Drawn} {t : Nat} {os : OsState}
/-- the first field of an exception that has no dict as yet -/
theorem ox_osa {K : W.Frag} {name : Str} {tk : Tok} {v : Value} {x C : Addr} {fv : Array Value} {B : String} {bmB : List Value} (SF : StoreFacts B bmB "object.__setattr__" "object")
    (X : K.In hp) (hx : hp.get? x = some { cls := .ref C, data := .fields fv }) (ov : excOver K C bmB = true) (hh : hasDictIn K C = true) (ha : W.findIn K (.ref C) name = some none)
    (hq : ∀ h' tk' dx, (∀ b o, b ≠ x → hp.get? b = some o → h'.get? b = some o) → hp.objs.size ≤ dx → dx ≠ x → h'.get? x = some { cls := .ref C, dict := some dx, data := .fields fv } →
      h'.Ns1 dx (fun y => if y = name then some v else none) → R (.ok (.ret .none)) ⟨h', g, d, tk', os⟩) :
    codeAny (model prog w) A (.call (.builtin "object.__setattr__") ⟨[.ref x, .str name tk, v], []⟩) R ⟨hp, g, d, t, os⟩ := by
  have I : W.InstAt hp x { cls := .ref C, data := .fields fv } C none := ⟨hx, rfl, rfl, trivial⟩
  have hxs : x ≠ hp.objs.size := Nat.ne_of_lt (Heap.lt_size hx)
  have ht : takerIn K C name = some none := by unfold takerIn; rw [ha]; rfl
  refine osa_openX (s := ⟨hp, g, d, t, os⟩) (od := none) SF X I ov ht fun b => ?_
  obtain ⟨cd, hc, hd'⟩ := any_some hh
  have hcls : W.Looks (model prog w) hp (classData C) cd := W.looks_clsIn X hc
  show wpAny _ _ (storeInOwnDict (.ref x) (.ref C) (.str name tk) name v b) _ _ _
  obtain ⟨nm, bs, mro, ns, qn, hd, sn, sb, ab, col, del⟩ := cd
  have hd2 : hd = true := hd'
  subst hd2
  unfold storeInOwnDict ownDictForStores
  repeat (first | with_reducible refine HandSPX.store_in_new ?_ ?_ | with_reducible refine wpAny_loadPart_at hx ?_ | with_reducible refine hcls.at ?_ | wp_step)
  · exact ⟨_, #[], _, (Heap.get?_update_ne _ _ _ _ hxs.symm).trans (Heap.get?_push_at rfl rfl), rfl, fun e he => absurd he (by simp), fun _ => rfl⟩
  · intro h' tk' hn' hs
    have hx₁ : (hp.push { cls := .type "dict", data := .dict #[] }).get? x = some { cls := .ref C, data := .fields fv } := Heap.get?_push_of_some _ hx
    refine hq h' tk' hp.objs.size (fun b o hb ho => ?_) (Nat.le_refl _) hxs.symm ?_ hn'
    · exact (hs.2 b (Nat.ne_of_lt (Heap.lt_size ho))).trans ((Heap.get?_update_ne _ _ _ _ hb).trans (Heap.get?_push_of_some _ ho))
    · exact (hs.2 x hxs).trans (Heap.get?_update_self _ hx₁ rfl)
end
theorem typ_ve : typeOf (.type "ValueError") = pure (.type "type") := by kernel_rfl
theorem typ_lk : typeOf (.type "LookupError") = pure (.type "type") := by kernel_rfl
theorem typ_rt : typeOf (.type "RuntimeError") = pure (.type "type") := by kernel_rfl
end ShX
end PySem
namespace Sh
open PySem PySem.Spec PyProof.Rows L2
/-- what is known of a built-in base -/
structure Bse (B newId initId : String) (bmB : List Value) : Prop where
  fb : ExcBaseFacts B newId initId bmB
  sf : StoreFacts B bmB "object.__setattr__" "object"
  ty : typeOf (.type B) = pure (.type "type")
  st : Manifest.isStub B = false
  fc : ∀ K, PySem.W.findCls K (.type B) (.type "type") "__init__" = some (.val (.builtin initId))
  hn : PySem.W.handedIn (.builtin initId) = true
theorem bse_ve : Bse "ValueError" "ValueError.__new__" "ValueError.__init__" veB := ⟨F.excBase_ValueError, F.store_ValueError, ShX.typ_ve, by decide +kernel, fun K => by kernel_rfl, by decide +kernel⟩
theorem bse_lk : Bse "LookupError" "LookupError.__new__" "LookupError.__init__" lkB := ⟨F.excBase_LookupError, F.store_LookupError, ShX.typ_lk, by decide +kernel, fun K => by kernel_rfl, by decide +kernel⟩
theorem bse_rt : Bse "RuntimeError" "RuntimeError.__new__" "RuntimeError.__init__" rtB := ⟨F.excBase_RuntimeError, F.store_RuntimeError, ShX.typ_rt, by decide +kernel, fun K => by kernel_rfl, by decide +kernel⟩
/-- what the written part says of an own class over it -/
structure OxC (K : PySem.W.Frag) (C : Addr) (newId : String) (bmB : List Value) : Prop where
  ini : PySem.W.excInitIn K C bmB newId = true
  ov : PySem.W.excOver K C bmB = true
  hd : PySem.W.hasDictIn K C = true
  sa : PySem.W.findIn K (.ref C) "__setattr__" = some (some (.builtin "object.__setattr__"))
  exC : PySem.W.subIn K (.ref C) (.type "BaseException") = some true
  tyC : PySem.W.typeIn K (.ref C) = some (.type "type")
  kC : PySem.W.keepIn K (.ref C) = true
section
variable {X : Cx} {pins : List (Addr × Obj)} {σ : L2.St} {H : Hp} {s : Shared} {a C dx : Addr} {f : Str} {y : V} {u : Value} {E : Value → Shared → Prop} {A : Around} {B newId initId : String} {bmB : List Value}
theorem ox_new {Q : Unit → Shared → Prop} (D : Bse B newId initId bmB) (T : OxC X.K C newId bmB) (I : Inv X pins σ H s) (e : H a = some (exo a C none)) (hno : PySem.W.findIn X.K (.ref C) f = some none) (ry : RelV y u)
    (h : ∀ dx s', H dx = none → dx ≠ a → Inv X pins σ (upd (upd H dx (exd dx [(f, y)])) a (exo a C (some dx))) s' → Q () s') : wpAny (model X.prog X.w) A (setAttr (.ref a) f u) Q E s := by
  obtain ⟨t1, ho⟩ := exo_at I.hok e
  obtain ⟨hp, g, d, t, os⟩ := s
  refine PySem.W.set_plain I.kIn (ox := { cls := .ref C, dict := none, data := .fields #[.ref t1, .none, .none, .none, .bool false, .none] }) (od := none) ⟨ho, rfl, rfl, trivial⟩ T.sa ?_
  refine ShX.ox_osa D.sf I.kIn ho T.ov T.hd hno (fun h' tk' dx k dn dne hx hn => ?_)
  have hnd : H dx = none := I.hok.fresh dn
  have nd : ∀ {b : Addr} {o : Obj}, hp.get? b = some o → b ≠ dx := fun {b o} q => Nat.ne_of_lt (Nat.lt_of_lt_of_le (Heap.lt_size q) dn)
  have na : ∀ {b : Addr}, H b = none → b ≠ a := fun {b} n z => by
    rw [z, e] at n
    cases n
  have Un1 : Un X.fs [] H (upd (upd H dx (exd dx [(f, y)])) a (exo a C (some dx))) hp h' := {
    keep := fun b o q n _ _ => k b o (na n) q
    slot := fun b o q n _ _ => ⟨o.slots, k b o (na n) q⟩
    free := fun b o q n _ => by rw [upd_ne (na n), upd_ne (nd q)]; exact n
    there := fun b o q _ => by
      by_cases hb : b = a
      · exact ⟨_, by rw [hb]; exact hx⟩
      · exact ⟨o, k b o hb q⟩
    tups := fun b xs q => by rw [upd_ne (at_ne e q exo_tup), upd_ne (ne_of_none q hnd)]; exact q
    frzs := fun b o v q => by rw [upd_ne (at_ne e q exo_frz), upd_ne (ne_of_none q hnd)]; exact q
    tbls := fun b ps q => ⟨#[], by rw [upd_ne (at_ne e q exo_tbl), upd_ne (ne_of_none q hnd), q]; simp⟩ }
  refine h dx _ hnd dne (I.un (t' := tk') Un1 fun b o q => ?_)
  by_cases hb : b = a
  · subst hb
    rw [upd_same] at q
    cases q
    exact exo_ok hx
  · rw [upd_ne hb] at q
    by_cases hd : b = dx
    · subst hd
      rw [upd_same] at q
      cases q
      exact exd_ok hn (relO_put (fs := []) ry fun g => True.intro)
    · rw [upd_ne hd] at q
      exact (I.hok b o q).stay (fun c v hc z => k c v (by
          rcases hc with hc | hc
          · rw [hc]
            exact hb
          · exact at_ne e hc exo_own) z)
        (fun c hc => by rw [upd_ne (at_ne e hc exo_own), upd_ne (ne_of_none hc hnd)]; exact hc) (fun c xs hc => by rw [upd_ne (at_ne e hc exo_tup), upd_ne (ne_of_none hc hnd)]; exact hc)
theorem ox_init {us : List Value} {Q : Value → Shared → Prop} (D : Bse B newId initId bmB) (T : OxC X.K C newId bmB) (I : Inv X pins σ H s) (e : H a = some (exo a C none)) (hl : us.length ≤ sizeLine) (h : ∀ s', Inv X pins σ H s' → Q .none s') :
    wpAny (model X.prog X.w) A (call (.builtin initId) (.ref a :: us)) Q E s := by
  obtain ⟨nm, N', qn, bs, bm, hdct, sn, sub, ab, col, dd, k0, k1, k2, k3, k5, hC, hT⟩ := PySem.W.excInit_of I.kIn T.ini
  obtain ⟨t1, ho⟩ := exo_at I.hok e
  obtain ⟨hp, g, d, t, os⟩ := s
  refine wpAny_call (PySem.HandSPX.init_base D.fb hT hC ho hl fun h' t2 k hx => ?_)
  have J := I.write (t' := t) (x := a) (e := a) (o := exo a C none) (by rw [e]; exact True.intro) (.inl rfl) k ⟨_, hx⟩ (exo_ok hx)
  have eu : upd H a (exo a C none) = H := by
    funext b
    by_cases hb : b = a
    · rw [hb, upd_same, e]
    · rw [upd_ne hb]
  rw [eu] at J
  exact h _ J
end
def tOxI (K : PySem.W.Frag) (newId : String) (bmB : List Value) (ta : TA) : TE := fun σ H Q => ta σ H fun vs H1 => ∃ (a C : Addr) (ws : List V), vs = .ref a :: ws ∧ ws.length ≤ 1000 ∧ OxC K C newId bmB ∧ H1 a = some (exo a C none) ∧ Q .non H1
def tOxS (K : PySem.W.Frag) (newId : String) (bmB : List Value) (f : Str) (to te : TE) : TS := fun D σ H => te σ H fun y H1 => to σ H1 fun x H2 => ∃ a C : Addr, x = .ref a ∧ OxC K C newId bmB ∧ PySem.W.findIn K (.ref C) f = some none ∧
  H2 a = some (exo a C none) ∧ ∀ dx, H2 dx = none → dx ≠ a → D.nx σ (upd (upd H2 dx (exd dx [(f, y)])) a (exo a C (some dx)))
section
variable {X : Cx} {o e : Expr} {es : List Expr} {to te : TE} {ta : TA} {f b : Str} {p p' p1 p2 pos : Pos} {B newId initId : String} {bmB : List Value}
theorem pe_oxi {pl : Sem Bool} (D : Bse B newId initId bmB) (hg : Gl X b) (hm : X.mg b = none) (hv : bootBuiltins b = some (.type B)) (ha : PA X (e :: es) ta) (hn : b ≠ "__name__" := by decide) (hdb : (b == ("__debug__" : Str)) = false := by decide)
    (hc : eval (.Call (.Attribute (.Name b p1) "__init__" p2) (e :: es) [] pos) X.env = (do
      let ov ← eval (.Name b p1) X.env
      standAt p2.atName
      let (f, first) ← holding [ov] (getMethod ov "__init__" pl)
      callWith pos f first (backTo pos (starEach (e :: es) X.env)) (backToKw pos (keywordEach [] X.env))) := by rfl)
    (he : starEach (e :: es) X.env = (false, eval e X.env) :: starEach es X.env := by rfl) (hpl : (backTo pos (starEach es X.env)).any (·.1) = false := by rfl) :
    PE X (.Call (.Attribute (.Name b p1) "__init__" p2) (e :: es) [] pos) (tOxI X.K newId bmB ta) := by
  refine ⟨fun pins s σ H Q I h => ?_⟩
  refine PySem.W.methodCall_KW (ld_blt I hg hm hv ?_ hn hdb) hc
  obtain ⟨m, fr⟩ := I.fr
  refine PySem.W.method_type fr I.ok.mod.kin D.ty D.st (D.fc _) D.hn ?_
  show wpAny _ _ (callWith pos (Value.builtin initId) [] (backTo pos (starEach (e :: es) X.env)) []) _ _ _
  refine PyProof.Rows.callWith_method1 (thn (ha.run pos pins _ σ H _ (I.tok _) h) fun us s1 ⟨vs, H1, I1, r1, a, C, ws, ev, hl, T, ea, q⟩ => ?_) he hpl
  subst ev
  cases r1 with
  | @cons _ u0 _ ur ra rw' =>
    obtain rfl : u0 = Value.ref a := ra
    have hlen : ur.length ≤ sizeLine := by
      rw [← Paired.length rw', sizeLine_eq]
      omega
    exact ox_init D T I1 ea hlen fun s' J => ⟨.non, H1, J, rfl, q⟩
theorem ps_oxs (D : Bse B newId initId bmB) (ho : PE X o to) (he : PE X e te) (hs : swapsWith e (some (.Attribute o f p')) pos.line X.env = pure false := by rfl) : PS X (.Assign [.Attribute o f p'] e pos) (tOxS X.K newId bmB f to te) := by
  refine ⟨fun pins s σ H Ds I h => ?_⟩
  refine plainObj_wpAny_Assign_Attribute (thn (he.run pins s σ H _ I h) fun v s1 ⟨y, H1, I1, r1, q1⟩ => thn (ho.run pins s1 σ H1 _ I1 q1) fun u s2 ⟨x, H2, I2, r2, a, C, ex, T, hno, ea, q⟩ => ?_) hs
  subst ex
  obtain rfl : u = Value.ref a := r2
  exact ox_new D T I2 ea hno r1 fun dx s' n ne J => ⟨σ, _, J, q dx n ne⟩
theorem pmk_ox {CX : CXT} {rd : List V → Hp → XK → Prop} {x : Str} {C fI : Addr} {k : Nat} {fd : FuncData} {ps : List Str} {sp : Sp} {ds : List Value} {dvs : List V} (D : Bse B newId initId bmB) (T : OxC X.K C newId bmB) (iC : PySem.W.findIn X.K (.ref C) "__init__" = some (some (.ref fI))) (tI : PySem.W.typeIn X.K (.ref fI) = some (.type "function"))
    (F1 : FnOk X.prog X.w X.K X.mg X.base CX k fI fd ps sp) (hr : Room (k + 1) X.A) (hb : Binds X.K fd ps ds) (hd : Vals dvs ds) (hx : Passes CX X (fun _ _ _ => False)) (hg : Gl X x) (hm : X.mg x = some (.ref C)) (ha : PA X (e :: es) ta)
    (conv : ∀ vs H1 Q, rd vs H1 Q → vs.length ≤ 1000 ∧ ∀ a, H1 a = none → sp (.ref a :: (vs ++ dvs)) (upd H1 a (exo a C none))
      (fun v H2 => v = .non ∧ ∃ (d : Addr) (fs : List (Str × V)), H2 a = some (exo a C (some d)) ∧ H2 d = some (exd d fs) ∧ H1 d = none ∧ Q (.ref C) (some d) (upd (del H2 a) d (.xd fs))) (fun _ _ _ => False))
    (hdb : (x == ("__debug__" : Str)) = false := by decide) (he : starEach (e :: es) X.env = (false, eval e X.env) :: starEach es X.env := by rfl) (hpl : (backTo pos (starEach es X.env)).any (·.1) = false := by rfl) :
    PMk X (.Call (.Name x p) (e :: es) [] pos) (fun σ H Q => ta σ H fun vs H1 => rd vs H1 Q) := by
  intro pins s σ H Q I h
  refine wpAny_Call_Name_kw (ld_glob I hg hm ?_ hdb)
  refine PySem.W.callWith_K (h₀ := X.base) I.ok.mod.kin T.kC (thn (ha.run pos pins s σ H _ I h) fun us s1 ⟨vs, H1, I1, r1, q0⟩ => ⟨I1.kIn, ?_⟩) he hpl
  obtain ⟨hz, q1⟩ := conv vs H1 Q q0
  show wpAny _ _ (call (.ref C) us) _ _ _
  obtain ⟨nm, N', qn, bs, bm, hdct, sn, sub, ab, col, dd, k0, k1, k2, k3, k5, hC, hT⟩ := PySem.W.excInit_of I1.kIn T.ini
  obtain ⟨hp, g, dr, tk, os⟩ := s1
  have hsz : hp.objs.size ≤ hp.objs.size + 1 := Nat.le_succ _
  have hn : H1 (hp.objs.size + 1) = none := I1.hok.fresh hsz
  have hq := q1 (hp.objs.size + 1) hn
  have kk : ∀ b o, hp.get? b = some o → ((hp.push (PySem.W.kdv_tup us)).push (PySem.HandSPX.excO C hp.objs.size)).get? b = some o := fun b o e => Heap.get?_push_of_some _ (Heap.get?_push_of_some _ e)
  have hget : ((hp.push (PySem.W.kdv_tup us)).push (PySem.HandSPX.excO C hp.objs.size)).get? (hp.objs.size + 1) = some (PySem.HandSPX.excO C hp.objs.size) := by heap_get
  have I2 : Inv X pins σ (upd H1 (hp.objs.size + 1) (exo (hp.objs.size + 1) C none)) ⟨(hp.push (PySem.W.kdv_tup us)).push (PySem.HandSPX.excO C hp.objs.size), g, dr, tk, os⟩ :=
    I1.laid (t' := tk) (a := hp.objs.size + 1) (o := exo (hp.objs.size + 1) C none) (h' := (hp.push (PySem.W.kdv_tup us)).push (PySem.HandSPX.excO C hp.objs.size)) kk hsz (exo_ok hget)
  have r2 : Vals (V.ref (hp.objs.size + 1) :: (vs ++ dvs)) (Value.ref (hp.objs.size + 1) :: (us ++ ds)) := .cons rfl (r1.append hd)
  have hl : (Value.ref (hp.objs.size + 1) :: us ++ ds).length = ps.length := by
    have e := r2.length
    rw [F1.len _ _ _ _ hq] at e
    exact e.symm
  have hus : us.length ≤ sizeLine := by
    rw [← Paired.length r1, sizeLine_eq]
    omega
  refine wpAny_call (PySem.HandSPX.call_own D.fb hT hC (PySem.W.looks_findIn I1.kIn iC) (fun self => PySem.W.bind_fn I1.kIn self tI) hus
    (codeAny_mono (F1.run _ X.stack _ _ ⟨Value.ref (hp.objs.size + 1) :: us, []⟩ (Value.ref (hp.objs.size + 1) :: (us ++ ds)) _ _ (fun _ _ _ => False) (hr.make C us []) (I2.env0.make C us []) (hb _ (Value.ref (hp.objs.size + 1) :: us) I2.kIn hl) r2 hq) fun r s' hq' => ?_))
  cases r with
  | error er => exact hx pins σ _ _ er s' I2 hq'
  | ok fl =>
    cases fl with
    | ret u =>
      obtain ⟨v, H2, os2, bare2, un2, hok2, rv, ev, d, fs, ea, ed, hd1, q2⟩ := hq'
      subst ev
      obtain ⟨h2, g2, d2, t2, os'⟩ := s'
      exact ⟨rv, mk_end (raises_own T.exC T.tyC) I1 hsz kk un2 hok2 os2 bare2 ea ed hd1 q2⟩
    | next => exact False.elim hq'
    | brk => exact False.elim hq'
    | cont => exact False.elim hq'
end
/-! ### the six -/
/-- a class that may be raised here: its __init__ keeps the promise -/
def spOx (K : PySem.W.Frag) (C : Addr) (f : Str) : Sp := fun vs H Q _ => ∃ (a : Addr) (v : V), vs = [.ref a, v] ∧ H a = some (exo a C none) ∧ ∀ dx, H dx = none → dx ≠ a → Q .non (upd (upd H dx (exd dx [(f, v)])) a (exo a C (some dx)))
structure Rz (P : Program) (w : World) (K : PySem.W.Frag) (mg : Str → Option Value) (base : Heap) (x : Str) (f : Str) : Prop where
  ex : ∃ B newId initId bmB, Bse B newId initId bmB ∧ OxC K (He.ga K x) newId bmB ∧ ∃ fd ps, FnOk P w K mg base CX0 1 (He.ma K (He.ga K x) "__init__") fd ps (spOx K (He.ga K x) f) ∧ Binds K fd ps []
  iC : PySem.W.findIn K (.ref (He.ga K x)) "__init__" = some (some (.ref (He.ma K (He.ga K x) "__init__")))
  tI : PySem.W.typeIn K (.ref (He.ma K (He.ga K x) "__init__")) = some (.type "function")
  g : mg x = some (.ref (He.ga K x))
/-- X(e) made, to be raised -/
def tRz (K : PySem.W.Frag) (x : Str) (ta : TA) : L2.St → Hp → XK → Prop := fun σ H Q => ta σ H fun vs H1 => ∃ v, vs = [v] ∧ ∀ d H2, Ex H1 H2 → H1 d = none → Q (.ref (He.ga K x)) (some d) H2
theorem pmk_rz {X : Cx} {x f : Str} {e : Expr} {ta : TA} {p pos : Pos} {j : Nat} (R : Rz X.prog X.w X.K X.mg X.base x f) (hr : Room j X.A) (ha : PA X [e] ta) (hk : 2 ≤ j := by decide) (hg : Gl X x := by rfl)
    (hdb : (x == ("__debug__" : Str)) = false := by decide) (he : starEach [e] X.env = (false, eval e X.env) :: starEach [] X.env := by rfl) (hpl : (backTo pos (starEach [] X.env)).any (·.1) = false := by rfl) :
    PMk X (.Call (.Name x p) [e] [] pos) (tRz X.K x ta) := by
  obtain ⟨B, newId, initId, bmB, D, T, fd, ps, F, b⟩ := R.ex
  refine pmk_ox (rd := fun vs H1 Q => ∃ v, vs = [v] ∧ ∀ d H2, Ex H1 H2 → H1 d = none → Q (.ref (He.ga X.K x)) (some d) H2) D T R.iC R.tI F (hr.mono hk) b .nil pass0 hg R.g ha (fun vs H1 Q q => ?_) hdb he hpl
  obtain ⟨v, rfl, q⟩ := q
  refine ⟨(by show 1 ≤ 1000; decide), fun a na => ⟨a, v, rfl, upd_same, fun dx nd nea => ?_⟩⟩
  rw [upd_ne nea] at nd
  refine ⟨rfl, dx, _, upd_same, by rw [upd_ne nea, upd_same], nd, q dx _ (fun b o hb => ?_) nd⟩
  have hba : b ≠ a := ne_of_none hb na
  have hbd : b ≠ dx := ne_of_none hb nd
  rw [upd_ne hbd, del_ne hba, upd_ne hba, upd_ne hbd, upd_ne hba]
  exact hb
end Sh
/-! The six exception classes. -/
namespace Sh
open PySem PySem.Spec PyProof.Rows L2
structure ExF (K : PySem.W.Frag) (e : ExW) : Prop where
  c : OxC K (He.ga K e.x) e.nid e.bm
  fn_ : PySem.W.findIn K (.ref (He.ga K e.x)) e.fld = some none
  iC : PySem.W.findIn K (.ref (He.ga K e.x)) "__init__" = some (some (.ref (He.ma K (He.ga K e.x) "__init__")))
  tI : PySem.W.typeIn K (.ref (He.ma K (He.ga K e.x) "__init__")) = some (.type "function")
  m : PySem.W.exmAny K (.ref (He.ga K e.x)) (six K) = some true
theorem Txt.ex {w : World} {K : PySem.W.Frag} {mg : Str → Option Value} (T : Txt w K mg) {e : ExW} (h : e ∈ xs6) : ExF K e := by
  have h1 := List.all_eq_true.mp (He.ba T.more).1 e h
  unfold ExW.ok at h1
  obtain ⟨a1, h1⟩ := He.ba h1
  obtain ⟨a2, h1⟩ := He.ba h1
  obtain ⟨a3, h1⟩ := He.ba h1
  obtain ⟨a4, h1⟩ := He.ba h1
  obtain ⟨a5, h1⟩ := He.ba h1
  obtain ⟨a6, h1⟩ := He.ba h1
  obtain ⟨a7, h1⟩ := He.ba h1
  obtain ⟨a8, h1⟩ := He.ba h1
  obtain ⟨a9, h1⟩ := He.ba h1
  obtain ⟨b1, b2⟩ := He.ba h1
  exact ⟨⟨a1, a2, a3, He.eqO_ok a4, of_decide_eq_true a5, of_decide_eq_true a6, a7⟩, He.eqO_ok a8, He.eqO_ok a9, of_decide_eq_true b1, of_decide_eq_true b2⟩
section
variable {P : Program} {w : World} {K : PySem.W.Frag} {mg : Str → Option Value} {base : Heap}
abbrev sxNotLike_N : List Str := ["self", "spot"]
theorem sxNotLike : FnScope sxNotLike_N sxNotLike_N (defScope iNotLike) := ⟨rfl, rfl, rfl, by decide +kernel, rfl, by decide +kernel, by decide +kernel⟩
theorem rz_NotLike (hT : Txt w K mg) : Rz P w K mg base "NotLike" "spot" := by
  have xf := hT.ex (e := xNotLike) (by simp [xs6])
  obtain ⟨fd, F⟩ := hT.def_ (mD "NotLike" "__init__" "NotLike.__init__" iNotLike [] []) (by simp [fn])
  refine ⟨⟨"ValueError", _, "ValueError.__init__", _, bse_ve, xf.c, fd, sxNotLike_N, ?_, FunD.bindsN F (ps := sxNotLike_N) fun _ _ _ _ _ _ us hl => match us, hl with | [_, _], _ => rfl⟩, xf.iC, xf.tI, hT.glo "NotLike" (by decide +kernel)⟩
  refine FunD.ok F (N := sxNotLike_N) sxNotLike (fun vs H Q E h => by obtain ⟨a, v, rfl, _⟩ := h; rfl) fun cdv A outer s H vs Q E hr h => ?_
  refine' ⟨_, PSs.nox ?walk, ?read⟩
  case walk => exact (pss_cons (ps_expr (pe_oxi bse_ve (by rfl) (hT.free "ValueError" (by decide +kernel)) (by decide +kernel) (pa_cons (pv 0) (pa_cons pe_str pa_nil)))) (pss_one (ps_oxs bse_ve (pv 0) (pv 1))))
  case read =>
    obtain ⟨a, v, rfl, ha, q⟩ := h
    exact ⟨_, rfl, a, _, _, rfl, (by show 1 ≤ 1000; decide), xf.c, ha, _, rfl, _, rfl, a, _, rfl, xf.c, xf.fn_, ha, fun dx nd ne => q dx nd ne⟩
abbrev sxNoRun_N : List Str := ["self", "spot"]
theorem sxNoRun : FnScope sxNoRun_N sxNoRun_N (defScope iNoRun) := ⟨rfl, rfl, rfl, by decide +kernel, rfl, by decide +kernel, by decide +kernel⟩
theorem rz_NoRun (hT : Txt w K mg) : Rz P w K mg base "NoRun" "spot" := by
  have xf := hT.ex (e := xNoRun) (by simp [xs6])
  obtain ⟨fd, F⟩ := hT.def_ (mD "NoRun" "__init__" "NoRun.__init__" iNoRun [] []) (by simp [fn])
  refine ⟨⟨"LookupError", _, "LookupError.__init__", _, bse_lk, xf.c, fd, sxNoRun_N, ?_, FunD.bindsN F (ps := sxNoRun_N) fun _ _ _ _ _ _ us hl => match us, hl with | [_, _], _ => rfl⟩, xf.iC, xf.tI, hT.glo "NoRun" (by decide +kernel)⟩
  refine FunD.ok F (N := sxNoRun_N) sxNoRun (fun vs H Q E h => by obtain ⟨a, v, rfl, _⟩ := h; rfl) fun cdv A outer s H vs Q E hr h => ?_
  refine' ⟨_, PSs.nox ?walk, ?read⟩
  case walk => exact (pss_cons (ps_expr (pe_oxi bse_lk (by rfl) (hT.free "LookupError" (by decide +kernel)) (by decide +kernel) (pa_cons (pv 0) (pa_cons pe_str pa_nil)))) (pss_one (ps_oxs bse_lk (pv 0) (pv 1))))
  case read =>
    obtain ⟨a, v, rfl, ha, q⟩ := h
    exact ⟨_, rfl, a, _, _, rfl, (by show 1 ≤ 1000; decide), xf.c, ha, _, rfl, _, rfl, a, _, rfl, xf.c, xf.fn_, ha, fun dx nd ne => q dx nd ne⟩
abbrev sxNoShelf_N : List Str := ["self", "shelf"]
theorem sxNoShelf : FnScope sxNoShelf_N sxNoShelf_N (defScope iNoShelf) := ⟨rfl, rfl, rfl, by decide +kernel, rfl, by decide +kernel, by decide +kernel⟩
theorem rz_NoShelf (hT : Txt w K mg) : Rz P w K mg base "NoShelf" "shelf" := by
  have xf := hT.ex (e := xNoShelf) (by simp [xs6])
  obtain ⟨fd, F⟩ := hT.def_ (mD "NoShelf" "__init__" "NoShelf.__init__" iNoShelf [] []) (by simp [fn])
  refine ⟨⟨"LookupError", _, "LookupError.__init__", _, bse_lk, xf.c, fd, sxNoShelf_N, ?_, FunD.bindsN F (ps := sxNoShelf_N) fun _ _ _ _ _ _ us hl => match us, hl with | [_, _], _ => rfl⟩, xf.iC, xf.tI, hT.glo "NoShelf" (by decide +kernel)⟩
  refine FunD.ok F (N := sxNoShelf_N) sxNoShelf (fun vs H Q E h => by obtain ⟨a, v, rfl, _⟩ := h; rfl) fun cdv A outer s H vs Q E hr h => ?_
  refine' ⟨_, PSs.nox ?walk, ?read⟩
  case walk => exact (pss_cons (ps_expr (pe_oxi bse_lk (by rfl) (hT.free "LookupError" (by decide +kernel)) (by decide +kernel) (pa_cons (pv 0) (pa_cons pe_str pa_nil)))) (pss_one (ps_oxs bse_lk (pv 0) (pv 1))))
  case read =>
    obtain ⟨a, v, rfl, ha, q⟩ := h
    exact ⟨_, rfl, a, _, _, rfl, (by show 1 ≤ 1000; decide), xf.c, ha, _, rfl, _, rfl, a, _, rfl, xf.c, xf.fn_, ha, fun dx nd ne => q dx nd ne⟩
abbrev sxNotOut_N : List Str := ["self", "kind"]
theorem sxNotOut : FnScope sxNotOut_N sxNotOut_N (defScope iNotOut) := ⟨rfl, rfl, rfl, by decide +kernel, rfl, by decide +kernel, by decide +kernel⟩
theorem rz_NotOut (hT : Txt w K mg) : Rz P w K mg base "NotOut" "kind" := by
  have xf := hT.ex (e := xNotOut) (by simp [xs6])
  obtain ⟨fd, F⟩ := hT.def_ (mD "NotOut" "__init__" "NotOut.__init__" iNotOut [] []) (by simp [fn])
  refine ⟨⟨"LookupError", _, "LookupError.__init__", _, bse_lk, xf.c, fd, sxNotOut_N, ?_, FunD.bindsN F (ps := sxNotOut_N) fun _ _ _ _ _ _ us hl => match us, hl with | [_, _], _ => rfl⟩, xf.iC, xf.tI, hT.glo "NotOut" (by decide +kernel)⟩
  refine FunD.ok F (N := sxNotOut_N) sxNotOut (fun vs H Q E h => by obtain ⟨a, v, rfl, _⟩ := h; rfl) fun cdv A outer s H vs Q E hr h => ?_
  refine' ⟨_, PSs.nox ?walk, ?read⟩
  case walk => exact (pss_cons (ps_expr (pe_oxi bse_lk (by rfl) (hT.free "LookupError" (by decide +kernel)) (by decide +kernel) (pa_cons (pv 0) (pa_cons pe_str pa_nil)))) (pss_one (ps_oxs bse_lk (pv 0) (pv 1))))
  case read =>
    obtain ⟨a, v, rfl, ha, q⟩ := h
    exact ⟨_, rfl, a, _, _, rfl, (by show 1 ≤ 1000; decide), xf.c, ha, _, rfl, _, rfl, a, _, rfl, xf.c, xf.fn_, ha, fun dx nd ne => q dx nd ne⟩
abbrev sxFull_N : List Str := ["self", "many"]
theorem sxFull : FnScope sxFull_N sxFull_N (defScope iFull) := ⟨rfl, rfl, rfl, by decide +kernel, rfl, by decide +kernel, by decide +kernel⟩
theorem rz_Full (hT : Txt w K mg) : Rz P w K mg base "Full" "many" := by
  have xf := hT.ex (e := xFull) (by simp [xs6])
  obtain ⟨fd, F⟩ := hT.def_ (mD "Full" "__init__" "Full.__init__" iFull [] []) (by simp [fn])
  refine ⟨⟨"RuntimeError", _, "RuntimeError.__init__", _, bse_rt, xf.c, fd, sxFull_N, ?_, FunD.bindsN F (ps := sxFull_N) fun _ _ _ _ _ _ us hl => match us, hl with | [_, _], _ => rfl⟩, xf.iC, xf.tI, hT.glo "Full" (by decide +kernel)⟩
  refine FunD.ok F (N := sxFull_N) sxFull (fun vs H Q E h => by obtain ⟨a, v, rfl, _⟩ := h; rfl) fun cdv A outer s H vs Q E hr h => ?_
  refine' ⟨_, PSs.nox ?walk, ?read⟩
  case walk => exact (pss_cons (ps_expr (pe_oxi bse_rt (by rfl) (hT.free "RuntimeError" (by decide +kernel)) (by decide +kernel) (pa_cons (pv 0) (pa_cons pe_str pa_nil)))) (pss_one (ps_oxs bse_rt (pv 0) (pv 1))))
  case read =>
    obtain ⟨a, v, rfl, ha, q⟩ := h
    exact ⟨_, rfl, a, _, _, rfl, (by show 1 ≤ 1000; decide), xf.c, ha, _, rfl, _, rfl, a, _, rfl, xf.c, xf.fn_, ha, fun dx nd ne => q dx nd ne⟩
abbrev sxStands_N : List Str := ["self", "kind"]
theorem sxStands : FnScope sxStands_N sxStands_N (defScope iStands) := ⟨rfl, rfl, rfl, by decide +kernel, rfl, by decide +kernel, by decide +kernel⟩
theorem rz_Stands (hT : Txt w K mg) : Rz P w K mg base "Stands" "kind" := by
  have xf := hT.ex (e := xStands) (by simp [xs6])
  obtain ⟨fd, F⟩ := hT.def_ (mD "Stands" "__init__" "Stands.__init__" iStands [] []) (by simp [fn])
  refine ⟨⟨"RuntimeError", _, "RuntimeError.__init__", _, bse_rt, xf.c, fd, sxStands_N, ?_, FunD.bindsN F (ps := sxStands_N) fun _ _ _ _ _ _ us hl => match us, hl with | [_, _], _ => rfl⟩, xf.iC, xf.tI, hT.glo "Stands" (by decide +kernel)⟩
  refine FunD.ok F (N := sxStands_N) sxStands (fun vs H Q E h => by obtain ⟨a, v, rfl, _⟩ := h; rfl) fun cdv A outer s H vs Q E hr h => ?_
  refine' ⟨_, PSs.nox ?walk, ?read⟩
  case walk => exact (pss_cons (ps_expr (pe_oxi bse_rt (by rfl) (hT.free "RuntimeError" (by decide +kernel)) (by decide +kernel) (pa_cons (pv 0) (pa_cons pe_str pa_nil)))) (pss_one (ps_oxs bse_rt (pv 0) (pv 1))))
  case read =>
    obtain ⟨a, v, rfl, ha, q⟩ := h
    exact ⟨_, rfl, a, _, _, rfl, (by show 1 ≤ 1000; decide), xf.c, ha, _, rfl, _, rfl, a, _, rfl, xf.c, xf.fn_, ha, fun dx nd ne => q dx nd ne⟩
end
end Sh
/-! The library in the heap; what is known of its states. -/
namespace Sh
open PySem PySem.Spec PyProof.Rows L2
/-! ### the states -/
def PInv (p : PSt) : Prop := ∃ s, Rel p s ∧ Wf s
theorem flat_total : ∀ {st : Std}, PosS st → (st.flatten.length : Int) ≤ total st
  | [], _ => by rw [total_nil]; simp
  | s :: r, h => by
    have h1 := flat_total (st := r) fun x hx => h x (List.mem_cons_of_mem _ hx)
    have h2 := len_le_sum (h s List.mem_cons_self)
    rw [total_cons, List.flatten_cons, List.length_append]
    omega
theorem PInv.small {p : PSt} (h : PInv p) : Small p.st := by
  obtain ⟨s, R, W⟩ := h
  have h1 := flat_total W.pos
  have h2 := W.bd
  have h3 := W.len
  unfold Sh.bd at h2
  rw [R.st]
  exact ⟨by omega, by omega⟩
theorem PInv.nd {p : PSt} (h : PInv p) : (keys p.out).Nodup := let ⟨_, R, _⟩ := h; R.nd
theorem PInv.olen {p : PSt} (h : PInv p) : p.out.length ≤ 1000 := by
  obtain ⟨s, R, W⟩ := h
  have h1 := len_le_sum R.pos
  have h2 := W.bd
  have h3 := R.sum
  have h4 := total_nonneg W.pos
  unfold Sh.bd at h2
  omega
theorem PInv.pos {p : PSt} (h : PInv p) : PosS p.st := let ⟨_, R, W⟩ := h; by rw [R.st]; exact W.pos
/-- where the law's machine takes a deed it has a state behind it -/
theorem lstep_ex {s : LSt} {d : Deed} (h : LOk s d) : ∃ s', LStep s d s' := by
  cases d with
  | take i j =>
    obtain ⟨⟨r, h1⟩, h2⟩ := h
    exact ⟨_, .take h1 h2 (List.Perm.refl _)⟩
  | put k i j =>
    obtain ⟨h1, r, h2, h3⟩ := h
    exact ⟨_, .put h1 h2 h3⟩
  | fin k i => exact ⟨_, .fin h.1 h.2.1 h.2.2⟩
  | lend n => exact ⟨_, .lend h⟩
theorem PInv.step {p p' : PSt} {d : Deed} (h : PInv p) (e : pstep p d = some p') : PInv p' := by
  obtain ⟨s, R, W⟩ := h
  obtain ⟨s', t⟩ := lstep_ex ((R.ok W d).mp (by rw [e]; rfl))
  exact ⟨s', R.step e t, W.step t⟩
theorem PInv.pst {p : PSt} (h : PInv p) (d : Deed) : PInv (pst p d) := by
  unfold Sh.pst
  cases e : pstep p d with
  | none => exact h
  | some p' => exact h.step e
theorem PInv.after : ∀ (ds : List Deed) {p : PSt}, PInv p → PInv (pafter p ds)
  | [], _, h => h
  | d :: ds, _, h => PInv.after ds (h.pst d)
/-! ### in the heap -/
def PStV (H : Hp) (v : V) (s : PSt) : Prop := ∃ a v1 v2, v = .ref a ∧ Rd H a (.tup [v1, v2, .int s.ln, .int s.tk]) ∧ StV H v1 s.st ∧ OutV H v2 s.out
theorem mon_pst : Mon PStV := fun _ _ _ _ t h => let ⟨a, v1, v2, e, r, h1, h2⟩ := h; ⟨a, v1, v2, e, t.rd r, mon_st _ _ _ _ t h1, mon_out _ _ _ _ t h2⟩
def lF (ls lg : Addr) : List (Str × V) := [("own_states", .ref ls), ("own_log", .ref lg)]
theorem lF_s (ls lg : Addr) : (lF ls lg).lookup ("own_states" : Str) = some (.ref ls) := rfl
theorem lF_l (ls lg : Addr) : (lF ls lg).lookup ("own_log" : Str) = some (.ref lg) := by
  have e : (("own_log" : Str) == ("own_states" : Str)) = false := by decide +kernel
  unfold lF
  rw [List.lookup_cons, e]
  rfl
theorem lF_m {ls lg : Addr} {m : Str} (h1 : (m == ("own_states" : Str)) = false := by decide +kernel) (h2 : (m == ("own_log" : Str)) = false := by decide +kernel) : (lF ls lg).lookup m = none := by
  unfold lF
  rw [List.lookup_cons, h1, List.lookup_cons, h2]
  rfl
theorem lF_put (ls lg x : Addr) : putF "own_states" (.ref x) (lF ls lg) = lF x lg := rfl
theorem lF_new (ls lg : Addr) : putF "own_log" (.ref lg) (putF "own_states" (.ref ls) []) = lF ls lg := by
  have e : ¬ ("own_states" : Str) = ("own_log" : Str) := by decide +kernel
  show putF "own_log" (.ref lg) [("own_states", .ref ls)] = _
  unfold putF
  rw [if_neg e]
  rfl
/-- the library at L: its dict, its lists, its states, its log -/
structure LibAt (K : PySem.W.Frag) (H : Hp) (L dx ls lg : Addr) (xs : List V) (ps : List PSt) (gs : List V) : Prop where
  ins : H L = some (.ins (LC K) dx (lF ls lg))
  st : H ls = some (.lst xs)
  prd : Paired (PStV H) xs ps
  log : H lg = some (.lst gs)
  ne : ls ≠ lg
theorem LibAt.neL {K : PySem.W.Frag} {H : Hp} {L dx ls lg : Addr} {xs : List V} {ps : List PSt} {gs : List V} (A : LibAt K H L dx ls lg xs ps gs) : L ≠ ls ∧ L ≠ lg := ⟨ne_of A.ins A.st (fun z => nomatch z), ne_of A.ins A.log (fun z => nomatch z)⟩
/-- the last state: what a method looks at -/
structure Cur (K : PySem.W.Frag) (H : Hp) (L dx ls lg : Addr) (xs : List V) (v : V) (p : PSt) : Prop where
  ins : H L = some (.ins (LC K) dx (lF ls lg))
  st : H ls = some (.lst xs)
  at_ : xs[xs.length - 1]? = some v
  p : PStV H v p
theorem Cur.ex {K : PySem.W.Frag} {H H' : Hp} {L dx ls lg : Addr} {xs : List V} {v : V} {p : PSt} (c : Cur K H L dx ls lg xs v p) (e : Ex H H') : Cur K H' L dx ls lg xs v p :=
  ⟨e _ _ c.ins, e _ _ c.st, c.at_, mon_pst _ _ _ _ (tk_ex e) c.p⟩
theorem LibAt.cur {K : PySem.W.Frag} {H : Hp} {L dx ls lg : Addr} {xs : List V} {ps : List PSt} {gs : List V} {p : PSt} (A : LibAt K H L dx ls lg xs ps gs) (h : ps[ps.length - 1]? = some p) : ∃ v, Cur K H L dx ls lg xs v p := by
  obtain ⟨v, hv, r⟩ := pget A.prd h
  exact ⟨v, A.ins, A.st, by rw [plen A.prd]; exact hv, r⟩
theorem LibAt.keep {K : PySem.W.Frag} {H H' : Hp} {L dx ls lg : Addr} {xs : List V} {ps : List PSt} {gs : List V} (A : LibAt K H L dx ls lg xs ps gs) {ex : List Addr} (c : Ch ex H H') (t : Tk H H') (h1 : L ∉ ex) (h2 : ls ∉ ex) (h3 : lg ∉ ex) : LibAt K H' L dx ls lg xs ps gs :=
  ⟨c _ _ h1 A.ins, c _ _ h2 A.st, pmono mon_pst t A.prd, c _ _ h3 A.log, A.ne⟩
theorem LibAt.ex {K : PySem.W.Frag} {H H' : Hp} {L dx ls lg : Addr} {xs : List V} {ps : List PSt} {gs : List V} (A : LibAt K H L dx ls lg xs ps gs) (e : Ex H H') : LibAt K H' L dx ls lg xs ps gs :=
  A.keep (ex := []) (.of e) (tk_ex e) (by simp) (by simp) (by simp)
/-- the classes that a deed may raise -/
def IsX (K : PySem.W.Frag) (cls : Value) : Prop := ∃ e ∈ xs6, cls = .ref (He.ga K e.x)
theorem isX {K : PySem.W.Frag} {e : ExW} (h : e ∈ xs6 := by simp [xs6]) : IsX K (.ref (He.ga K e.x)) := ⟨e, h, rfl⟩
theorem walkX {X : Cx} {body : List Stmt} {D : Ends} {σ : L2.St} {H : Hp} {t : TS} (h1 : PSs X body t) (h2 : t D σ H) : ∃ t, PSs X body t ∧ t D σ H := ⟨t, h1, h2⟩
/-! ### calls that may raise -/
section
variable {X : Cx} {j k : Nat} {m : Str} {ps : List Str} {sp : Sp} {t : TA} {ta : TE} {e o : Expr} {es : List Expr} {pos apos : Pos} {E : XK}
theorem pe_meX {pl : Sem Bool} (d : Mth X.prog X.w X.K X.mg X.base (L2.CX X.prog X.w) k m ps sp) (hr : Room j X.A) (c : Cls X.K (LC X.K)) (tk : L2.Takes X (fun cls d _ H => E cls d H)) (he : PE X o ta) (ha : PA X (e :: es) t) (hk : k ≤ j := by decide)
    (hst : starEach (e :: es) X.env = (false, eval e X.env) :: starEach es X.env := by rfl) (hpl : (backTo pos (starEach es X.env)).any (·.1) = false := by rfl)
    (ht : eval (.Call (.Attribute o m apos) (e :: es) [] pos) X.env = (do
      let ov ← eval o X.env
      standAt apos.atName
      let (f, first) ← holding [ov] (getMethod ov m pl)
      callWith pos f first (backTo pos (starEach (e :: es) X.env)) (backToKw pos (keywordEach [] X.env))) := by rfl) :
    PE X (.Call (.Attribute o m apos) (e :: es) [] pos) (tMeth (LC X.K) m sp [] E ta t) := by
  obtain ⟨fd, F, b⟩ := d.ex
  exact pe_meth he c d.me F (hr.mono hk) b .nil (passes_call tk fun _ _ _ _ h => h) ha hst hpl ht
/-- o.m(e, ..) within a try -/
theorem pe_meS {W : WX} {pl : Sem Bool} (d : Mth X.prog X.w X.K X.mg X.base (L2.CX X.prog X.w) k m ps sp) (hr : Room j X.A) (c : Cls X.K (LC X.K)) (tk : L2.Takes X W) (he : PE X o ta) (ha : PA X (e :: es) t) (hk : k ≤ j := by decide)
    (hst : starEach (e :: es) X.env = (false, eval e X.env) :: starEach es X.env := by rfl) (hpl : (backTo pos (starEach es X.env)).any (·.1) = false := by rfl)
    (ht : eval (.Call (.Attribute o m apos) (e :: es) [] pos) X.env = (do
      let ov ← eval o X.env
      standAt apos.atName
      let (f, first) ← holding [ov] (getMethod ov m pl)
      callWith pos f first (backTo pos (starEach (e :: es) X.env)) (backToKw pos (keywordEach [] X.env))) := by rfl) :
    PE X (.Call (.Attribute o m apos) (e :: es) [] pos) (fun σ H Q => ta σ H fun x H1 => ∃ a dx fs, x = .ref a ∧ H1 a = some (.ins (LC X.K) dx fs) ∧ fs.lookup m = none ∧ t σ H1 fun vs H2 => sp (x :: vs) H2 Q (WE W σ)) := by
  obtain ⟨fd, F, b⟩ := d.ex
  refine ⟨fun pins s σ H Q I h => ?_⟩
  refine PySem.W.methodCall_KW (pl := pl) (thn (he.run pins s σ H _ I h) fun u s1 ⟨x, H1, I1, rx, a, dx, fs, ex, ea, l, q⟩ => ?_) ht
  subst ex
  obtain rfl : u = Value.ref a := rx
  refine getmeth_ok I1 ea c d.me l ?_
  refine PySem.W.callWith_K (first := [.ref a]) (h₀ := X.base) I.ok.mod.kin d.me.kp (thn (ha.run pos pins s1 σ H1 _ I1 q) fun us s2 ⟨vs, H2, I2, r, q2⟩ => ⟨I2.kIn, ?_⟩) hst hpl
  exact run_fnS (us := .ref a :: us) (vs := .ref a :: vs) F (hr.mono hk) b (passAt tk σ) I2 (.cons rfl r) q2
end
end Sh
/-! word, *rest = a tuple -/
namespace PySem
namespace ShU
open PySem.Calls PyProof.Rows
section
variable {prog : Program} {w : World} {A : Around} {E : Value → Shared → Prop} {s : Shared}
theorem shift_one {I : Addr} {fp wr : List Addr} {G : Array GenState → Array GenState → Prop} {n : Nat} {P : Nat → Value → Prop} {St : Nat → Shared → Prop} (W : WalksS prog w A I fp wr G (n + 1) P St) :
    WalksS prog w A I fp wr G n (fun i => P (i + 1)) (fun i => St (i + 1)) where
  sub := W.sub
  grefl := W.grefl
  gtrans := W.gtrans
  frame := fun i => W.frame (i + 1)
  item := fun i s Q E hi st hQ => W.item (i + 1) s Q E (by omega) st hQ
  done := W.done
  self := fun i => W.self (i + 1)
theorem unpack_star {t : Addr} {x : Value} {xs : List Value} {Q : List Value → Shared → Prop} (hh : A.handled = none) (ht : s.heap.IsTuple t (x :: xs).toArray) (hz : xs.length ≤ sizeLine)
    (hQ : ∀ (h' : Heap) (tk : Nat), (∀ b o, s.heap.get? b = some o → h'.get? b = some o) → Q [x, .ref h'.objs.size] { s with heap := h'.push { cls := .type "list", data := .seq xs.toArray }, toks := tk }) :
    wpAny (model prog w) A (unpackItems (.ref t) 2 (some 1)) Q E s := by
  have hlt : t ≠ s.heap.objs.size := by obtain ⟨o, ho, _⟩ := ht; exact Nat.ne_of_lt (Heap.lt_size ho)
  unfold unpackItems
  refine wpAny_bind ?_
  unfold notIterableAtAll
  refine wpAny_bind (wpAny_specialOf ht.typeIs F.slot_tuple_iter.lookup ?_)
  refine wpAny_pure ?_
  simp only [Bool.false_eq_true, if_false]
  refine wpAny_bind (wpAny_holding (wpAny_pyIter_tuple ht ?_))
  refine wpAny_bind (wpAny_holding (wpAny_draw_tuple hlt 1 0 _ _ ⟨_, Heap.get?_push_size _ rfl, rfl, rfl⟩ (ht.push _) (by simp) fun h₁ hit₁ hs₁ => ?_))
  have hall : List.take 1 (List.drop 0 (x :: xs).toArray.toList) = [x] := by simp
  rw [hall]
  rw [if_neg (by simp)]
  have ht₁ : h₁.IsTuple t (x :: xs).toArray := (ht.push _).extBut hs₁.extBut hlt
  have hl1 : t < h₁.objs.size := by obtain ⟨o, ho, _⟩ := ht₁; exact Heap.lt_size ho
  have hl2 : s.heap.objs.size < h₁.objs.size := by obtain ⟨o, ho, _⟩ := hit₁; exact Heap.lt_size ho
  have hh3 : A.in1.handled = none := by simp [hh]
  have W := Walks.tuple (prog := prog) (w := w) (A := A.in1) hh3 s.heap.objs.size t hlt (x :: xs).toArray
  have W2 := shift_one (n := xs.length) (by
    have e : (x :: xs).toArray.size = xs.length + 1 := by simp
    rw [e] at W
    exact W.toS)
  refine wpAny_bind (wpAny_holding (wpAny_collect_iter (s := { s with heap := h₁ }) (.inr (.inr (.inr rfl))) W2 (fun i s' st => ?_) ?_ (fun b hb => ?_) (by simp) (fun s' acc hm hi => ?_) hz))
  · obtain ⟨⟨o, ho, hc, _⟩, _⟩ := st
    exact ⟨o, ho, hc⟩
  · exact ⟨hit₁, ht₁⟩
  · rcases (show b = s.heap.objs.size ∨ b = t by simpa using hb) with e | e
    · rw [e]; exact hl2
    · rw [e]; exact hl1
  · have hacc : acc.toList = xs := by
      obtain ⟨h1, h2⟩ := hi
      have e : acc.toList.length = xs.length := by rw [Array.length_toList]; exact h1
      refine List.ext_getElem e fun j j1 j2 => ?_
      have j3 : j < acc.size := by rw [← Array.length_toList]; exact j1
      have q := h2 j acc[j] (by simp [j3])
      have q2 : (x :: xs).toArray[j + 1]? = some acc[j] := q
      simp at q2
      rw [Array.getElem_toList]
      exact (Option.some.inj ((List.getElem?_eq_getElem j2).symm.trans q2)).symm
    rw [hacc]
    obtain ⟨h2, g2, d2, t2, o2⟩ := s'
    have eg : g2 = s.gens := hm.gens
    have ed : d2 = s.drawn := hm.drawn
    have eo : o2 = s.os := hm.os
    subst eg
    subst ed
    subst eo
    simp only [Nat.sub_self, Nat.sub_zero, Nat.add_one_sub_one]
    refine (?_ : wpAny (model prog w) A (if xs.length < 2 - 1 - 1 then _ else _) Q E _)
    rw [if_neg (by omega)]
    have kk : ∀ b o, s.heap.get? b = some o → h2.get? b = some o := fun b o e => by
      have hb : b ≠ s.heap.objs.size := Nat.ne_of_lt (Heap.lt_size e)
      exact hm.heap b o (by simpa using hb) (hs₁.extBut b o hb (Heap.get?_push_of_some _ e))
    refine wpAny_bind (wpAny_newList ?_ (by rw [List.length_take]; omega))
    refine wpAny_pure ?_
    have q := hQ h2 t2 kk
    simpa using q
end
end ShU
end PySem

namespace Sh
open PySem PySem.Spec PyProof.Rows L2
/-- a, *b = a tuple with an item at least: b a new list of the others -/
def gStar (K : PySem.W.Frag) (g1 g2 : TG) : TG := fun v σ H Q => ∃ a x xs, v = .ref a ∧ SqT K H a (x :: xs) ∧ ∀ l, H l = none → g1 x σ (upd H l (.lst xs)) fun σ1 H1 => g2 (.ref l) σ1 H1 Q
theorem pg_star {X : Cx} {e1 e2 : Expr} {g1 g2 : TG} {k : Nat} {p2 pos : Pos} (hc : X.calm = true) (h1 : PG X e1 g1) (h2 : PG X e2 g2)
    (hn : (assignEach [e1, .Starred e2 p2] X.env).length = 2 := by rfl) (hst : (assignEach [e1, .Starred e2 p2] X.env).findIdx? (·.1) = some 1 := by rfl)
    (hm : (assignEach [e1, .Starred e2 p2] X.env).map (·.2) = [assign e1 X.env, assign e2 X.env] := by rfl) : PG X (.Tuple [e1, .Starred e2 p2] k pos) (gStar X.K g1 g2) := by
  refine ⟨fun pins s σ H v u Q I r hw => ?_⟩
  obtain ⟨a, x, xs, rfl, hq, q⟩ := hw
  cases r
  obtain ⟨its, rv, ht, hz⟩ := I.tuple hq
  cases rv with
  | @cons _ u0 _ us r0 rs =>
    rw [assign_Tuple]
    refine wpAny_bind (wpAny_standAt ?_)
    unfold unpack
    rw [hn, hst, hm]
    have hl := rs.length
    rw [List.length_cons] at hz
    refine wpAny_bind (wpAny_holding (PySem.ShU.unpack_star (I.ok.hd hc) (show s.heap.IsTuple a (u0 :: us).toArray from ht) (by omega) fun h' tk kk => ?_))
    have I1 : Inv X pins σ H { s with heap := h', toks := tk } := I.kept (t' := tk) kk
    have hn0 : H h'.objs.size = none := I1.hok.fresh (Nat.le_refl _)
    have I2 : Inv X pins σ (upd H h'.objs.size (.lst xs)) { s with heap := h'.push { cls := .type "list", data := .seq us.toArray }, toks := tk } :=
      I1.laid (t' := tk) (a := h'.objs.size) (o := .lst xs) (h' := h'.push { cls := .type "list", data := .seq us.toArray }) (fun b o e => Heap.get?_push_of_some _ e) (Nat.le_refl _) ⟨by omega, us, 0, rs, Heap.get?_push_size _ rfl⟩
    refine assignInOrder_cons (thn (h1.run pins _ σ _ x u0 _ I2 r0 (q _ hn0)) fun _ s1 ⟨σ1, H1, I3, q1⟩ => ?_)
    refine assignInOrder_cons (thn (h2.run pins s1 σ1 H1 (.ref h'.objs.size) (.ref h'.objs.size) _ I3 rfl q1) fun _ s2 ⟨σ2, H2, I4, q2⟩ => ?_)
    exact assignInOrder_nil ⟨σ2, H2, I4, q2⟩
end Sh
/-! tuple += tuple; list[i] op= .. -/
namespace Sh
open PySem PySem.Spec PyProof.Rows L2
theorem noI_tuple : typeLookup (.type "tuple") (dunderI "add") = pure none := by rw [typeLookup_type, builtinLookup_eq_fast]; kernel_rfl
section
variable {prog : Program} {w : World} {A : Around} {E : Value → Shared → Prop} {s : Shared}
theorem icat_tup {t b : Addr} {vs ws : List Value} {Q : Value → Shared → Prop} (ht : IsTup s.heap t vs.toArray) (hb : IsTup s.heap b ws.toArray)
    (h0 : vs = [] → Q (.ref b) s) (h1 : vs ≠ [] → ws = [] → Q (.ref t) s) (h2 : vs ≠ [] → ws ≠ [] → Q (.ref s.heap.objs.size) { s with heap := s.heap.push { cls := .type "tuple", data := .seq (vs ++ ws).toArray } })
    (hsz : vs.length + ws.length ≤ sizeLine) : wpAny (model prog w) A (inplaceOp .Add (.ref t) (.ref b)) Q E s := by
  obtain ⟨⟨cls, dd, data, sl⟩, ho, hc, n, hd⟩ := id ht
  obtain ⟨⟨cls2, dd2, data2, sl2⟩, ho2, hc2, n2, hd2⟩ := id hb
  simp only at hc hd hc2 hd2
  subst hc hd hc2 hd2
  have e : vs.toArray ++ ws.toArray = (vs ++ ws).toArray := by simp
  refine wpAny_inplaceOp_concat (T := "tuple") ⟨_, ho, rfl⟩ ⟨_, ho2, rfl⟩ noI_tuple noFill_tuple_add seq_tuple_add ?_
  by_cases hv : vs = []
  · subst hv
    exact call_meets PySem.F.slot_tuple_add ⟨_, ho, rfl⟩ PySem.F.entry_tuple_add (PySem.F.args_tuple_add_2 _ _) (tuple_addW0 t b ([] : List Value).toArray ws.toArray n n2 dd dd2 sl sl2 (by simp)) ⟨ho, ho2, h0 rfl⟩
  · by_cases hw : ws = []
    · exact call_meets PySem.F.slot_tuple_add ⟨_, ho, rfl⟩ PySem.F.entry_tuple_add (PySem.F.args_tuple_add_2 _ _)
        (tuple_addW1 t b vs.toArray ws.toArray n n2 dd dd2 sl sl2 (by simpa using hv) (by simp [hw])) ⟨ho, ho2, h1 hv hw⟩
    · refine call_meets PySem.F.slot_tuple_add ⟨_, ho, rfl⟩ PySem.F.entry_tuple_add (PySem.F.args_tuple_add_2 _ _)
        (tuple_addW2 t b vs.toArray ws.toArray n n2 dd dd2 sl sl2 (by simpa using hv) (by simpa using hw) (by rw [List.size_toArray, List.size_toArray]; exact hsz)) ⟨ho, ho2, ?_⟩
      rw [e]
      exact h2 hv hw
end
section
variable {X : Cx}
theorem iop_catA : OpR X (inplaceOp .Add) (rCatA X.K) := by
  intro pins s σ H x y v u Q I rx ry h
  obtain ⟨a, b, xs, ys, rfl, rfl, ha, hb, hz, q0, q1, q2⟩ := h
  cases rx
  cases ry
  obtain ⟨its, r1, p1, _⟩ := I.tuple ha
  obtain ⟨its2, r2, p2, _⟩ := I.tuple hb
  refine icat_tup p1 p2 (fun z => ⟨.ref b, H, I, rfl, q0 (r1.nil_iff.mp z)⟩) (fun z z2 => ⟨.ref a, H, I, rfl, q1 (fun e => z (r1.nil_iff.mpr e)) (r2.nil_iff.mp z2)⟩) (fun z z2 => ?_) (by rw [← r1.length, ← r2.length]; exact hz)
  refine ⟨.ref s.heap.objs.size, _, I.laid (t' := s.toks) (o := .tup (xs ++ ys)) (fun b ob q => Heap.get?_push_of_some _ q) (Nat.le_refl _) ?_, rfl, q2 (fun w => z (r1.nil_iff.mpr w)) (fun w => z2 (r2.nil_iff.mpr w)) _ (I.hok.fresh (Nat.le_refl _))⟩
  exact ⟨by rw [List.length_append]; exact hz, _, r1.append r2, IsTup.new _ _⟩
def rCatE : R2 := fun x y H Q => ∃ a b xs ys, x = .ref a ∧ y = .ref b ∧ Rd H a (.tup xs) ∧ Rd H b (.tup ys) ∧ ys ≠ [] ∧ xs.length + ys.length ≤ sizeLine ∧ ∀ p H', Ex H H' → Rd H' p (.tup (xs ++ ys)) → Q (.ref p) H'
theorem iop_catE : OpR X (inplaceOp .Add) rCatE := by
  intro pins s σ H x y v u Q I rx ry h
  obtain ⟨a, b, xs, ys, rfl, rfl, ha, hb, hy, hz, q⟩ := h
  refine iop_catA pins s σ H _ _ v u Q I rx ry ⟨a, b, xs, ys, rfl, rfl, .inl ha, .inl hb, hz, fun e => ?_, fun _ e => absurd e hy, fun _ _ p np => q p _ (Ex.new np) (.inl upd_same)⟩
  subst e
  exact q b H (Ex.refl H) hb
theorem get_list : PGet X (rIxL X.K) := by
  intro pins s σ H x y v u Q I rx ry h
  obtain ⟨p, xs, i, z, rfl, rfl, hq, he, q⟩ := h
  cases rx
  obtain ⟨t, rfl⟩ := ry
  obtain ⟨its, r, pl, hz⟩ := I.list hq
  obtain ⟨j, h1, h2, h3, h4, h5⟩ := atI_get he
  obtain ⟨w, ew, rw'⟩ := r.get h2
  have hl := r.length
  have hn := line63
  have fin : EP X pins σ Q w s := ⟨z, H, I, rw', q⟩
  by_cases h0 : 0 ≤ i
  · have hj : i.toNat = j := by
      rw [seqIndex_of h0 h5] at h1
      exact Option.some.inj h1
    exact wpAny_getItem_list pl.isList h0 (by omega) (by rw [hj]; simpa using ew) fin
  · have hj : (i + (its.toArray.size : Int)).toNat = j := by
      rw [seqIndex_neg (by omega) h4] at h1
      rw [List.size_toArray, ← hl]
      exact Option.some.inj h1
    exact wpAny_getItem_list_neg pl.isList (by omega) (by rw [List.size_toArray] <;> omega) (by omega) (by rw [hj]; simpa using ew) fin
end
end Sh
/-! The library's methods that look, and the small ones that write. -/
namespace Sh
open PySem PySem.Spec PyProof.Rows L2
abbrev scNow_N : List Str := ["self"]
abbrev scNow_P : List Str := ["self"]
abbrev scNow_S : Scope := defScope sNow
theorem scNow : FnScope scNow_N scNow_P (defScope sNow) := ⟨rfl, rfl, rfl, by decide +kernel, rfl, by decide +kernel, by decide +kernel⟩
abbrev scStanding_N : List Str := ["self"]
abbrev scStanding_P : List Str := ["self"]
abbrev scStanding_S : Scope := defScope sStanding
theorem scStanding : FnScope scStanding_N scStanding_P (defScope sStanding) := ⟨rfl, rfl, rfl, by decide +kernel, rfl, by decide +kernel, by decide +kernel⟩
abbrev scOut_N : List Str := ["self"]
abbrev scOut_P : List Str := ["self"]
abbrev scOut_S : Scope := defScope sOut
theorem scOut : FnScope scOut_N scOut_P (defScope sOut) := ⟨rfl, rfl, rfl, by decide +kernel, rfl, by decide +kernel, by decide +kernel⟩
abbrev scLent_N : List Str := ["self"]
abbrev scLent_P : List Str := ["self"]
abbrev scLent_S : Scope := defScope sLent
theorem scLent : FnScope scLent_N scLent_P (defScope sLent) := ⟨rfl, rfl, rfl, by decide +kernel, rfl, by decide +kernel, by decide +kernel⟩
abbrev scTaken_N : List Str := ["self"]
abbrev scTaken_P : List Str := ["self"]
abbrev scTaken_S : Scope := defScope sTaken
theorem scTaken : FnScope scTaken_N scTaken_P (defScope sTaken) := ⟨rfl, rfl, rfl, by decide +kernel, rfl, by decide +kernel, by decide +kernel⟩
abbrev scDeeds_N : List Str := ["self"]
abbrev scDeeds_P : List Str := ["self"]
abbrev scDeeds_S : Scope := defScope sDeeds
theorem scDeeds : FnScope scDeeds_N scDeeds_P (defScope sDeeds) := ⟨rfl, rfl, rfl, by decide +kernel, rfl, by decide +kernel, by decide +kernel⟩
abbrev scStood_N : List Str := ["self", "standing", "out", "lent", "taken"]
abbrev scStood_P : List Str := ["self", "standing", "out", "lent", "taken"]
abbrev scStood_S : Scope := defScope sStood
theorem scStood : FnScope scStood_N scStood_P (defScope sStood) := ⟨rfl, rfl, rfl, by decide +kernel, rfl, by decide +kernel, by decide +kernel⟩
abbrev scUndo_N : List Str := ["self", "is_there"]
abbrev scUndo_P : List Str := ["self"]
abbrev scUndo_S : Scope := defScope sUndo
theorem scUndo : FnScope scUndo_N scUndo_P (defScope sUndo) := ⟨rfl, rfl, rfl, by decide +kernel, rfl, by decide +kernel, by decide +kernel⟩
abbrev scLog_N : List Str := ["self"]
abbrev scLog_P : List Str := ["self"]
abbrev scLog_S : Scope := defScope sLog
theorem scLog : FnScope scLog_N scLog_P (defScope sLog) := ⟨rfl, rfl, rfl, by decide +kernel, rfl, by decide +kernel, by decide +kernel⟩
abbrev scLook_N : List Str := ["self", "kind"]
abbrev scLook_P : List Str := ["self", "kind"]
abbrev scLook_S : Scope := defScope sLookOut
theorem scLook : FnScope scLook_N scLook_P (defScope sLookOut) := ⟨rfl, rfl, rfl, by decide +kernel, rfl, by decide +kernel, by decide +kernel⟩
def spNow (K : PySem.W.Frag) : Sp := fun vs H Q _ => ∃ (L dx ls lg : Addr) (xs : List V) (v : V) (p : PSt), vs = [.ref L] ∧ Cur K H L dx ls lg xs v p ∧ Q v H
def spStanding (K : PySem.W.Frag) : Sp := fun vs H Q _ => ∃ (L dx ls lg : Addr) (xs : List V) (v : V) (p : PSt), vs = [.ref L] ∧ Cur K H L dx ls lg xs v p ∧ ∀ u, StV H u p.st → Q u H
def spOut (K : PySem.W.Frag) : Sp := fun vs H Q _ => ∃ (L dx ls lg : Addr) (xs : List V) (v : V) (p : PSt), vs = [.ref L] ∧ Cur K H L dx ls lg xs v p ∧ ∀ l us, H l = none → Paired (RunV H) us p.out → Q (.ref l) (upd H l (.lst us))
def spLent (K : PySem.W.Frag) : Sp := fun vs H Q _ => ∃ (L dx ls lg : Addr) (xs : List V) (v : V) (p : PSt), vs = [.ref L] ∧ Cur K H L dx ls lg xs v p ∧ Q (.int p.ln) H
def spTaken (K : PySem.W.Frag) : Sp := fun vs H Q _ => ∃ (L dx ls lg : Addr) (xs : List V) (v : V) (p : PSt), vs = [.ref L] ∧ Cur K H L dx ls lg xs v p ∧ Q (.int p.tk) H
def spDeeds (K : PySem.W.Frag) : Sp := fun vs H Q _ => ∃ (L dx ls lg : Addr) (xs : List V), vs = [.ref L] ∧ H L = some (.ins (LC K) dx (lF ls lg)) ∧ H ls = some (.lst xs) ∧ Q (.int ((xs.length : Nat) - 1)) H
def spStood (K : PySem.W.Frag) : Sp := fun vs H Q _ => ∃ (L dx ls lg : Addr) (xs : List V) (v1 v2 : V) (n m : Int), vs = [.ref L, v1, v2, .int n, .int m] ∧ H L = some (.ins (LC K) dx (lF ls lg)) ∧ H ls = some (.lst xs) ∧ xs.length ≤ 1000 ∧
  ∀ H' t, Ch [ls] H H' → Tk H H' → H' ls = some (.lst (xs ++ [.ref t])) → H' t = some (.tup [v1, v2, .int n, .int m]) → Q .non H'
def spUndo (K : PySem.W.Frag) : Sp := fun vs H Q _ => ∃ (L dx ls lg : Addr) (xs : List V), vs = [.ref L] ∧ H L = some (.ins (LC K) dx (lF ls lg)) ∧ H ls = some (.lst xs) ∧ (xs.length ≤ 1 → Q (.bl false) H) ∧ (1 < xs.length → Q (.bl true) (upd H ls (.lst xs.dropLast)))
def spLog (K : PySem.W.Frag) : Sp := fun vs H Q _ => ∃ (L dx ls lg : Addr) (gs : List V), vs = [.ref L] ∧ H L = some (.ins (LC K) dx (lF ls lg)) ∧ H lg = some (.lst gs) ∧ ∀ l, H l = none → Q (.ref l) (upd H l (.lst gs))
def spLook (K : PySem.W.Frag) : Sp := fun vs H Q E => ∃ (L dx ls lg : Addr) (xs : List V) (v : V) (p : PSt) (k : Str), vs = [.ref L, .str k] ∧ Cur K H L dx ls lg xs v p ∧ (keys p.out).Nodup ∧
  (k ∈ keys p.out → ∀ H', Ex H H' → Q .non H') ∧ (k ∉ keys p.out → ∀ cls d H', IsX K cls → Ex H H' → E cls (some d) H')
section
variable {P : Program} {w : World} {K : PySem.W.Frag} {mg : Str → Option Value} {base : Heap}
theorem d_now (hT : Txt w K mg) : Mth P w K mg base CX0 1 "now" scNow_P (spNow K) := by
  refine Mth.of hT (q := "Library.now") (st := sNow) (by simp [fn]) (by decide +kernel) scNow (fun _ _ _ _ _ _ us hl => match us, hl with | [_], _ => rfl) (fun vs H Q E h => by obtain ⟨L, dx, ls, lg, xs, v, p, rfl, _⟩ := h; rfl) fun cdv A outer s H vs Q E hr h => ?_
  refine' ⟨_, PSs.nox ?walk, ?read⟩
  case walk => exact (
    (pss_one (ps_ret (pe_ix ix_list (pe_fld (pv 0) rfl) (pe_un un_neg pe_int) (fun _ _ => rfl))))
    )
  case read =>
    obtain ⟨L, dx, ls, lg, xs, v, p, rfl, c, q⟩ := h
    exact ⟨_, rfl, L, _, dx, _, _, rfl, c.ins, hT.cl, hT.nS, lF_s _ _, _, rfl, ls, xs, _, _, rfl, rfl, SqL.of c.st, atI_end c.at_, q⟩
theorem d_standing (hT : Txt w K mg) : Mth P w K mg base CX0 2 "standing" scStanding_P (spStanding K) := by
  have d_now := d_now (P := P) (base := base) hT
  refine Mth.of hT (q := "Library.standing") (st := sStanding) (by simp [fn]) (by decide +kernel) scStanding (fun _ _ _ _ _ _ us hl => match us, hl with | [_], _ => rfl) (fun vs H Q E h => by obtain ⟨L, dx, ls, lg, xs, v, p, rfl, _⟩ := h; rfl) fun cdv A outer s H vs Q E hr h => ?_
  refine' ⟨_, PSs.nox ?walk, ?read⟩
  case walk => exact (
    (pss_one (ps_ret (pe_ix ix_tup (pe_me0 d_now hr hT.cl (pv 0)) pe_int (fun _ _ => rfl))))
    )
  case read =>
    obtain ⟨L, dx, ls, lg, xs, v, p, rfl, c, q⟩ := h
    obtain ⟨a, v1, v2, rfl, rd, h1, h2⟩ := c.p
    exact ⟨_, rfl, L, dx, _, rfl, c.ins, lF_m, L, dx, ls, lg, xs, _, p, rfl, c, a, _, _, _, rfl, rfl, rd_sq rd, rfl, q _ h1⟩
theorem d_out (hT : Txt w K mg) : Mth P w K mg base CX0 2 "out" scOut_P (spOut K) := by
  have d_now := d_now (P := P) (base := base) hT
  refine Mth.of hT (q := "Library.out") (st := sOut) (by simp [fn]) (by decide +kernel) scOut (fun _ _ _ _ _ _ us hl => match us, hl with | [_], _ => rfl) (fun vs H Q E h => by obtain ⟨L, dx, ls, lg, xs, v, p, rfl, _⟩ := h; rfl) fun cdv A outer s H vs Q E hr h => ?_
  refine' ⟨_, PSs.nox ?walk, ?read⟩
  case walk => exact (
    (pss_one (ps_ret (pe_callTy call_list_of (by rfl) (hT.free "list" (by decide +kernel)) (by decide +kernel) (pa_cons (pe_ix ix_tup (pe_me0 d_now hr hT.cl (pv 0)) pe_int (fun _ _ => rfl)) pa_nil))))
    )
  case read =>
    obtain ⟨L, dx, ls, lg, xs, v, p, rfl, c, q⟩ := h
    obtain ⟨a, v1, v2, rfl, rd, h1, b, us, rfl, dn, hp⟩ := c.p
    exact ⟨_, rfl, L, dx, _, rfl, c.ins, lF_m, L, dx, ls, lg, xs, _, p, rfl, c, a, _, _, _, rfl, rfl, rd_sq rd, rfl, b, us, rfl, .inr dn.sq, fun l nl => q l us nl hp⟩
theorem d_lent (hT : Txt w K mg) : Mth P w K mg base CX0 2 "lent" scLent_P (spLent K) := by
  have d_now := d_now (P := P) (base := base) hT
  refine Mth.of hT (q := "Library.lent") (st := sLent) (by simp [fn]) (by decide +kernel) scLent (fun _ _ _ _ _ _ us hl => match us, hl with | [_], _ => rfl) (fun vs H Q E h => by obtain ⟨L, dx, ls, lg, xs, v, p, rfl, _⟩ := h; rfl) fun cdv A outer s H vs Q E hr h => ?_
  refine' ⟨_, PSs.nox ?walk, ?read⟩
  case walk => exact (
    (pss_one (ps_ret (pe_ix ix_tup (pe_me0 d_now hr hT.cl (pv 0)) pe_int (fun _ _ => rfl))))
    )
  case read =>
    obtain ⟨L, dx, ls, lg, xs, v, p, rfl, c, q⟩ := h
    obtain ⟨a, v1, v2, rfl, rd, h1, h2⟩ := c.p
    exact ⟨_, rfl, L, dx, _, rfl, c.ins, lF_m, L, dx, ls, lg, xs, _, p, rfl, c, a, _, _, _, rfl, rfl, rd_sq rd, rfl, q⟩
theorem d_taken (hT : Txt w K mg) : Mth P w K mg base CX0 2 "taken" scTaken_P (spTaken K) := by
  have d_now := d_now (P := P) (base := base) hT
  refine Mth.of hT (q := "Library.taken") (st := sTaken) (by simp [fn]) (by decide +kernel) scTaken (fun _ _ _ _ _ _ us hl => match us, hl with | [_], _ => rfl) (fun vs H Q E h => by obtain ⟨L, dx, ls, lg, xs, v, p, rfl, _⟩ := h; rfl) fun cdv A outer s H vs Q E hr h => ?_
  refine' ⟨_, PSs.nox ?walk, ?read⟩
  case walk => exact (
    (pss_one (ps_ret (pe_ix ix_tup (pe_me0 d_now hr hT.cl (pv 0)) pe_int (fun _ _ => rfl))))
    )
  case read =>
    obtain ⟨L, dx, ls, lg, xs, v, p, rfl, c, q⟩ := h
    obtain ⟨a, v1, v2, rfl, rd, h1, h2⟩ := c.p
    exact ⟨_, rfl, L, dx, _, rfl, c.ins, lF_m, L, dx, ls, lg, xs, _, p, rfl, c, a, _, _, _, rfl, rfl, rd_sq rd, rfl, q⟩
theorem d_deeds (hT : Txt w K mg) : Mth P w K mg base CX0 1 "deeds" scDeeds_P (spDeeds K) := by
  refine Mth.of hT (q := "Library.deeds") (st := sDeeds) (by simp [fn]) (by decide +kernel) scDeeds (fun _ _ _ _ _ _ us hl => match us, hl with | [_], _ => rfl) (fun vs H Q E h => by obtain ⟨L, dx, ls, lg, xs, rfl, _⟩ := h; rfl) fun cdv A outer s H vs Q E hr h => ?_
  refine' ⟨_, PSs.nox ?walk, ?read⟩
  case walk => exact (
    (pss_one (ps_ret (pe_op op_sub (pe_callB call_len_seq (by rfl) (hT.free "len" (by decide +kernel)) boot_len (pa_cons (pe_fld (pv 0) rfl) pa_nil)) pe_int)))
    )
  case read =>
    obtain ⟨L, dx, ls, lg, xs, rfl, hL, hs, q⟩ := h
    exact ⟨_, rfl, L, _, dx, _, _, rfl, hL, hT.cl, hT.nS, lF_s _ _, ls, xs, rfl, .inl (SqL.of hs), _, _, rfl, rfl, q⟩
theorem d_stood (hT : Txt w K mg) : Mth P w K mg base CX0 1 "stood" scStood_P (spStood K) := by
  refine Mth.of hT (q := "Library.stood") (st := sStood) (by simp [fn]) (by decide +kernel) scStood (fun _ _ _ _ _ _ us hl => match us, hl with | [_, _, _, _, _], _ => rfl) (fun vs H Q E h => by obtain ⟨L, dx, ls, lg, xs, v1, v2, n, m, rfl, _⟩ := h; rfl) fun cdv A outer s H vs Q E hr h => ?_
  refine' ⟨_, PSs.nox ?walk, ?read⟩
  case walk => exact (
    (pss_one (ps_expr (pe_bm PySem.F.plainAttrs_list PySem.F.slot_list_append PySem.F.type_list_append mt_append (pe_fld (pv 0) rfl) (pa_cons (pe_tup (pa_cons (pv 1) (pa_cons (pv 2) (pa_cons (pv 3) (pa_cons (pv 4) pa_nil))))) pa_nil))))
    )
  case read =>
    obtain ⟨L, dx, ls, lg, xs, v1, v2, n, m, rfl, hL, hs, hz, q⟩ := h
    refine ⟨_, rfl, L, _, dx, _, _, rfl, hL, hT.cl, hT.nS, lF_s _ _, .inl ⟨rfl, _, SqL.of hs⟩, _, rfl, _, rfl, _, rfl, _, rfl, (by show 4 ≤ sizeLine; decide), fun t nt => ?_⟩
    have hst : ls ≠ t := ne_of_none hs nt
    refine ⟨ls, xs, _, rfl, rfl, by rw [upd_ne hst]; exact hs, small' (by omega), ?_⟩
    exact q _ t ((Ch.new nt).trans (Ch.upd (by simp))) ((tk_new nt).mut (by rw [upd_ne hst]; exact hs) rfl) upd_same (by rw [upd_ne (Ne.symm hst), upd_same])
theorem d_undo (hT : Txt w K mg) : Mth P w K mg base CX0 2 "undo" scUndo_P (spUndo K) := by
  have d_deeds := d_deeds (P := P) (base := base) hT
  refine Mth.of hT (q := "Library.undo") (st := sUndo) (by simp [fn]) (by decide +kernel) scUndo (fun _ _ _ _ _ _ us hl => match us, hl with | [_], _ => rfl) (fun vs H Q E h => by obtain ⟨L, dx, ls, lg, xs, rfl, _⟩ := h; rfl) fun cdv A outer s H vs Q E hr h => ?_
  refine' ⟨_, PSs.nox ?walk, ?read⟩
  case walk => exact (
    (pss_cons (ps_set (i := 1) scUndo.nd rfl (Or.inl rfl) (pe_cmpR op_gt (pe_me0 d_deeds hr hT.cl (pv 0)) pe_int (nomark _)))
    (pss_cons (ps_if (pt_val (pv 1))
    (pss_one (ps_expr (pe_bm0 PySem.F.plainAttrs_list PySem.F.slot_list_pop PySem.F.type_list_pop mt_pop (pe_fld (pv 0) rfl))))
    pss_nil)
    (pss_one (ps_ret (pv 1)))))
    )
  case read =>
    obtain ⟨L, dx, ls, lg, xs, rfl, hL, hs, q1, q2⟩ := h
    refine ⟨_, rfl, L, dx, _, rfl, hL, lF_m, L, dx, ls, lg, xs, rfl, hL, hs, _, _, rfl, rfl, _, rfl, _, rfl, if_2 (fun c => ?_) (fun c => ?_)⟩
    · have c1 := of_decide_eq_true c
      have hx : xs[xs.length - 1]? = some (xs[xs.length - 1]'(by omega)) := List.getElem?_eq_getElem _
      refine ⟨_, rfl, L, _, dx, _, _, rfl, hL, hT.cl, hT.nS, lF_s _ _, .inl ⟨rfl, _, SqL.of hs⟩, ls, xs, _, rfl, rfl, hs, hx, _, rfl, ?_⟩
      show Q (V.bl (decide ((0 : Int) < (xs.length : Int) - 1))) _
      rw [c]
      exact q2 (by omega)
    · have c1 := of_decide_eq_false c
      refine ⟨_, rfl, ?_⟩
      show Q (V.bl (decide ((0 : Int) < (xs.length : Int) - 1))) _
      rw [c]
      exact q1 (by omega)
theorem d_log (hT : Txt w K mg) : Mth P w K mg base CX0 1 "log" scLog_P (spLog K) := by
  refine Mth.of hT (q := "Library.log") (st := sLog) (by simp [fn]) (by decide +kernel) scLog (fun _ _ _ _ _ _ us hl => match us, hl with | [_], _ => rfl) (fun vs H Q E h => by obtain ⟨L, dx, ls, lg, xs, rfl, _⟩ := h; rfl) fun cdv A outer s H vs Q E hr h => ?_
  refine' ⟨_, PSs.nox ?walk, ?read⟩
  case walk => exact (
    (pss_one (ps_ret (pe_callTy call_list_of (by rfl) (hT.free "list" (by decide +kernel)) (by decide +kernel) (pa_cons (pe_fld (pv 0) rfl) pa_nil))))
    )
  case read =>
    obtain ⟨L, dx, ls, lg, gs, rfl, hL, hs, q⟩ := h
    exact ⟨_, rfl, L, _, dx, _, _, rfl, hL, hT.cl, hT.nL, lF_l _ _, lg, gs, rfl, .inl (SqL.of hs), q⟩
theorem d_look_out (hT : Txt w K mg) : Mth P w K mg base (L2.CX P w) 3 "look_out" scLook_P (spLook K) := by
  have d_now := d_now (P := P) (base := base) hT
  refine Mth.of hT (q := "Library.look_out") (st := sLookOut) (by simp [fn]) (by decide +kernel) scLook (fun _ _ _ _ _ _ us hl => match us, hl with | [_, _], _ => rfl) (fun vs H Q E h => by obtain ⟨L, dx, ls, lg, xs, v, p, k, rfl, _⟩ := h; rfl) fun cdv A outer s H vs Q E hr h => ?_
  have hu := hu_of hr
  refine' walkX ?walk ?read
  case walk => exact (
    (pss_one (ps_if (pt_cmp (pc_dnotin hu (pv 1) (pe_callTy (cr_dictN rfl) (by rfl) (hT.free "dict" (by decide +kernel)) (by decide +kernel) (pa_cons (pe_ix ix_tup (pe_me0 d_now hr hT.cl (pv 0)) pe_int (fun _ _ => rfl)) pa_nil))))
    (pss_one (ps_raise rfl (takes_of rfl rfl rfl rfl) (pmk_rz (rz_NotOut hT) hr (pa_cons (pv 1) pa_nil))))
    pss_nil))
    )
  case read =>
    obtain ⟨L, dx, ls, lg, xs, v, p, k, rfl, c, nd, q1, q2⟩ := h
    obtain ⟨a, v1, v2, rfl, rd, h1, b, us, rfl, dn, hp⟩ := c.p
    obtain ⟨ps, rfl, hps⟩ := out_pairs (K := K) hp
    refine ⟨_, rfl, _, rfl, L, dx, _, rfl, c.ins, lF_m, L, dx, ls, lg, xs, _, p, rfl, c, a, _, _, _, rfl, rfl, rd_sq rd, rfl, b, ps, _, rfl, dn, hps, fun F nF => ?_⟩
    rw [merge_kvR nd]
    refine ⟨F, _, rfl, DGet.k (k := Sum.inr k) upd_same, _, rfl, ?_⟩
    rw [is_kvR]
    by_cases hk : k ∈ keys p.out
    · exact if_f (by simp [hk]) (q1 hk _ (Ex.new nF))
    · refine if_t (by simp [hk]) ⟨_, rfl, _, rfl, fun d H2 ex nd2 => q2 hk _ d H2 (isX (e := xNotOut)) ((Ex.new nF).trans ex)⟩
end
end Sh
/-! The library's deeds. -/
namespace Sh
open PySem PySem.Spec PyProof.Rows L2
abbrev scTake_N : List Str := ["self", "shelf", "place", "standing", "out", "lent", "taken", "run"]
abbrev scTake_P : List Str := ["self", "shelf", "place"]
abbrev scTake_S : Scope := defScope sTake
theorem scTake : FnScope scTake_N scTake_P (defScope sTake) := ⟨rfl, rfl, rfl, by decide +kernel, rfl, by decide +kernel, by decide +kernel⟩
abbrev scPut_N : List Str := ["self", "kind", "shelf", "place", "standing", "out", "lent", "taken", "run"]
abbrev scPut_P : List Str := ["self", "kind", "shelf", "place"]
abbrev scPut_S : Scope := defScope sPut
theorem scPut : FnScope scPut_N scPut_P (defScope sPut) := ⟨rfl, rfl, rfl, by decide +kernel, rfl, by decide +kernel, by decide +kernel⟩
abbrev scEnd_N : List Str := ["self", "kind", "shelf", "standing", "out", "lent", "taken", "found"]
abbrev scEnd_P : List Str := ["self", "kind", "shelf"]
abbrev scEnd_S : Scope := defScope sEnd
theorem scEnd : FnScope scEnd_N scEnd_P (defScope sEnd) := ⟨rfl, rfl, rfl, by decide +kernel, rfl, by decide +kernel, by decide +kernel⟩
abbrev scLend_N : List Str := ["self", "many", "standing", "out", "lent", "taken"]
abbrev scLend_P : List Str := ["self", "many"]
abbrev scLend_S : Scope := defScope sLend
theorem scLend : FnScope scLend_N scLend_P (defScope sLend) := ⟨rfl, rfl, rfl, by decide +kernel, rfl, by decide +kernel, by decide +kernel⟩
def dargs : Deed → List V
  | .take i j => [.int i, .int j]
  | .put k i j => [.str k, .int i, .int j]
  | .fin k i => [.str k, .int i]
  | .lend n => [.int n]
def IsTake (d : Deed) : Prop := ∃ i j, d = .take i j
def IsPut (d : Deed) : Prop := ∃ k i j, d = .put k i j
def IsFin (d : Deed) : Prop := ∃ k i, d = .fin k i
def IsLend (d : Deed) : Prop := ∃ n, d = .lend n
/-- what follows a deed that is taken; one that is refused -/
def ActQ (K : PySem.W.Frag) (H : Hp) (ls : Addr) (xs : List V) (p : PSt) (d : Deed) (Q : VK) (E : XK) : Prop :=
  (∀ p', pstep p d = some p' → ∀ H' u w, Ch [ls] H H' → Tk H H' → H' ls = some (.lst (xs ++ [u])) → PStV H' u p' → Q w H') ∧
  (pstep p d = none → ∀ cls dd H', IsX K cls → Ex H H' → E cls (some dd) H')
def spAct (K : PySem.W.Frag) (Pd : Deed → Prop) : Sp := fun vs H Q E => ∃ (L dx ls lg : Addr) (xs : List V) (v : V) (p : PSt) (d : Deed), Pd d ∧ vs = .ref L :: dargs d ∧ Cur K H L dx ls lg xs v p ∧ xs.length ≤ 1000 ∧ PInv p ∧ ActQ K H ls xs p d Q E
theorem modify_set {α : Type} {f : α → α} : ∀ {l : List α} {i : Nat} {x : α}, l[i]? = some x → l.modify i f = l.set i (f x)
  | [], i, x, h => by simp at h
  | a :: l, 0, x, h => by
    have e : a = x := Option.some.inj h
    subst e
    rfl
  | a :: l, i + 1, x, h => by
    have ih := modify_set (f := f) (l := l) (i := i) (x := x) (by simpa using h)
    simp [ih]
theorem take_none {p : PSt} {i j : Int} (h : runAt p.st i j = none) : pstep p (.take i j) = none := by
  show (match runAt p.st i j with | none => none | some r => _) = none
  rw [h]
theorem take_some {p : PSt} {i j : Int} {r : Run} (h : runAt p.st i j = some r) : pstep p (.take i j) = if p.ln ≤ sumR p.out then none else some ⟨chg p.st i j (-1), wout p.out r.1 1, p.ln, p.tk + 1⟩ := by
  unfold pstep
  dsimp only
  rw [h]
theorem put_out {p : PSt} {k : Str} {i j : Int} (h : k ∉ keys p.out) : pstep p (.put k i j) = none := if_neg h
theorem put_none {p : PSt} {k : Str} {i j : Int} (h : runAt p.st i j = none) : pstep p (.put k i j) = none := by
  unfold pstep
  dsimp only
  rw [h]
  split <;> rfl
theorem put_some {p : PSt} {k : Str} {i j : Int} {r : Run} (hk : k ∈ keys p.out) (h : runAt p.st i j = some r) : pstep p (.put k i j) = if r.1 = k then some ⟨chg p.st i j 1, wout p.out k (-1), p.ln, p.tk⟩ else none := by
  unfold pstep
  dsimp only
  rw [if_pos hk, h]
theorem fin_out {p : PSt} {k : Str} {i : Int} (h : k ∉ keys p.out) : pstep p (.fin k i) = none := if_neg h
theorem fin_in {p : PSt} {k : Str} {i : Int} (h : k ∈ keys p.out) : pstep p (.fin k i) = if 0 ≤ i ∧ i < p.st.length then (if 0 < manyOf p.st k then none else some ⟨addAt p.st i k, wout p.out k (-1), p.ln, p.tk⟩) else none := if_pos h
theorem lend_is {p : PSt} {n : Int} : pstep p (.lend n) = if n < sumR p.out then none else some ⟨p.st, p.out, n, p.tk⟩ := rfl
section
variable {P : Program} {w : World} {K : PySem.W.Frag} {mg : Str → Option Value} {base : Heap}
theorem d_take (hT : Txt w K mg) : Mth P w K mg base (L2.CX P w) 4 "take" scTake_P (spAct K IsTake) := by
  have d_now := d_now (P := P) (base := base) hT
  have d_run_at := d_run_at (P := P) (base := base) hT
  have d_many_out := d_many_out (P := P) (base := base) hT
  have d_changed := d_changed (P := P) (base := base) hT
  have d_with_out := d_with_out (P := P) (base := base) hT
  have d_stood := d_stood (P := P) (base := base) hT
  refine Mth.of hT (q := "Library.take") (st := sTake) (by simp [fn]) (by decide +kernel) scTake (fun _ _ _ _ _ _ us hl => match us, hl with | [_, _, _], _ => rfl) (fun vs H Q E h => by obtain ⟨L, dx, ls, lg, xs, v, p, d, ⟨i, j, rfl⟩, rfl, _⟩ := h; rfl) fun cdv A outer s H vs Q E hr h => ?_
  have hu := hu_of hr
  refine' walkX ?walk ?read
  case walk => exact (
    (pss_cons (ps_asg (pe_me0 d_now hr hT.cl (pv 0)) (pg_tup rfl (pgs_cons (pg_name (i := 3) scTake.nd rfl (Or.inl rfl)) (pgs_cons (pg_name (i := 4) scTake.nd rfl (Or.inl rfl)) (pgs_cons (pg_name (i := 5) scTake.nd rfl (Or.inl rfl)) (pgs_cons (pg_name (i := 6) scTake.nd rfl (Or.inl rfl)) pgs_nil))))))
    (pss_cons (ps_set (i := 7) scTake.nd rfl (Or.inl rfl) (pe_fn d_run_at hr (pa_cons (pv 3) (pa_cons (pe_tup (pa_cons (pv 1) (pa_cons (pv 2) pa_nil))) pa_nil))))
    (pss_cons (ps_if (pt_cmp (pc_isN (pv 7)))
    (pss_one (ps_raise rfl (takes_of rfl rfl rfl rfl) (pmk_rz (rz_NoRun hT) hr (pa_cons (pe_tup (pa_cons (pv 1) (pa_cons (pv 2) pa_nil))) pa_nil))))
    pss_nil)
    (pss_cons (ps_if (pt_cmpR op_ge (pe_fn d_many_out hr (pa_cons (pv 4) pa_nil)) (pv 5) (nomark _))
    (pss_one (ps_raise rfl (takes_of rfl rfl rfl rfl) (pmk_rz (rz_Full hT) hr (pa_cons (pe_fn d_many_out hr (pa_cons (pv 4) pa_nil)) pa_nil))))
    pss_nil)
    (pss_cons (ps_expr (pe_me d_stood hr hT.cl (pv 0) (pa_cons (pe_fn d_changed hr (pa_cons (pv 3) (pa_cons (pe_disp1 hr.units0 (pe_tup (pa_cons (pv 1) (pa_cons (pv 2) pa_nil))) (pe_un un_neg pe_int)) pa_nil))) (pa_cons (pe_fn d_with_out hr (pa_cons (pv 4) (pa_cons (pe_ix ix_tup (pv 7) pe_int (fun _ _ => rfl)) (pa_cons pe_int pa_nil)))) (pa_cons (pv 5) (pa_cons (pe_op op_add (pv 6) pe_int) pa_nil))))))
    (pss_one (ps_ret (pe_ix ix_tup (pv 7) pe_int (fun _ _ => rfl)))))))))
    )
  case read =>
    obtain ⟨L, dx, ls, lg, xs, v, p, d, ⟨i, j, rfl⟩, rfl, c, hz, hi, q1, q2⟩ := h
    obtain ⟨a, v1, v2, rfl, rd, h1, h2⟩ := c.p
    refine ⟨_, rfl, L, dx, _, rfl, c.ins, lF_m, L, dx, ls, lg, xs, _, p, rfl, c, a, _, rfl, rd_sq rd, rfl, _, _, rfl, _, _, rfl, _, _, rfl, _, _, rfl, rfl, ?_⟩
    refine ⟨_, rfl, _, rfl, _, rfl, (by show 2 ≤ sizeLine; decide), fun t nt => ?_⟩
    have e1 := Ex.new (o := .tup [V.int i, V.int j]) nt
    refine ⟨v1, p.st, t, i, j, rfl, mon_st _ _ _ _ (tk_ex e1) h1, rd_tup, fun hn => ?_, fun r u hr' hu' => ?_⟩
    · refine ⟨_, rfl, _, rfl, if_t (by simp) ⟨_, rfl, _, rfl, (by show 2 ≤ sizeLine; decide), fun t2 nt2 => ⟨_, rfl, fun dd H2 ex nd => ?_⟩⟩⟩
      exact q2 (take_none hn) _ dd H2 (isX (e := xNoRun)) (e1.trans ((Ex.new nt2).trans ex))
    · obtain ⟨cc, rfl, rc⟩ := hu'
      generalize upd H t (.tup [V.int i, V.int j]) = G at *
      refine ⟨_, rfl, _, rfl, if_f (by simp) ?_⟩
      refine ⟨_, rfl, v2, p.out, rfl, mon_out _ _ _ _ (tk_ex e1) h2, hi.olen, fun H1 x1 => ⟨_, rfl, _, _, rfl, rfl, _, rfl, if_2 (fun ck => ?_) (fun ck => ?_)⟩⟩
      · refine ⟨_, rfl, v2, p.out, rfl, mon_out _ _ _ _ (tk_ex (e1.trans x1)) h2, hi.olen, fun H2 x2 => ⟨_, rfl, fun dd H3 ex nd => ?_⟩⟩
        refine q2 ?_ _ dd H3 (isX (e := xFull)) (((e1.trans x1).trans x2).trans ex)
        rw [take_some hr']
        exact if_pos (of_decide_eq_true ck)
      · have e2 := e1.trans x1
        have rc2 := (tk_ex x1).rd rc
        refine ⟨_, rfl, L, dx, _, rfl, e2 _ _ c.ins, lF_m, _, rfl, fun D nD => ⟨_, rfl, _, rfl, (by show 2 ≤ sizeLine; decide), fun t2 nt2 => ⟨_, rfl, ?_⟩⟩⟩
        have x2 := Ex.new (o := HO.dT []) nD
        have x3 := Ex.new (o := .tup [V.int i, V.int j]) nt2
        have hD2 : upd (upd H1 D (HO.dT [])) t2 (.tup [V.int i, V.int j]) D = some (.dT []) := x3 _ _ upd_same
        have ht2 : upd (upd H1 D (HO.dT [])) t2 (.tup [V.int i, V.int j]) t2 = some (.tup [V.int i, V.int j]) := upd_same
        have x23 := x2.trans x3
        generalize upd (upd H1 D (HO.dT [])) t2 (.tup [V.int i, V.int j]) = G2 at *
        refine ⟨hD2, t2, [Sum.inl i, Sum.inl j], _, rfl, ht2, ?_⟩
        have x4 : Ex H1 (upd G2 D (.dT [([Sum.inl i, Sum.inl j], .int (-1))])) := x23.mut nD
        have hD4 : upd G2 D (.dT [([Sum.inl i, Sum.inl j], .int (-1))]) D = some (.dT [([Sum.inl i, Sum.inl j], .int (-1))]) := upd_same
        have e3 := e2.trans x4
        refine ⟨v1, p.st, D, i, j, -1, rfl, mon_st _ _ _ _ (tk_ex e3) h1, hi.small, hD4, fun H4 u4 x5 hu4 => ?_⟩
        have e4 := e3.trans x5
        have rc4 := (tk_ex (x4.trans x5)).rd rc2
        refine ⟨_, rfl, _, rfl, cc, _, _, _, rfl, rfl, rd_sq rc4, rfl, v2, p.out, r.1, 1, rfl, mon_out _ _ _ _ (tk_ex e4) h2, hi.nd, hi.olen, fun H5 u5 x6 hu5 => ?_⟩
        have e5 := e4.trans x6
        refine ⟨_, rfl, _, rfl, _, _, rfl, rfl, L, dx, ls, lg, xs, u4, u5, p.ln, p.tk + 1, rfl, e5 _ _ c.ins, e5 _ _ c.st, hz, fun H6 t6 ch tk h6 ht6 => ?_⟩
        have tk6 := (tk_ex e5).trans tk
        refine ⟨_, rfl, cc, _, _, _, rfl, rfl, rd_sq (tk.rd ((tk_ex x6).rd rc4)), rfl, ?_⟩
        refine q1 ⟨chg p.st i j (-1), wout p.out r.1 1, p.ln, p.tk + 1⟩ ?_ H6 (.ref t6) _ ((Ch.of e5).trans ch) tk6 h6 ⟨t6, u4, u5, rfl, .inl ht6, mon_st _ _ _ _ ((tk_ex x6).trans tk) hu4, mon_out _ _ _ _ tk hu5⟩
        rw [take_some hr']
        exact if_neg (of_decide_eq_false ck)
theorem d_put (hT : Txt w K mg) : Mth P w K mg base (L2.CX P w) 4 "put" scPut_P (spAct K IsPut) := by
  have d_now := d_now (P := P) (base := base) hT
  have d_look_out := d_look_out (P := P) (base := base) hT
  have d_run_at := d_run_at (P := P) (base := base) hT
  have d_changed := d_changed (P := P) (base := base) hT
  have d_with_out := d_with_out (P := P) (base := base) hT
  have d_stood := d_stood (P := P) (base := base) hT
  refine Mth.of hT (q := "Library.put") (st := sPut) (by simp [fn]) (by decide +kernel) scPut (fun _ _ _ _ _ _ us hl => match us, hl with | [_, _, _, _], _ => rfl) (fun vs H Q E h => by obtain ⟨L, dx, ls, lg, xs, v, p, d, ⟨k, i, j, rfl⟩, rfl, _⟩ := h; rfl) fun cdv A outer s H vs Q E hr h => ?_
  have hu := hu_of hr
  refine' walkX ?walk ?read
  case walk => exact (
    (pss_cons (ps_asg (pe_me0 d_now hr hT.cl (pv 0)) (pg_tup rfl (pgs_cons (pg_name (i := 4) scPut.nd rfl (Or.inl rfl)) (pgs_cons (pg_name (i := 5) scPut.nd rfl (Or.inl rfl)) (pgs_cons (pg_name (i := 6) scPut.nd rfl (Or.inl rfl)) (pgs_cons (pg_name (i := 7) scPut.nd rfl (Or.inl rfl)) pgs_nil))))))
    (pss_cons (ps_expr (pe_meX d_look_out hr hT.cl (takes_of rfl rfl rfl rfl) (pv 0) (pa_cons (pv 1) pa_nil)))
    (pss_cons (ps_set (i := 8) scPut.nd rfl (Or.inl rfl) (pe_fn d_run_at hr (pa_cons (pv 4) (pa_cons (pe_tup (pa_cons (pv 2) (pa_cons (pv 3) pa_nil))) pa_nil))))
    (pss_cons (ps_if (pt_cmp (pc_isN (pv 8)))
    (pss_one (ps_raise rfl (takes_of rfl rfl rfl rfl) (pmk_rz (rz_NoRun hT) hr (pa_cons (pe_tup (pa_cons (pv 2) (pa_cons (pv 3) pa_nil))) pa_nil))))
    pss_nil)
    (pss_cons (ps_if (pt_cmpR op_ne (pe_ix ix_tup (pv 8) pe_int (fun _ _ => rfl)) (pv 1) (nomark _))
    (pss_one (ps_raise rfl (takes_of rfl rfl rfl rfl) (pmk_rz (rz_NotLike hT) hr (pa_cons (pe_tup (pa_cons (pv 2) (pa_cons (pv 3) pa_nil))) pa_nil))))
    pss_nil)
    (pss_one (ps_expr (pe_me d_stood hr hT.cl (pv 0) (pa_cons (pe_fn d_changed hr (pa_cons (pv 4) (pa_cons (pe_disp1 hr.units0 (pe_tup (pa_cons (pv 2) (pa_cons (pv 3) pa_nil))) pe_int) pa_nil))) (pa_cons (pe_fn d_with_out hr (pa_cons (pv 5) (pa_cons (pv 1) (pa_cons (pe_un un_neg pe_int) pa_nil)))) (pa_cons (pv 6) (pa_cons (pv 7) pa_nil))))))))))))
    )
  case read =>
    obtain ⟨L, dx, ls, lg, xs, v, p, d, ⟨k, i, j, rfl⟩, rfl, c, hz, hi, q1, q2⟩ := h
    obtain ⟨a, v1, v2, rfl, rd, h1, h2⟩ := c.p
    refine ⟨_, rfl, L, dx, _, rfl, c.ins, lF_m, L, dx, ls, lg, xs, _, p, rfl, c, a, _, rfl, rd_sq rd, rfl, _, _, rfl, _, _, rfl, _, _, rfl, _, _, rfl, rfl, ?_⟩
    refine ⟨_, rfl, L, dx, _, rfl, c.ins, lF_m, _, rfl, L, dx, ls, lg, xs, _, p, k, rfl, c, hi.nd, fun hk H0 x0 => ?_, fun hk cls d H' hx ex => q2 (put_out hk) cls d H' hx ex⟩
    refine ⟨_, rfl, _, rfl, _, rfl, (by show 2 ≤ sizeLine; decide), fun t nt => ?_⟩
    have e1 := x0.trans (Ex.new (o := .tup [V.int i, V.int j]) nt)
    refine ⟨v1, p.st, t, i, j, rfl, mon_st _ _ _ _ (tk_ex e1) h1, rd_tup, fun hn => ?_, fun r u hr' hu' => ?_⟩
    · refine ⟨_, rfl, _, rfl, if_t (by simp) ⟨_, rfl, _, rfl, (by show 2 ≤ sizeLine; decide), fun t2 nt2 => ⟨_, rfl, fun dd H2 ex nd => ?_⟩⟩⟩
      exact q2 (put_none hn) _ dd H2 (isX (e := xNoRun)) (e1.trans ((Ex.new nt2).trans ex))
    · obtain ⟨cc, rfl, rc⟩ := hu'
      generalize upd H0 t (.tup [V.int i, V.int j]) = G at *
      refine ⟨_, rfl, _, rfl, if_f (by simp) ?_⟩
      refine ⟨_, rfl, cc, _, _, _, rfl, rfl, rd_sq rc, rfl, _, rfl, rfl, _, rfl, ?_⟩
      by_cases ck : r.1 = k
      · refine if_f (by simp [ck]) ?_
        refine ⟨_, rfl, L, dx, _, rfl, e1 _ _ c.ins, lF_m, _, rfl, fun D nD => ⟨_, rfl, _, rfl, (by show 2 ≤ sizeLine; decide), fun t2 nt2 => ?_⟩⟩
        have x2 := Ex.new (o := HO.dT []) nD
        have x3 := Ex.new (o := .tup [V.int i, V.int j]) nt2
        have hD2 : upd (upd G D (HO.dT [])) t2 (.tup [V.int i, V.int j]) D = some (.dT []) := x3 _ _ upd_same
        have ht2 : upd (upd G D (HO.dT [])) t2 (.tup [V.int i, V.int j]) t2 = some (.tup [V.int i, V.int j]) := upd_same
        have x23 := x2.trans x3
        generalize upd (upd G D (HO.dT [])) t2 (.tup [V.int i, V.int j]) = G2 at *
        refine ⟨hD2, t2, [Sum.inl i, Sum.inl j], _, rfl, ht2, ?_⟩
        have x4 : Ex G (upd G2 D (.dT [([Sum.inl i, Sum.inl j], .int 1)])) := x23.mut nD
        have hD4 : upd G2 D (.dT [([Sum.inl i, Sum.inl j], .int 1)]) D = some (.dT [([Sum.inl i, Sum.inl j], .int 1)]) := upd_same
        have e3 := e1.trans x4
        refine ⟨v1, p.st, D, i, j, 1, rfl, mon_st _ _ _ _ (tk_ex e3) h1, hi.small, hD4, fun H4 u4 x5 hu4 => ?_⟩
        have e4 := e3.trans x5
        refine ⟨_, rfl, _, rfl, _, rfl, v2, p.out, k, -1, rfl, mon_out _ _ _ _ (tk_ex e4) h2, hi.nd, hi.olen, fun H5 u5 x6 hu5 => ?_⟩
        have e5 := e4.trans x6
        refine ⟨_, rfl, _, rfl, L, dx, ls, lg, xs, u4, u5, p.ln, p.tk, rfl, e5 _ _ c.ins, e5 _ _ c.st, hz, fun H6 t6 ch tk h6 ht6 => ?_⟩
        refine q1 ⟨chg p.st i j 1, wout p.out k (-1), p.ln, p.tk⟩ ?_ H6 (.ref t6) _ ((Ch.of e5).trans ch) ((tk_ex e5).trans tk) h6 ⟨t6, u4, u5, rfl, .inl ht6, mon_st _ _ _ _ ((tk_ex x6).trans tk) hu4, mon_out _ _ _ _ tk hu5⟩
        rw [put_some hk hr']
        exact if_pos ck
      · refine if_t (by simp [ck]) ⟨_, rfl, _, rfl, (by show 2 ≤ sizeLine; decide), fun t2 nt2 => ⟨_, rfl, fun dd H2 ex nd => ?_⟩⟩
        refine q2 ?_ _ dd H2 (isX (e := xNotLike)) (e1.trans ((Ex.new nt2).trans ex))
        rw [put_some hk hr']
        exact if_neg ck
theorem d_lend (hT : Txt w K mg) : Mth P w K mg base (L2.CX P w) 4 "lend" scLend_P (spAct K IsLend) := by
  have d_now := d_now (P := P) (base := base) hT
  have d_many_out := d_many_out (P := P) (base := base) hT
  have d_stood := d_stood (P := P) (base := base) hT
  refine Mth.of hT (q := "Library.lend") (st := sLend) (by simp [fn]) (by decide +kernel) scLend (fun _ _ _ _ _ _ us hl => match us, hl with | [_, _], _ => rfl) (fun vs H Q E h => by obtain ⟨L, dx, ls, lg, xs, v, p, d, ⟨n, rfl⟩, rfl, _⟩ := h; rfl) fun cdv A outer s H vs Q E hr h => ?_
  refine' walkX ?walk ?read
  case walk => exact (
    (pss_cons (ps_asg (pe_me0 d_now hr hT.cl (pv 0)) (pg_tup rfl (pgs_cons (pg_name (i := 2) scLend.nd rfl (Or.inl rfl)) (pgs_cons (pg_name (i := 3) scLend.nd rfl (Or.inl rfl)) (pgs_cons (pg_name (i := 4) scLend.nd rfl (Or.inl rfl)) (pgs_cons (pg_name (i := 5) scLend.nd rfl (Or.inl rfl)) pgs_nil))))))
    (pss_cons (ps_if (pt_cmpR op_gt (pe_fn d_many_out hr (pa_cons (pv 3) pa_nil)) (pv 1) (nomark _))
    (pss_one (ps_raise rfl (takes_of rfl rfl rfl rfl) (pmk_rz (rz_Full hT) hr (pa_cons (pe_fn d_many_out hr (pa_cons (pv 3) pa_nil)) pa_nil))))
    pss_nil)
    (pss_one (ps_expr (pe_me d_stood hr hT.cl (pv 0) (pa_cons (pv 2) (pa_cons (pv 3) (pa_cons (pv 1) (pa_cons (pv 5) pa_nil)))))))))
    )
  case read =>
    obtain ⟨L, dx, ls, lg, xs, v, p, d, ⟨n, rfl⟩, rfl, c, hz, hi, q1, q2⟩ := h
    obtain ⟨a, v1, v2, rfl, rd, h1, h2⟩ := c.p
    refine ⟨_, rfl, L, dx, _, rfl, c.ins, lF_m, L, dx, ls, lg, xs, _, p, rfl, c, a, _, rfl, rd_sq rd, rfl, _, _, rfl, _, _, rfl, _, _, rfl, _, _, rfl, rfl, ?_⟩
    refine ⟨_, rfl, v2, p.out, rfl, h2, hi.olen, fun H1 x1 => ⟨_, rfl, _, _, rfl, rfl, _, rfl, if_2 (fun ck => ?_) (fun ck => ?_)⟩⟩
    · refine ⟨_, rfl, v2, p.out, rfl, mon_out _ _ _ _ (tk_ex x1) h2, hi.olen, fun H2 x2 => ⟨_, rfl, fun dd H3 ex nd => ?_⟩⟩
      refine q2 ?_ _ dd H3 (isX (e := xFull)) ((x1.trans x2).trans ex)
      rw [lend_is]
      exact if_pos (of_decide_eq_true ck)
    · refine ⟨_, rfl, L, dx, _, rfl, x1 _ _ c.ins, lF_m, _, rfl, _, rfl, _, rfl, _, rfl, L, dx, ls, lg, xs, v1, v2, n, p.tk, rfl, x1 _ _ c.ins, x1 _ _ c.st, hz, fun H6 t6 ch tk h6 ht6 => ?_⟩
      refine q1 ⟨p.st, p.out, n, p.tk⟩ ?_ H6 (.ref t6) _ ((Ch.of x1).trans ch) ((tk_ex x1).trans tk) h6 ⟨t6, v1, v2, rfl, .inl ht6, mon_st _ _ _ _ ((tk_ex x1).trans tk) h1, mon_out _ _ _ _ ((tk_ex x1).trans tk) h2⟩
      rw [lend_is]
      exact if_neg (of_decide_eq_false ck)
theorem d_end (hT : Txt w K mg) : Mth P w K mg base (L2.CX P w) 4 "end" scEnd_P (spAct K IsFin) := by
  have d_now := d_now (P := P) (base := base) hT
  have d_look_out := d_look_out (P := P) (base := base) hT
  have d_many_of := d_many_of (P := P) (base := base) hT
  have d_with_out := d_with_out (P := P) (base := base) hT
  have d_stood := d_stood (P := P) (base := base) hT
  refine Mth.of hT (q := "Library.end") (st := sEnd) (by simp [fn]) (by decide +kernel) scEnd (fun _ _ _ _ _ _ us hl => match us, hl with | [_, _, _], _ => rfl) (fun vs H Q E h => by obtain ⟨L, dx, ls, lg, xs, v, p, d, ⟨k, i, rfl⟩, rfl, _⟩ := h; rfl) fun cdv A outer s H vs Q E hr h => ?_
  refine' walkX ?walk ?read
  case walk => exact (
    (pss_cons (ps_asg (pe_me0 d_now hr hT.cl (pv 0)) (pg_tup rfl (pgs_cons (pg_name (i := 3) scEnd.nd rfl (Or.inl rfl)) (pgs_cons (pg_name (i := 4) scEnd.nd rfl (Or.inl rfl)) (pgs_cons (pg_name (i := 5) scEnd.nd rfl (Or.inl rfl)) (pgs_cons (pg_name (i := 6) scEnd.nd rfl (Or.inl rfl)) pgs_nil))))))
    (pss_cons (ps_expr (pe_meX d_look_out hr hT.cl (takes_of rfl rfl rfl rfl) (pv 0) (pa_cons (pv 1) pa_nil)))
    (pss_cons (ps_if (pt_not (pt_chain op_le op_lt pe_int (pv 2) (pe_callB call_len_seq (by rfl) (hT.free "len" (by decide +kernel)) boot_len (pa_cons (pv 3) pa_nil))))
    (pss_one (ps_raise rfl (takes_of rfl rfl rfl rfl) (pmk_rz (rz_NoShelf hT) hr (pa_cons (pv 2) pa_nil))))
    pss_nil)
    (pss_cons (ps_if (pt_cmpR op_gt (pe_fn d_many_of hr (pa_cons (pv 3) (pa_cons (pv 1) pa_nil))) pe_int (nomark _))
    (pss_one (ps_raise rfl (takes_of rfl rfl rfl rfl) (pmk_rz (rz_Stands hT) hr (pa_cons (pv 1) pa_nil))))
    pss_nil)
    (pss_cons (ps_set (i := 7) scEnd.nd rfl (Or.inl rfl) (pe_callTy call_list_of (by rfl) (hT.free "list" (by decide +kernel)) (by decide +kernel) (pa_cons (pv 3) pa_nil)))
    (pss_cons (ps_augS (pv 7) (pv 2) get_list (pe_tup (pa_cons (pe_tup (pa_cons (pv 1) (pa_cons pe_int pa_nil))) pa_nil)) iop_catE set_list)
    (pss_one (ps_expr (pe_me d_stood hr hT.cl (pv 0) (pa_cons (pe_callTy cr_tupN (by rfl) (hT.free "tuple" (by decide +kernel)) (by decide +kernel) (pa_cons (pv 7) pa_nil)) (pa_cons (pe_fn d_with_out hr (pa_cons (pv 4) (pa_cons (pv 1) (pa_cons (pe_un un_neg pe_int) pa_nil)))) (pa_cons (pv 5) (pa_cons (pv 6) pa_nil)))))))))))))
    )
  case read =>
    obtain ⟨L, dx, ls, lg, xs, v, p, d, ⟨k, i, rfl⟩, rfl, c, hz, hi, q1, q2⟩ := h
    obtain ⟨a, v1, v2, rfl, rd, h1, h2⟩ := c.p
    refine ⟨_, rfl, L, dx, _, rfl, c.ins, lF_m, L, dx, ls, lg, xs, _, p, rfl, c, a, _, rfl, rd_sq rd, rfl, _, _, rfl, _, _, rfl, _, _, rfl, _, _, rfl, rfl, ?_⟩
    refine ⟨_, rfl, L, dx, _, rfl, c.ins, lF_m, _, rfl, L, dx, ls, lg, xs, _, p, k, rfl, c, hi.nd, fun hk H0 x0 => ?_, fun hk cls d H' hx ex => q2 (fin_out hk) cls d H' hx ex⟩
    obtain ⟨b, ws, rfl, rb, hw⟩ := h1
    have hwl := plen hw
    have rb0 := (tk_ex x0).rd rb
    refine ⟨_, rfl, _, _, rfl, rfl, _, rfl, if_2 (fun c1 => ?_) (fun c1 => ?_)⟩
    · have p0 : 0 ≤ i := of_decide_eq_true c1
      refine ⟨_, rfl, b, ws, rfl, .inr (rd_sq rb0), _, _, rfl, rfl, _, rfl, ?_⟩
      by_cases p1 : i < (ws.length : Int)
      · refine if_f (by simpa using p1) ?_
        refine ⟨_, rfl, _, rfl, V.ref b, p.st, k, rfl, ⟨b, ws, rfl, rb0, pmono mon_sh (tk_ex x0) hw⟩, hi.small, fun H1 x1 => ⟨_, _, rfl, rfl, _, rfl, if_2 (fun ck => ?_) (fun ck => ?_)⟩⟩
        · refine ⟨_, rfl, _, rfl, fun dd H3 ex nd => ?_⟩
          refine q2 ?_ _ dd H3 (isX (e := xStands)) ((x0.trans x1).trans ex)
          rw [fin_in hk, if_pos ⟨p0, by omega⟩]
          exact if_pos (of_decide_eq_true ck)
        · have e1 := x0.trans x1
          have rb1 := (tk_ex e1).rd rb
          refine ⟨_, rfl, b, ws, rfl, .inr (rd_sq rb1), fun F nF => ?_⟩
          have e2 := e1.trans (Ex.new (o := HO.lst ws) nF)
          have hF : upd H1 F (HO.lst ws) F = some (.lst ws) := upd_same
          have nFH := e1.nn nF
          generalize upd H1 F (HO.lst ws) = G at *
          have hlt : i.toNat < p.st.length := by omega
          have hst : p.st[i.toNat]? = some p.st[i.toNat] := List.getElem?_eq_getElem hlt
          generalize hsh : p.st[i.toNat] = sh at hst
          obtain ⟨y, hy, b2, ys, rfl, rb2, hys⟩ := pget hw hst
          refine ⟨_, rfl, _, rfl, F, ws, i, _, rfl, rfl, SqL.of hF, atI_pos p0 hy, _, rfl, (by show 2 ≤ sizeLine; decide), fun t nt => ⟨(by show 1 ≤ sizeLine; decide), fun t2 nt2 => ?_⟩⟩
          have x3 := (Ex.new (o := .tup [V.str k, V.int 1]) nt)
          have x4 := (Ex.new (o := .tup [V.ref t]) nt2)
          have ht : upd (upd G t (.tup [V.str k, V.int 1])) t2 (.tup [V.ref t]) t = some (.tup [V.str k, V.int 1]) := x4 _ _ upd_same
          have ht2 : upd (upd G t (.tup [V.str k, V.int 1])) t2 (.tup [V.ref t]) t2 = some (.tup [V.ref t]) := upd_same
          have x34 := x3.trans x4
          generalize upd (upd G t (.tup [V.str k, V.int 1])) t2 (.tup [V.ref t]) = G2 at *
          have e3 := e2.trans x34
          have rb23 := (tk_ex e3).rd rb2
          have hF2 : G2 F = some (.lst ws) := x34 _ _ hF
          have hyl := plen hys
          have hfl := flat_get hst
          have hzf := hi.small.flat
          refine ⟨b2, t2, ys, [.ref t], rfl, rfl, rb23, .inl ht2, by simp, small (by show ys.length + 1 ≤ 1000000; omega), fun sv H7 x7 rd7 => ?_⟩
          have hs7 : ShV H7 (.ref sv) (sh ++ [(k, 1)]) := ⟨sv, _, rfl, rd7, psnoc (pmono mon_run (tk_ex (e3.trans x7)) hys) ⟨t, rfl, .inl (x7 _ _ ht)⟩⟩
          have e4 := e3.trans x7
          have hF7 := x7 _ _ hF2
          refine ⟨F, ws, i, i.toNat, rfl, rfl, hF7, ixN_nat p0 p1, ?_⟩
          have e5 : Ex H (upd H7 F (.lst (ws.set i.toNat (.ref sv)))) := e4.mut nFH
          have tk5 : Tk H7 (upd H7 F (.lst (ws.set i.toNat (.ref sv)))) := tk_upd hF7 rfl
          have hF8 : upd H7 F (.lst (ws.set i.toNat (.ref sv))) F = some (.lst (ws.set i.toNat (.ref sv))) := upd_same
          generalize upd H7 F (.lst (ws.set i.toNat (.ref sv))) = G8 at *
          have hst8 : Paired (ShV G8) (ws.set i.toNat (.ref sv)) (addAt p.st i k) := by
            have em : addAt p.st i k = p.st.set i.toNat (sh ++ [(k, 1)]) := by
              unfold addAt
              exact modify_set hst
            rw [em]
            exact pset _ (pmono mon_sh (tk_ex e5) hw) (mon_sh _ _ _ _ tk5 hs7)
          refine ⟨_, rfl, L, dx, _, rfl, e5 _ _ c.ins, lF_m, _, rfl, F, _, rfl, .inl ⟨SqL.of hF8, fun tt o ntt ho => ?_⟩⟩
          have x9 := Ex.new (o := HO.frz o (.tup (ws.set i.toNat (.ref sv)))) ntt
          have hst9 : StV (upd G8 tt (HO.frz o (.tup (ws.set i.toNat (.ref sv))))) (.ref tt) (addAt p.st i k) := ⟨tt, _, rfl, .inr ⟨o, upd_same⟩, pmono mon_sh (tk_ex x9) hst8⟩
          have e6 := e5.trans x9
          generalize upd G8 tt (HO.frz o (.tup (ws.set i.toNat (.ref sv)))) = G9 at *
          refine ⟨_, rfl, _, rfl, _, rfl, v2, p.out, k, -1, rfl, mon_out _ _ _ _ (tk_ex e6) h2, hi.nd, hi.olen, fun H5 u5 x6 hu5 => ?_⟩
          have e7 := e6.trans x6
          refine ⟨_, rfl, _, rfl, L, dx, ls, lg, xs, .ref tt, u5, p.ln, p.tk, rfl, e7 _ _ c.ins, e7 _ _ c.st, hz, fun H6 t6 ch tk h6 ht6 => ?_⟩
          refine q1 ⟨addAt p.st i k, wout p.out k (-1), p.ln, p.tk⟩ ?_ H6 (.ref t6) _ ((Ch.of e7).trans ch) ((tk_ex e7).trans tk) h6 ⟨t6, .ref tt, u5, rfl, .inl ht6, mon_st _ _ _ _ ((tk_ex x6).trans tk) hst9, mon_out _ _ _ _ tk hu5⟩
          rw [fin_in hk, if_pos ⟨p0, by omega⟩]
          exact if_neg (of_decide_eq_false ck)
      · refine if_t (by simpa using p1) ⟨_, rfl, _, rfl, fun dd H3 ex nd => ?_⟩
        refine q2 ?_ _ dd H3 (isX (e := xNoShelf)) (x0.trans ex)
        rw [fin_in hk, if_neg]
        rintro ⟨_, z⟩
        omega
    · have p0 : ¬ 0 ≤ i := of_decide_eq_false c1
      refine ⟨_, rfl, if_t rfl ⟨_, rfl, _, rfl, fun dd H3 ex nd => ?_⟩⟩
      refine q2 ?_ _ dd H3 (isX (e := xNoShelf)) (x0.trans ex)
      rw [fin_in hk, if_neg]
      rintro ⟨z, _⟩
      exact p0 z
end
end Sh
/-! d.get of a written dict; try .. finally; a method's call with one keyword within a try. -/
namespace Sh
open PySem PySem.Spec PyProof.Rows L2
section
variable {X : Cx}
def tKGet (K : PySem.W.Frag) (d : Addr) (td ty tx : TE) : TE := fun σ H Q => td σ H fun x H1 => x = .ref d ∧ ty σ H1 fun y H2 => tx σ H2 fun z H3 => ∃ (k : Str) (u0 : Value) (v0 : V), y = .str k ∧ PySem.W.nsIn K d k = some (some u0) ∧ RelV v0 u0 ∧ Q v0 H3
theorem pe_kget {o e f : Expr} {apos cpos : Pos} {td ty tx : TE} {d : Addr} {es : Array DictEntry} {n : Nat} (D : KDict X.K X.w d es n) (ho : PE X o td) (he : PE X e ty) (hf : PE X f tx) (m : M2 X o "get" apos e f cpos) :
    PE X (.Call (.Attribute o "get" apos) [e, f] [] cpos) (tKGet X.K d td ty tx) := by
  refine ⟨fun pins s σ H Q I h => ?_⟩
  refine wpAny_Call_method m.base m.few m.line PySem.F.plainAttrs_dict PySem.F.slot_dict_get PySem.F.type_dict_get (thn (ho.run pins s σ H _ I h) fun u s1 ⟨x, H1, I1, rx, ex, q1⟩ => ?_)
  subst ex
  obtain rfl : u = Value.ref d := rx
  refine ⟨kd_type D I1, fun b e => by cases e; exact ⟨_, I1.kIn _ _ D.at_, rfl⟩, ?_⟩
  rw [m.trees]
  refine Calls.callWith_builtin rfl (Calls.evalArgs_plain (Calls.spliced_cons (thn (he.run pins s1 σ H1 _ I1 q1) fun iv s2 ⟨y, H2, I2, ry, q2⟩ =>
    Calls.spliced_cons (thn (hf.run pins s2 σ H2 _ I2 q2) fun fv s3 ⟨z, H3, I3, rz, k, u0, v0, ey, en, rv, q3⟩ => Calls.spliced_nil ?_))))
  subst ey
  obtain ⟨t, rfl⟩ := ry
  refine call_meetsIn PySem.F.slot_dict_get (kd_type D I3) PySem.F.entry_dict_get (PySem.F.args_dict_get_3 _ _ _) (meets_dict_get_default (PySem.strKind X.prog X.w) d (PySem.strKind_is X.prog X.w k t) D.low fv) ⟨_, PySem.W.mapOf_K (prog := X.prog) I3.kIn D.at_ D.lit, ?_⟩
  rw [PySem.W.find_K D.at_ en]
  exact ⟨v0, H3, I3.tok _, rv, q3⟩
end
/-- try: body / finally: suite; tb W: the body's reading, W what is wished of its errors; tfs: the suite with an error in flight, which goes on to Wout -/
def tFinA (tb : WX → TS) (tf tfs : TS) (Wout : WX) : TS := fun D σ H => tb (wFin tfs Wout) { nx := fun σ1 H1 => tf D σ1 H1, rt := fun _ _ => False } σ H
section
variable {X : Cx} {body : List Stmt} {f₀ : Stmt} {fs : List Stmt} {pos : Pos} {tb : WX → TS} {tf tfs : TS} {Wout : WX}
theorem ps_finA (hs : X.stack = X.env :: X.outer) (hf : X.env.frame = some X.env.locals) (hex : X.ex = []) (tk : L2.Takes X Wout)
    (hb : ∀ (W : WX) (pn : List (Addr × Obj)) (xe : Value → Shared → Prop), L2.Takes (X.tr pn xe) W → PassesOwn (model X.prog X.w) X.A X.env xe → PSs (X.tr pn xe) body (tb W))
    (hfin : PSs X.nox (f₀ :: fs) tf) (hsu : ∀ (a : Addr) (pn : List (Addr × Obj)), PSs (X.suite a pn) (f₀ :: fs) tfs) : PS X (.Try body [] [] (f₀ :: fs) pos) (tFinA tb tf tfs Wout) := by
  refine ⟨fun pins s σ H D I h => ?_⟩
  have ok := I.ok
  refine wpAny_Try_finally (wpAny_mono ((hb (wFin tfs Wout) (X.pn ++ pins) (fun x s₁ => wpAny (model X.prog X.w) X.A (noteFrame x X.env) (fun _ s₂ => FinallyRaised X.prog X.w X.A X.xe X.env (f₀ :: fs) (SP X pins D) x s₂) (FinallyRaised X.prog X.w X.A X.xe X.env (f₀ :: fs) (SP X pins D)) s₁)
    (fun u s' xx => fin_exc hs hf hex ok tk hsu xx) PassesOwn.looking).run [] s σ H { nx := fun σ1 H1 => tf D σ1 H1, rt := fun _ _ => False } (I.toTry _) h) (fun g s1 z => ?_) (fun x s1 hx => hx))
  cases g with
  | next =>
    obtain ⟨σ1, H1, J1, q1⟩ := z
    refine wpAny_execs_nil (wpAny_mono (hfin.run pins s1 σ1 H1 D ((J1.ofTry ok).wish _) q1) (fun g2 s2 q2 => ?_) fun _ _ e => e.elim)
    have q3 : SP X pins D g2 s2 := q2.unwish
    cases g2 <;> exact q3
  | ret u =>
    obtain ⟨_, _, _, _, _, q⟩ := z
    exact q.elim
  | brk =>
    obtain ⟨_, _, _, q⟩ := z
    exact q.elim
  | cont =>
    obtain ⟨_, _, _, q⟩ := z
    exact q.elim
end
/-! ### do(deeds, whole=..) -/
structure MtK (P : Program) (w : World) (K : PySem.W.Frag) (mg : Str → Option Value) (base : Heap) (CX : CXT) (k : Nat) (m kw : Str) (ps : List Str) (sp : Sp) : Prop where
  ex : ∃ fd, FnOk P w K mg base CX k (He.ma K (LC K) m) fd ps sp ∧ ∀ (s : Shared) (us ws : List Value), us.length = 2 → ws.length = 1 → BindsTo s fd ⟨us, [kw].zip ws⟩ (ps.zip (us ++ ws))
  me : Meth K (LC K) m (He.ma K (LC K) m)
section
variable {X : Cx} {j k : Nat} {m kw : Str} {ps : List Str} {sp : Sp} {ta te tx : TE} {e o kx : Expr} {pos apos kpos : Pos}
theorem pe_meKS {W : WX} {pl : Sem Bool} (d : MtK X.prog X.w X.K X.mg X.base (L2.CX X.prog X.w) k m kw ps sp) (hr : Room j X.A) (c : Cls X.K (LC X.K)) (tk : L2.Takes X W) (he : PE X o ta) (ha : PE X e te) (hx : PE X kx tx) (hk : k ≤ j := by decide)
    (hst : starEach [e] X.env = (false, eval e X.env) :: starEach [] X.env := by rfl) (hall : (backToKw pos (keywordEach [⟨some kw, kx, kpos⟩] X.env)).all (·.1.isSome) = true := by rfl)
    (hks : (backToKw pos (keywordEach [⟨some kw, kx, kpos⟩] X.env)).filterMap (·.1) = [kw] := by rfl)
    (hpl : ((backTo pos (starEach [e] X.env)).any (·.1) || (backToKw pos (keywordEach [⟨some kw, kx, kpos⟩] X.env)).any (·.1.isNone)) = false := by rfl)
    (ht : eval (.Call (.Attribute o m apos) [e] [⟨some kw, kx, kpos⟩] pos) X.env = (do
      let ov ← eval o X.env
      standAt apos.atName
      let (f, first) ← holding [ov] (getMethod ov m pl)
      callWith pos f first (backTo pos (starEach [e] X.env)) (backToKw pos (keywordEach [⟨some kw, kx, kpos⟩] X.env))) := by rfl) :
    PE X (.Call (.Attribute o m apos) [e] [⟨some kw, kx, kpos⟩] pos) (fun σ H Q => ta σ H fun x H1 => ∃ a dx fs, x = .ref a ∧ H1 a = some (.ins (LC X.K) dx fs) ∧ fs.lookup m = none ∧
      tCons te tNil σ H1 fun vs H2 => tCons tx tNil σ H2 fun zs H3 => ∃ y z, vs = [y] ∧ zs = [z] ∧ sp [x, y, z] H3 Q (WE W σ)) := by
  obtain ⟨fd, F, b⟩ := d.ex
  refine ⟨fun pins s σ H Q I h => ?_⟩
  refine PySem.W.methodCall_KW (pl := pl) (thn (he.run pins s σ H _ I h) fun u s1 ⟨x, H1, I1, rx, a, dx, fs, ex, ea, l, q⟩ => ?_) ht
  subst ex
  obtain rfl : u = Value.ref a := rx
  refine getmeth_ok I1 ea c d.me l ?_
  have pa : PA X [e] (tCons te tNil) := pa_cons ha pa_nil hst
  have pk : PK X [⟨some kw, kx, kpos⟩] (tCons tx tNil) := pk_cons hx pk_nil
  refine PySem.W.callWith_KW (first := [.ref a]) (h₀ := X.base) I.ok.mod.kin d.me.kp hall (thn (pa.run pos pins s1 σ H1 _ I1 q) fun us s2 ⟨vs, H2, I2, r, q2⟩ => ?_) hpl hst
  refine thn (pk.run pos pins s2 σ H2 _ I2 q2) fun ws s3 ⟨zs, H3, I3, rz, y, z, ev, ez, q3⟩ => ⟨I3.kIn, ?_⟩
  subst ev ez
  rw [hks]
  obtain ⟨u1, rfl, ru⟩ := r.one
  obtain ⟨w1, rfl, rw'⟩ := rz.one
  have hb : BindsTo s3 fd ⟨[Value.ref a, u1], [kw].zip [w1]⟩ (ps.zip [Value.ref a, u1, w1]) := b s3 [.ref a, u1] [w1] rfl rfl
  have hv : Vals [V.ref a, y, z] [Value.ref a, u1, w1] := .cons rfl (.cons ru (.cons rw' .nil))
  have hrun := F.run X.A X.stack s3 H3 ⟨[Value.ref a, u1], [kw].zip [w1]⟩ [Value.ref a, u1, w1] [V.ref a, y, z] Q (WE W σ) (hr.mono hk) I3.env0 hb hv q3
  show wpAny _ _ (call (.ref _) [Value.ref a, u1] ([kw].zip [w1])) _ _ _
  refine wpAny_call (codeAny_mono hrun fun r s' hq => ?_)
  cases r with
  | error e => exact passAt tk σ pins H3 s3 e s' I3 hq
  | ok fl =>
    cases fl with
    | ret u => exact I3.after hq
    | next => exact False.elim hq
    | brk => exact False.elim hq
    | cont => exact False.elim hq
end
end Sh
/-! is_deed, done. -/
namespace Sh
open PySem PySem.Spec PyProof.Rows L2
abbrev scIsDeed_N : List Str := ["thing"]
abbrev scIsDeed_P : List Str := ["thing"]
abbrev scIsDeed_S : Scope := defScope sIsDeed
theorem scIsDeed : FnScope scIsDeed_N scIsDeed_P (defScope sIsDeed) := ⟨rfl, rfl, rfl, by decide +kernel, rfl, by decide +kernel, by decide +kernel⟩
abbrev scDone_N : List Str := ["self", "deed", "word", "rest"]
abbrev scDone_P : List Str := ["self", "deed"]
abbrev scDone_S : Scope := defScope sDone
theorem scDone : FnScope scDone_N scDone_P (defScope sDone) := ⟨rfl, rfl, rfl, by decide +kernel, rfl, by decide +kernel, by decide +kernel⟩
def word : Deed → Str
  | .take _ _ => "take"
  | .put _ _ _ => "put"
  | .fin _ _ => "end"
  | .lend _ => "lend"
def deedV (d : Deed) : List V := .str (word d) :: dargs d
def DeedV (H : Hp) (v : V) (d : Deed) : Prop := ∃ a, v = .ref a ∧ Rd H a (.tup (deedV d))
theorem deed0 (d : Deed) : atI (deedV d) 0 = some (.str (word d)) := by cases d <;> rfl
theorem mon_deed : Mon DeedV := fun _ _ _ _ t h => let ⟨a, e, r⟩ := h; ⟨a, e, t.rd r⟩
theorem tyx_rd {K : PySem.W.Frag} {H : Hp} {a : Addr} {xs : List V} (h : Rd H a (.tup xs)) : TyX K H (.ref a) (.type "tuple") := by
  rcases h with h | ⟨o, h⟩
  · exact .base (.tup h)
  · exact .fTuple h
def spIsDeed (K : PySem.W.Frag) : Sp := fun vs H Q _ => ∃ (v : V) (d : Deed), vs = [v] ∧ DeedV H v d ∧ Q (.bl true) H
def spDone (K : PySem.W.Frag) : Sp := fun vs H Q E => ∃ (L dx ls lg : Addr) (xs : List V) (v : V) (p : PSt) (d : Deed) (dv : V), vs = [.ref L, dv] ∧ DeedV H dv d ∧ Cur K H L dx ls lg xs v p ∧ xs.length ≤ 1000 ∧ PInv p ∧ ActQ K H ls xs p d Q E
theorem ActQ.ex {K : PySem.W.Frag} {H H' : Hp} {ls : Addr} {xs : List V} {p : PSt} {d : Deed} {Q : VK} {E : XK} (h : ActQ K H ls xs p d Q E) (e : Ex H H') : ActQ K H' ls xs p d Q E :=
  ⟨fun p' hp H2 u w c t h1 h2 => h.1 p' hp H2 u w ((Ch.of e).trans c) ((tk_ex e).trans t) h1 h2, fun hp cls dd H2 hx e2 => h.2 hp cls dd H2 hx (e.trans e2)⟩
theorem sizes {w : World} {K : PySem.W.Frag} {mg : Str → Option Value} (T : Txt w K mg) (d : Deed) : ∃ u0, PySem.W.nsIn K (He.ga K "SIZES") (word d) = some (some u0) ∧ RelV (.int ((deedV d).length : Nat)) u0 := by
  have h := (He.ba (He.ba (He.ba (He.ba T.more).2).2).2).1
  cases d with
  | take i j => exact He.valsB_ok h (q := ("take", .int 3)) (by simp)
  | put k i j => exact He.valsB_ok h (q := ("put", .int 4)) (by simp)
  | fin k i => exact He.valsB_ok h (q := ("end", .int 3)) (by simp)
  | lend n => exact He.valsB_ok h (q := ("lend", .int 2)) (by simp)
section
variable {P : Program} {w : World} {K : PySem.W.Frag} {mg : Str → Option Value} {base : Heap}
theorem d_is_deed (hT : Txt w K mg) : Def P w K mg base CX0 1 "is_deed" scIsDeed_P (spIsDeed K) := by
  obtain ⟨es, n, D⟩ := hT.tab
  refine Def.of hT (st := sIsDeed) (by simp [fn]) (by decide +kernel) scIsDeed (fun _ _ _ _ _ _ us hl => match us, hl with | [_], _ => rfl) (fun vs H Q E h => by obtain ⟨v, d, rfl, _⟩ := h; rfl) fun cdv A outer s H vs Q E hr h => ?_
  refine' ⟨_, PSs.nox ?walk, ?read⟩
  case walk => exact (
    (pss_cons (ps_if (PW.pt (pw_or (pt_not (pt_val (pe_callB call_isi (by rfl) (hT.free "isinstance" (by decide +kernel)) (by decide +kernel) (pa_cons (pv 0) (pa_cons (pe_bltn (v := .ty "tuple") (u := .type "tuple") (by rfl) (hT.free "tuple" (by decide +kernel)) (by decide +kernel) rfl) pa_nil))))) (pw_or (pt_cmpR op_eq (pe_callB call_len_seq (by rfl) (hT.free "len" (by decide +kernel)) boot_len (pa_cons (pv 0) pa_nil)) pe_int (nomark _)) (pw_or1 (pt_not (pt_val (pe_callB call_isi (by rfl) (hT.free "isinstance" (by decide +kernel)) (by decide +kernel) (pa_cons (pe_ix ix_tup (pv 0) pe_int (fun _ _ => rfl)) (pa_cons (pe_bltn (v := .ty "str") (u := .type "str") (by rfl) (hT.free "str" (by decide +kernel)) (by decide +kernel) rfl) pa_nil)))))))))
    (pss_one (ps_ret pe_bl))
    pss_nil)
    (pss_one (ps_ret (pe_cmpR op_eq (pe_callB call_len_seq (by rfl) (hT.free "len" (by decide +kernel)) boot_len (pa_cons (pv 0) pa_nil)) (pe_kget D (pe_glob (v := .ref (He.ga K "SIZES")) (by rfl) (hT.glo "SIZES" (by decide +kernel)) rfl) (pe_ix ix_tup (pv 0) pe_int (fun _ _ => rfl)) pe_int ⟨rfl, rfl, rfl, rfl⟩) (nomark _)))))
    )
  case read =>
    obtain ⟨v, d, rfl, ⟨a, rfl, rd⟩, q⟩ := h
    obtain ⟨u0, hu0, ru0⟩ := sizes hT d
    refine ⟨_, rfl, _, _, _, _, true, rfl, .ty _, tyx_rd rd, kit_ty (by decide +kernel), _, rfl, if_f rfl ?_⟩
    refine ⟨_, rfl, a, _, rfl, .inr (rd_sq rd), rfl, _, rfl, if_f (by cases d <;> rfl) ?_⟩
    have h0 := deed0 d
    refine ⟨_, rfl, a, _, _, V.str (word d), rfl, rfl, rd_sq rd, h0, _, _, _, _, true, rfl, .ty _, .base (.str _), kit_ty (by decide +kernel), _, rfl, if_f rfl ?_⟩
    refine ⟨_, rfl, a, _, rfl, .inr (rd_sq rd), rfl, _, rfl, a, _, _, V.str (word d), rfl, rfl, rd_sq rd, h0, _, u0, _, rfl, hu0, ru0, rfl, ?_⟩
    show Q (V.bl (decide (V.int ((deedV d).length : Nat) = V.int ((deedV d).length : Nat)))) H
    rw [decide_eq_true rfl]
    exact q
theorem d_done (hT : Txt w K mg) : Mth P w K mg base (L2.CX P w) 5 "done" scDone_P (spDone K) := by
  have d_take := d_take (P := P) (base := base) hT
  have d_put := d_put (P := P) (base := base) hT
  have d_end := d_end (P := P) (base := base) hT
  have d_lend := d_lend (P := P) (base := base) hT
  refine Mth.of hT (q := "Library.done") (st := sDone) (by simp [fn]) (by decide +kernel) scDone (fun _ _ _ _ _ _ us hl => match us, hl with | [_, _], _ => rfl) (fun vs H Q E h => by obtain ⟨L, dx, ls, lg, xs, v, p, d, dv, rfl, _⟩ := h; rfl) fun cdv A outer s H vs Q E hr h => ?_
  refine' walkX ?walk ?read
  case walk => exact (
    (pss_cons (ps_asg (pv 1) (pg_star rfl (pg_name (i := 2) scDone.nd rfl (Or.inl rfl)) (pg_name (i := 3) scDone.nd rfl (Or.inl rfl))))
    (pss_cons (ps_if (pt_cmpR op_eq (pv 2) (pe_con hT "TAKE" "take") (nomark _))
    (pss_one (ps_ret (pe_meX d_take hr hT.cl (takes_of rfl rfl rfl rfl) (pv 0) (pa_cons (pe_ix ix_list (pv 3) pe_int (fun _ _ => rfl)) (pa_cons (pe_ix ix_list (pv 3) pe_int (fun _ _ => rfl)) pa_nil)))))
    pss_nil)
    (pss_cons (ps_if (pt_cmpR op_eq (pv 2) (pe_con hT "PUT" "put") (nomark _))
    (pss_one (ps_ret (pe_meX d_put hr hT.cl (takes_of rfl rfl rfl rfl) (pv 0) (pa_cons (pe_ix ix_list (pv 3) pe_int (fun _ _ => rfl)) (pa_cons (pe_ix ix_list (pv 3) pe_int (fun _ _ => rfl)) (pa_cons (pe_ix ix_list (pv 3) pe_int (fun _ _ => rfl)) pa_nil))))))
    pss_nil)
    (pss_one (ps_ret (pe_ifExp (pt_cmpR op_eq (pv 2) (pe_con hT "END" "end") (nomark _)) (pe_meX d_end hr hT.cl (takes_of rfl rfl rfl rfl) (pv 0) (pa_cons (pe_ix ix_list (pv 3) pe_int (fun _ _ => rfl)) (pa_cons (pe_ix ix_list (pv 3) pe_int (fun _ _ => rfl)) pa_nil))) (pe_meX d_lend hr hT.cl (takes_of rfl rfl rfl rfl) (pv 0) (pa_cons (pe_ix ix_list (pv 3) pe_int (fun _ _ => rfl)) pa_nil))))))))
    )
  case read =>
    obtain ⟨L, dx, ls, lg, xs, v, p, d, dv, rfl, ⟨a, rfl, rd⟩, c, hz, hi, hq⟩ := h
    refine ⟨_, rfl, a, _, _, rfl, rd_sq rd, fun l nl => ?_⟩
    have e1 := Ex.new (o := HO.lst (dargs d)) nl
    have hl : SqL K (upd H l (.lst (dargs d))) l (dargs d) := SqL.of upd_same
    have hq1 := hq.ex e1
    have c1 := c.ex e1
    generalize upd H l (.lst (dargs d)) = G at *
    cases d with
    | take i j =>
      refine ⟨_, rfl, rfl, _, rfl, if_t rfl ?_⟩
      exact ⟨_, rfl, L, dx, _, rfl, c1.ins, lF_m, _, rfl, l, _, _, _, rfl, rfl, hl, rfl, _, rfl, l, _, _, _, rfl, rfl, hl, rfl, L, dx, ls, lg, xs, v, p, _, ⟨i, j, rfl⟩, rfl, c1, hz, hi, hq1⟩
    | put k i j =>
      refine ⟨_, rfl, rfl, _, rfl, if_f (by show decide (V.str "put" = V.str "take") = false; decide +kernel) ?_⟩
      refine ⟨_, rfl, rfl, _, rfl, if_t rfl ?_⟩
      exact ⟨_, rfl, L, dx, _, rfl, c1.ins, lF_m, _, rfl, l, _, _, _, rfl, rfl, hl, rfl, _, rfl, l, _, _, _, rfl, rfl, hl, rfl, _, rfl, l, _, _, _, rfl, rfl, hl, rfl, L, dx, ls, lg, xs, v, p, _, ⟨k, i, j, rfl⟩, rfl, c1, hz, hi, hq1⟩
    | fin k i =>
      refine ⟨_, rfl, rfl, _, rfl, if_f (by show decide (V.str "end" = V.str "take") = false; decide +kernel) ?_⟩
      refine ⟨_, rfl, rfl, _, rfl, if_f (by show decide (V.str "end" = V.str "put") = false; decide +kernel) ?_⟩
      refine ⟨_, rfl, rfl, _, rfl, if_t rfl ?_⟩
      exact ⟨_, rfl, L, dx, _, rfl, c1.ins, lF_m, _, rfl, l, _, _, _, rfl, rfl, hl, rfl, _, rfl, l, _, _, _, rfl, rfl, hl, rfl, L, dx, ls, lg, xs, v, p, _, ⟨k, i, rfl⟩, rfl, c1, hz, hi, hq1⟩
    | lend n =>
      refine ⟨_, rfl, rfl, _, rfl, if_f (by show decide (V.str "lend" = V.str "take") = false; decide +kernel) ?_⟩
      refine ⟨_, rfl, rfl, _, rfl, if_f (by show decide (V.str "lend" = V.str "put") = false; decide +kernel) ?_⟩
      refine ⟨_, rfl, rfl, _, rfl, if_f (by show decide (V.str "lend" = V.str "end") = false; decide +kernel) ?_⟩
      exact ⟨_, rfl, L, dx, _, rfl, c1.ins, lF_m, _, rfl, l, _, _, _, rfl, rfl, hl, rfl, L, dx, ls, lg, xs, v, p, _, ⟨n, rfl⟩, rfl, c1, hz, hi, hq1⟩
end
end Sh
/-! do. -/
namespace Sh
open PySem PySem.Spec PyProof.Rows L2
abbrev scDo_N : List Str := ["self", "deeds", "whole", "number", "deed", "ahead", "told", "last", "kept"]
abbrev scDo_P : List Str := ["self", "deeds", "whole"]
abbrev scDo_S : Scope := defScope sDo
theorem scDo : FnScope scDo_N scDo_P (defScope sDo) := ⟨rfl, rfl, rfl, by decide +kernel, rfl, by decide +kernel, by decide +kernel⟩
/-! ### rules that are told the ground (the body of a try) -/
section
variable {X : Cx} {j k : Nat} {m : Str} {ps : List Str} {sp : Sp} {t : TA} {ta : TE} {e o : Expr} {es : List Expr} {pos apos cpos : Pos} {name : Str} {T id : String} {r : V → List V → Hp → VK → Prop} {to : TE}
theorem pe_fldK {f : Str} {pos : Pos} (K : PySem.W.Frag) (he : PE X e ta) (hb : attributeBase e f X.env (eval e X.env) = eval e X.env) (hK : X.K = K := by rfl) : PE X (.Attribute e f pos) (tFld K ta f) := by subst hK; exact pe_fld he hb
theorem ps_fldK {f : Str} {value : Expr} {tv : TE} {pos' : Pos} (K : PySem.W.Frag) (ha : PE X o ta) (hv : PE X value tv) (hs : swapsWith value (some (.Attribute o f pos')) pos.line X.env = pure false) (hK : X.K = K := by rfl) : PS X (.Assign [.Attribute o f pos'] value pos) (sFld K ta tv f) := by subst hK; exact ps_fld ha hv hs
def tMeS (K : PySem.W.Frag) (m : Str) (sp : Sp) (W : WX) (ta : TE) (t : TA) : TE := fun σ H Q => ta σ H fun x H1 => ∃ a dx fs, x = .ref a ∧ H1 a = some (.ins (LC K) dx fs) ∧ fs.lookup m = none ∧ t σ H1 fun vs H2 => sp (x :: vs) H2 Q (WE W σ)
theorem pe_meSK {W : WX} {pl : Sem Bool} (K : PySem.W.Frag) (d : Mth X.prog X.w K X.mg X.base (L2.CX X.prog X.w) k m ps sp) (hr : Room j X.A) (c : Cls K (LC K)) (tk : L2.Takes X W) (he : PE X o ta) (ha : PA X (e :: es) t) (hK : X.K = K := by rfl) (hk : k ≤ j := by decide)
    (hst : starEach (e :: es) X.env = (false, eval e X.env) :: starEach es X.env := by rfl) (hpl : (backTo pos (starEach es X.env)).any (·.1) = false := by rfl)
    (ht : eval (.Call (.Attribute o m apos) (e :: es) [] pos) X.env = (do
      let ov ← eval o X.env
      standAt apos.atName
      let (f, first) ← holding [ov] (getMethod ov m pl)
      callWith pos f first (backTo pos (starEach (e :: es) X.env)) (backToKw pos (keywordEach [] X.env))) := by rfl) :
    PE X (.Call (.Attribute o m apos) (e :: es) [] pos) (tMeS K m sp W ta t) := by
  subst hK
  exact pe_meS d hr c tk he ha hk hst hpl ht
theorem pe_bmK (K : PySem.W.Frag) (pa : PlainAttrs T) (slot : Slot T name id) (hty : typeOf (.builtin id) = pure (.type "method_descriptor")) (hm : MtR X id r) (ho : PE X o to) (ha : PA X (e :: es) t) (hK : X.K = K := by rfl)
    (hbase : attributeBase o name X.env (eval o X.env) = eval o X.env := by rfl)
    (hfew : ((backTo cpos (starEach (e :: es) X.env)).all (fun x => !x.1) && (backToKw cpos (keywordEach [] X.env)).all (fun x => x.1.isSome)
      && decide ((e :: es).length + ([] : List Keyword).length + (if ([] : List Keyword).isEmpty then 0 else 1) < 30)) = true := by rfl)
    (hline : (apos.endLine == cpos.line) = true := by rfl) (hs : starEach (e :: es) X.env = (false, eval e X.env) :: starEach es X.env := by rfl) (hplain : (backTo cpos (starEach es X.env)).any (·.1) = false := by rfl) :
    PE X (.Call (.Attribute o name apos) (e :: es) [] cpos) (tBM K T r to t) := by
  subst hK
  exact pe_bm pa slot hty hm ho ha hbase hfew hline hs hplain
end
/-! ### rows of deeds -/
theorem takes_snoc {p p' : PSt} {ds : List Deed} {i : Nat} {d : Deed} (h : Takes p (ds.take i)) (hd : ds[i]? = some d) (hs : pstep (pafter p (ds.take i)) d = some p') : Takes p (ds.take (i + 1)) := by
  rw [take_more hd]
  exact (takes_append _ _ _).mpr ⟨h, by rw [hs]; rfl, trivial⟩
theorem doN_at : ∀ {ds : List Deed} {p : PSt} {i : Nat} {d : Deed}, Takes p (ds.take i) → ds[i]? = some d → pstep (pafter p (ds.take i)) d = none → doN p ds = i
  | [], _, i, _, _, h, _ => by simp at h
  | c :: ds, p, 0, d, _, h, hs => by
    have e : c = d := Option.some.inj h
    subst e
    have hs' : pstep p c = none := hs
    unfold doN
    rw [hs']
    rfl
  | c :: ds, p, i + 1, d, ht, h, hs => by
    have h1 : (pstep p c).isSome = true := ht.1
    have ih := doN_at (ds := ds) (p := pst p c) (i := i) (d := d) ht.2 (by simpa using h) hs
    unfold doN
    rw [if_pos h1, ih]
theorem doN_all : ∀ {ds : List Deed} {p : PSt}, Takes p ds → doN p ds = ds.length
  | [], _, _ => rfl
  | c :: ds, p, ht => by
    have h1 : (pstep p c).isSome = true := ht.1
    unfold doN
    rw [if_pos h1, doN_all ht.2, List.length_cons]
/-- the library behind a row of deeds -/
structure DoR (K : PySem.W.Frag) (H : Hp) (L dx ls lg : Addr) (p0 : PSt) (D : List Deed) (gn : Nat) (n : Nat) (H' : Hp) : Prop where
  ch : Ch [L, ls, lg] H H'
  tk : Tk H H'
  lib : ∃ ls' xs' gs' t, (ls' = ls ∨ H ls' = none) ∧ LibAt K H' L dx ls' lg xs' (pscan p0 D) gs' ∧ gs'.length = gn + 2 ∧ gs'[gs'.length - 1]? = some (.ref t) ∧ H' t = some (.tup [.str "out", .int (n : Nat)])
theorem LibAt.logged {K : PySem.W.Frag} {H : Hp} {L dx ls lg : Addr} {xs : List V} {ps : List PSt} {gs : List V} (A : LibAt K H L dx ls lg xs ps gs) (gs' : List V) : LibAt K (upd H lg (.lst gs')) L dx ls lg xs ps gs' :=
  ⟨by rw [upd_ne A.neL.2]; exact A.ins, by rw [upd_ne A.ne]; exact A.st, pmono mon_pst (tk_upd A.log rfl) A.prd, upd_same, A.ne⟩
theorem LibAt.set {K : PySem.W.Frag} {H : Hp} {L dx ls lg : Addr} {xs : List V} {ps : List PSt} {gs : List V} (A : LibAt K H L dx ls lg xs ps gs) {l2 : Addr} {xs2 : List V} {ps2 : List PSt} (h2 : H l2 = some (.lst xs2)) (hp : Paired (PStV H) xs2 ps2) (hn : l2 ≠ lg) :
    LibAt K (upd H L (.ins (LC K) dx (lF l2 lg))) L dx l2 lg xs2 ps2 gs :=
  ⟨upd_same, by rw [upd_ne (ne_of h2 A.ins (fun z => nomatch z))]; exact h2, pmono mon_pst (tk_upd A.ins rfl) hp, by rw [upd_ne A.neL.2.symm]; exact A.log, hn⟩
theorem if_C {c : Bool} {u v : V} {σ : L2.St} {H : Hp} {Q : VK} (h : Q (if c = true then u else v) H) : if c = true then tC u σ H Q else tC v σ H Q := by
  cases c
  · exact h
  · exact h
def spDo (K : PySem.W.Frag) : Sp := fun vs H Q E => ∃ (L dx ls lg da : Addr) (xs dls gs : List V) (p0 : PSt) (D ds : List Deed) (whole : Bool), vs = [.ref L, .ref da, .bl whole] ∧
  LibAt K H L dx ls lg xs (pscan p0 D) gs ∧ H da = some (.lst dls) ∧ Paired (DeedV H) dls ds ∧ da ≠ ls ∧ da ≠ lg ∧ PInv p0 ∧ D.length + ds.length ≤ 900 ∧ gs.length ≤ 900 ∧
  (doN (pafter p0 D) ds = ds.length → ∀ w H', DoR K H L dx ls lg p0 (D ++ ds) gs.length ds.length H' → Q w H') ∧
  (doN (pafter p0 D) ds < ds.length → ∀ cls dd H', IsX K cls → DoR K H L dx ls lg p0 (D ++ if whole = true then [] else ds.take (doN (pafter p0 D) ds)) gs.length (doN (pafter p0 D) ds) H' → E cls (some dd) H')
section
variable {P : Program} {w : World} {K : PySem.W.Frag} {mg : Str → Option Value} {base : Heap}
def doFin (K : PySem.W.Frag) : TS := tSeq (tIfS (tB (tIsN (tVar 8))) (sFld K (tVar 0) (tVar 5) "own_states") tNext) (tDrop (tBM K "list" rAppend (tFld K (tVar 0) "own_log") (tCons (tVar 7) tNil)))
theorem doFin_ok (hT : Txt w K mg) {D : Ends} {H : Hp} {L da B T t ls lg dx : Addr} {b : Bool} {n d : Option V} {kv : V} {xs' xs gs : List V} {ps ps1 : List PSt} (A : LibAt K H L dx ls lg xs' ps gs) (hB : H B = some (.lst xs)) (hp : Paired (PStV H) xs ps1) (hBg : B ≠ lg) (hz : gs.length ≤ 1000)
    (q1 : kv = .non → ∀ H', Ch [L, lg] H H' → Tk H H' → LibAt K H' L dx B lg xs ps1 (gs ++ [.ref t]) → D.nx [some (.ref L), some (.ref da), some (.bl b), n, d, some (.ref B), some (.ref T), some (.ref t), some kv] H')
    (q2 : kv ≠ .non → ∀ H', Ch [L, lg] H H' → Tk H H' → LibAt K H' L dx ls lg xs' ps (gs ++ [.ref t]) → D.nx [some (.ref L), some (.ref da), some (.bl b), n, d, some (.ref B), some (.ref T), some (.ref t), some kv] H') :
    doFin K D [some (.ref L), some (.ref da), some (.bl b), n, d, some (.ref B), some (.ref T), some (.ref t), some kv] H := by
  refine ⟨_, rfl, _, rfl, if_2 (fun c => ?_) (fun c => ?_)⟩
  · refine ⟨_, rfl, _, rfl, L, LC K, dx, lF ls lg, rfl, A.ins, hT.cl, hT.nS, (by show 2 < 1000; decide), ?_⟩
    rw [lF_put]
    have A2 := A.set hB hp hBg
    have c2 : Ch [L, lg] H (upd H L (.ins (LC K) dx (lF B lg))) := Ch.upd (by simp)
    have k2 : Tk H (upd H L (.ins (LC K) dx (lF B lg))) := tk_upd A.ins rfl
    generalize upd H L (.ins (LC K) dx (lF B lg)) = G at *
    refine ⟨_, rfl, L, _, dx, _, _, rfl, A2.ins, hT.cl, hT.nL, lF_l B lg, .inl ⟨rfl, _, SqL.of A2.log⟩, _, rfl, lg, gs, _, rfl, rfl, A2.log, small' (by omega), ?_⟩
    exact q1 (of_decide_eq_true c) _ (c2.trans (Ch.upd (by simp))) (k2.mut A2.log rfl) (A2.logged _)
  · refine ⟨_, rfl, L, _, dx, _, _, rfl, A.ins, hT.cl, hT.nL, lF_l ls lg, .inl ⟨rfl, _, SqL.of A.log⟩, _, rfl, lg, gs, _, rfl, rfl, A.log, small' (by omega), ?_⟩
    exact q2 (of_decide_eq_false c) _ (Ch.upd (by simp)) (tk_upd A.log rfl) (A.logged _)
theorem d_do (hT : Txt w K mg) : MtK P w K mg base (L2.CX P w) 6 "do" "whole" scDo_P (spDo K) := by
  have d_is_deed := d_is_deed (P := P) (base := base) hT
  have d_done := d_done (P := P) (base := base) hT
  obtain ⟨fd, F⟩ := hT.def_ (mD "Library" "do" "Library.do" sDo [] [("whole", .bl true)]) (by simp [fn])
  refine ⟨⟨fd, FunD.ok F scDo (fun vs H Q E h => by obtain ⟨L, dx, ls, lg, da, xs, dls, gs, p0, D, ds, whole, rfl, _⟩ := h; rfl) (fun cdv A outer s H vs Q E hr h => ?_), fun s us ws h1 h2 => ?_⟩, hT.meth (by decide +kernel)⟩
  · refine' walkX ?walk ?read
    case walk => exact (
      (pss_cons (ps_nox (ps_for PassesOwn.never rfl (pi_enum (by rfl) (hT.free "enumerate" (by decide +kernel)) (pa_cons (pv 1) pa_nil)) (pg_tup rfl (pgs_cons (pg_name (i := 3) scDo.nd rfl (Or.inl rfl)) (pgs_cons (pg_name (i := 4) scDo.nd rfl (Or.inl rfl)) pgs_nil))) (pss_one (ps_if (pt_not (pt_val (pe_fn d_is_deed hr (pa_cons (pv 4) pa_nil)))) (pss_one ps_never) pss_nil))))
      (pss_cons (ps_expr (pe_bm PySem.F.plainAttrs_list PySem.F.slot_list_append PySem.F.type_list_append mt_append (pe_fld (pv 0) rfl) (pa_cons (pe_tup (pa_cons pe_str (pa_cons (pe_callB call_len_seq (by rfl) (hT.free "len" (by decide +kernel)) boot_len (pa_cons (pv 1) pa_nil)) pa_nil))) pa_nil)))
      (pss_cons (ps_par3 (i := 5) (j := 6) (l := 7) rfl scDo.nd rfl rfl rfl (by decide) (by decide) (by decide) rfl rfl rfl (pa_cons (pe_callTy call_list_of (by rfl) (hT.free "list" (by decide +kernel)) (by decide +kernel) (pa_cons (pe_fld (pv 0) rfl) pa_nil)) (pa_cons (pe_lst pa_nil) (pa_cons (pe_tup (pa_cons pe_str (pa_cons pe_int pa_nil))) pa_nil))) (by rfl))
      (pss_cons (ps_set (i := 8) scDo.nd rfl (Or.inl rfl) (pe_ifExp (pt_val (pv 2)) pe_non pe_int))
      (pss_cons (ps_finA rfl rfl rfl (takes_of rfl rfl rfl rfl) (fun W pn xe tk own => by exact pss_cons (ps_for own rfl (pi_listK K (pv 1)) (pg_name (i := 4) scDo.nd rfl (Or.inl rfl)) (pss_cons (ps_expr (pe_bmK K PySem.F.plainAttrs_list PySem.F.slot_list_append PySem.F.type_list_append mt_append (pv 6) (pa_cons (pe_meSK (W := W) K d_done hr hT.cl tk (pv 0) (pa_cons (pv 4) pa_nil)) pa_nil))) (pss_one (ps_set (i := 7) scDo.nd rfl (Or.inl rfl) (pe_tup (pa_cons pe_str (pa_cons (pe_callB (call_len_seqK K) (by rfl) (hT.free "len" (by decide +kernel)) boot_len (pa_cons (pv 6) pa_nil)) pa_nil))))))) (pss_one (ps_set (i := 8) scDo.nd rfl (Or.inl rfl) pe_int))) (pss_cons (ps_if (pt_cmp (pc_isN (pv 8))) (pss_one (ps_fldK K (pv 0) (pv 5) rfl)) pss_nil) (pss_one (ps_expr (pe_bmK K PySem.F.plainAttrs_list PySem.F.slot_list_append PySem.F.type_list_append mt_append (pe_fldK K (pv 0) rfl) (pa_cons (pv 7) pa_nil))))) (fun a pn => (pss_cons (ps_if (pt_cmp (pc_isN (pv 8))) (pss_one (ps_fldK K (pv 0) (pv 5) rfl)) pss_nil) (pss_one (ps_expr (pe_bmK K PySem.F.plainAttrs_list PySem.F.slot_list_append PySem.F.type_list_append mt_append (pe_fldK K (pv 0) rfl) (pa_cons (pv 7) pa_nil)))))))
      (pss_one (ps_ret (pv 6))))))))
      )
    case read =>
      obtain ⟨L, dx, ls, lg, da, xs, dls, gs, p0, D, ds, whole, rfl, A0, hda, hds, ne1, ne2, hi, hz, hg, q1, q2⟩ := h
      have hdl := plen hds
      refine ⟨_, rfl, da, dls, rfl, SqL.of hda, for_it (walk_enum (xs := dls)) (fun i σ H' => ∃ n d, σ = [some (.ref L), some (.ref da), some (.bl whole), n, d, none, none, none, none] ∧ Ex H H') ⟨none, none, rfl, Ex.refl H⟩ (fun i σ H' _ h => by obtain ⟨_, _, _, ex⟩ := h; exact ex.sq (SqL.of hda)) (fun i x σ H' H2 hi h y => ?_) (fun σ H' h => ?_)⟩
      · obtain ⟨n0, d0, rfl, ex⟩ := h
        obtain ⟨T, x1, x2, rfl, nT, rfl, e1, e2⟩ := y
        cases e1
        obtain ⟨d, hd, rd⟩ := pgetL hds e2
        have exT := ex.trans (Ex.new (o := .tup [V.int (i : Nat), x2]) nT)
        refine ⟨T, _, rfl, SqT.of upd_same, rfl, _, _, rfl, _, _, rfl, rfl, ?_⟩
        exact ⟨_, rfl, x2, d, rfl, mon_deed _ _ _ _ (tk_ex exT) rd, _, rfl, if_f rfl ⟨_, _, rfl, exT⟩⟩
      · obtain ⟨n0, d0, rfl, ex⟩ := h
        have A1 := A0.ex ex
        have hda1 := ex _ _ hda
        have hds1 := pmono mon_deed (tk_ex ex) hds
        have hgl := A1.log
        refine ⟨_, rfl, L, _, dx, _, _, rfl, A1.ins, hT.cl, hT.nL, lF_l ls lg, .inl ⟨rfl, _, SqL.of A1.log⟩, _, rfl, da, dls, rfl, .inl (SqL.of hda1), (by show 2 ≤ sizeLine; decide), fun t0 nt0 => ?_⟩
        have e0 := Ex.new (o := .tup [V.str "in", .int (dls.length : Nat)]) nt0
        have A2 := A1.ex e0
        have hda2 := e0 _ _ hda1
        have hds2 := pmono mon_deed (tk_ex e0) hds1
        have eH := ex.trans e0
        generalize upd H' t0 (.tup [V.str "in", .int (dls.length : Nat)]) = G0 at *
        refine ⟨lg, gs, _, rfl, rfl, A2.log, small' (by omega), ?_⟩
        have A3 := A2.logged (gs ++ [.ref t0])
        have c3 : Ch [ls, lg] G0 (upd G0 lg (.lst (gs ++ [.ref t0]))) := Ch.upd (by simp)
        have k3 : Tk G0 (upd G0 lg (.lst (gs ++ [.ref t0]))) := tk_upd A2.log rfl
        have hda3 := c3 _ _ (by simp [ne1, ne2]) hda2
        have hds3 := pmono mon_deed k3 hds2
        have c3H := (Ch.of (ex := [ls, lg]) eH).trans c3
        have k3H := (tk_ex eH).trans k3
        generalize upd G0 lg (.lst (gs ++ [.ref t0])) = G1 at *
        refine ⟨_, rfl, L, _, dx, _, _, rfl, A3.ins, hT.cl, hT.nS, lF_s ls lg, ls, xs, rfl, .inl (SqL.of A3.st), fun B nB => ⟨Nat.zero_le _, fun T nT => ⟨(by show 2 ≤ sizeLine; decide), fun tt ntt => ⟨_, _, _, rfl, ?_⟩⟩⟩⟩
        have eB := Ex.new (o := .lst xs) nB
        have eT := Ex.new (o := .lst []) nT
        have ett := Ex.new (o := .tup [V.str "out", .int 0]) ntt
        have hB : upd (upd (upd G1 B (.lst xs)) T (.lst [])) tt (.tup [V.str "out", .int 0]) B = some (.lst xs) := ett _ _ (eT _ _ upd_same)
        have hTt : upd (upd (upd G1 B (.lst xs)) T (.lst [])) tt (.tup [V.str "out", .int 0]) T = some (.lst []) := ett _ _ upd_same
        have htt : upd (upd (upd G1 B (.lst xs)) T (.lst [])) tt (.tup [V.str "out", .int 0]) tt = some (.tup [V.str "out", .int 0]) := upd_same
        have eG := (eB.trans eT).trans ett
        have nT1 : G1 T = none := eB.nn nT
        generalize upd (upd (upd G1 B (.lst xs)) T (.lst [])) tt (.tup [V.str "out", .int 0]) = G at *
        have A4 := A3.ex eG
        have hda4 := eG _ _ hda3
        have hds4 := pmono mon_deed (tk_ex eG) hds3
        have c4H := c3H.trans (Ch.of eG)
        have k4H := k3H.trans (tk_ex eG)
        have nls : ls ≠ B := ne_of_none A3.st nB
        have nlg : lg ≠ B := ne_of_none A3.log nB
        have nlsT : ls ≠ T := ne_of_none A3.st nT1
        have nlgT : lg ≠ T := ne_of_none A3.log nT1
        have nH : ∀ {b : Addr}, ls ≠ b → lg ≠ b → G1 b = none → H b = none := fun {b} z1 z2 hb => by
          cases q : H b with
          | none => rfl
          | some o => exact absurd (c3H b o (by simp [Ne.symm z1, Ne.symm z2]) q) (by rw [hb]; simp)
        have nHB := nH nls nlg nB
        have nHT := nH nlsT nlgT nT1
        have nBT : B ≠ T := fun z => by rw [z, hTt] at hB; have q := Option.some.inj hB; cases q; have := plen A4.prd; rw [pscan_len] at this; simp at this
        have nda1 : da ≠ T := ne_of_none hda3 nT1
        have nLls := A4.neL.1
        have nLT : L ≠ T := ne_of_none A3.ins nT1
        have hsl := plen A4.prd
        rw [pscan_len] at hsl
        have fin : ∀ {H5 H6 : Hp}, Ch [L, lg] H5 H6 → Ch [ls, T] G H5 → Ch [L, ls, lg] H H6 := fun {H5 H6} z1 z2 b o hb e => by
          have h1 : b ≠ L ∧ b ≠ ls ∧ b ≠ lg := by simpa using hb
          have h2 : b ≠ T := fun z => by rw [z, nHT] at e; cases e
          exact z1 _ _ (by simp [h1]) (z2 _ _ (by simp [h1, h2]) (c4H _ _ (by simp [h1]) e))
        generalize hkv : (if whole = true then V.non else V.int 0) = kv
        refine ⟨_, rfl, _, rfl, if_C ?_⟩
        rw [hkv]
        refine ⟨_, rfl, da, rfl, ⟨_, SqL.of hda4⟩, for_list (K := K) (a := da) (xs := dls) (fun i σ H2 => ∃ n d t xs' ts, σ = [some (.ref L), some (.ref da), some (.bl whole), n, d, some (.ref B), some (.ref T), some (.ref t), some kv] ∧ Ch [ls, T] G H2 ∧ Tk G H2 ∧
            LibAt K H2 L dx ls lg xs' (pscan p0 (D ++ ds.take i)) (gs ++ [.ref t0]) ∧ Sh.Takes (pafter p0 D) (ds.take i) ∧ H2 T = some (.lst ts) ∧ ts.length = i ∧ H2 t = some (.tup [V.str "out", .int (i : Nat)]))
          ⟨n0, d0, tt, xs, [], rfl, Ch.refl _ _, Tk.refl _, by rw [List.take_zero, List.append_nil]; exact A4, trivial, hTt, rfl, htt⟩ (fun i σ H2 _ h => ?_) (fun i x σ H2 hx h => ?_) (fun σ H2 h => ?_)⟩
        · obtain ⟨n, d, t, xs', ts, rfl, c, _⟩ := h
          exact SqL.of (c _ _ (by simp [ne1, nda1]) hda4)
        · obtain ⟨n, d, t, xs', ts, rfl, c, k, A5, htk, hT5, hlen, ht5⟩ := h
          obtain ⟨d1, hd1, rd1⟩ := pgetL hds4 hx
          have hil : i < ds.length := (List.getElem?_eq_some_iff.mp hd1).1
          have hxl := plen A5.prd
          rw [pscan_len, List.length_append, List.length_take] at hxl
          have hlast := pscan_last (D ++ ds.take i) p0
          have hcur : (pscan p0 (D ++ ds.take i))[(pscan p0 (D ++ ds.take i)).length - 1]? = some (pafter p0 (D ++ ds.take i)) := by
            rw [pscan_len, Nat.add_sub_cancel]
            exact hlast
          obtain ⟨v, C⟩ := A5.cur hcur
          have hpi : PInv (pafter p0 (D ++ ds.take i)) := PInv.after _ hi
          have hpa := pafter_append p0 D (ds.take i)
          refine ⟨_, rfl, .inl ⟨rfl, _, SqL.of hT5⟩, _, rfl, L, dx, _, rfl, A5.ins, lF_m, _, rfl, L, dx, ls, lg, xs', v, _, d1, x, rfl, mon_deed _ _ _ _ k rd1, C, by omega, hpi, fun p' hp H3 u w c6 k6 h6 r6 => ?_, fun hp cls dd H3 hcls e3 => ?_⟩
          · rw [hpa] at hp
            have hT6 := c6 _ _ (by simp [Ne.symm nlsT]) hT5
            have hts := takes_snoc htk hd1 hp
            have hp' : pst (pafter p0 (D ++ ds.take i)) d1 = p' := by rw [hpa]; unfold Sh.pst; rw [hp]; rfl
            have A6 : LibAt K H3 L dx ls lg (xs' ++ [u]) (pscan p0 (D ++ ds.take (i + 1))) (gs ++ [.ref t0]) := by
              refine ⟨c6 _ _ (by simp [nLls]) A5.ins, h6, ?_, c6 _ _ (by simp [A5.ne.symm]) A5.log, A5.ne⟩
              rw [take_more hd1, ← List.append_assoc, pscan_snoc, hp']
              exact psnoc (pmono mon_pst k6 A5.prd) r6
            refine ⟨T, ts, w, rfl, rfl, hT6, small' (by omega), ?_⟩
            have c7 : Ch [ls, T] H3 (upd H3 T (.lst (ts ++ [w]))) := Ch.upd (by simp)
            have k7 : Tk H3 (upd H3 T (.lst (ts ++ [w]))) := tk_upd hT6 rfl
            have hT7 : upd H3 T (.lst (ts ++ [w])) T = some (.lst (ts ++ [w])) := upd_same
            have A7 : LibAt K (upd H3 T (.lst (ts ++ [w]))) L dx ls lg (xs' ++ [u]) (pscan p0 (D ++ ds.take (i + 1))) (gs ++ [.ref t0]) := A6.keep (ex := [T]) (Ch.upd (by simp)) k7 (by simp [nLT]) (by simp [nlsT]) (by simp [nlgT])
            generalize upd H3 T (.lst (ts ++ [w])) = H4 at *
            have hl7 : (ts ++ [w]).length = i + 1 := by rw [List.length_append, hlen]; rfl
            refine ⟨_, rfl, T, _, rfl, .inl (SqL.of hT7), (by show 2 ≤ sizeLine; decide), fun t8 nt8 => ?_⟩
            rw [hl7]
            have e8 := Ex.new (o := .tup [V.str "out", .int ((i + 1 : Nat) : Int)]) nt8
            exact ⟨n, _, t8, _, _, rfl, ((c.trans (c6.sub (by simp))).trans c7).trans (Ch.of e8), ((k.trans k6).trans k7).trans (tk_ex e8), A7.ex e8, hts, e8 _ _ hT7, hl7, upd_same⟩
          · rw [hpa] at hp
            have hn := doN_at htk hd1 hp
            have A6 := A5.ex e3
            have hB3 : H3 B = some (.lst xs) := e3 _ _ (c _ _ (by simp [Ne.symm nls, nBT]) hB)
            have k3' := k.trans (tk_ex e3)
            have ht3 := e3 _ _ ht5
            refine doFin_ok hT A6 hB3 (pmono mon_pst k3' A4.prd) (Ne.symm nlg) (by rw [List.length_append]; simp; omega) (fun hk H7 c7 k7 A7 => ?_) (fun hk H7 c7 k7 A7 => ?_)
            · refine q2 (by omega) cls dd H7 hcls ?_
              rw [hn]
              have hw : whole = true := by
                cases whole
                · rw [← hkv] at hk; cases hk
                · rfl
              rw [if_pos hw, List.append_nil]
              refine ⟨fin c7 (c.trans (Ch.of e3)), (k4H.trans k3').trans k7, B, _, _, t, .inr nHB, A7, by simp, by simp, k7 _ _ rfl ht3⟩
            · refine q2 (by omega) cls dd H7 hcls ?_
              rw [hn]
              have hw : whole = false := by
                cases whole
                · rfl
                · exact absurd hkv.symm hk
              rw [if_neg (by rw [hw]; simp)]
              exact ⟨fin c7 (c.trans (Ch.of e3)), (k4H.trans k3').trans k7, ls, _, _, t, .inl rfl, A7, by simp, by simp, k7 _ _ rfl ht3⟩
        · obtain ⟨n, d, t, xs', ts, rfl, c, k, A5, htk, hT5, hlen, ht5⟩ := h
          rw [hdl, List.take_length] at htk
          rw [hdl, List.take_length] at A5
          rw [hdl] at ht5
          have hB3 : H2 B = some (.lst xs) := c _ _ (by simp [Ne.symm nls, nBT]) hB
          refine doFin_ok (D := { nx := _, rt := _ }) hT A5 hB3 (pmono mon_pst k A4.prd) (Ne.symm nlg) (by rw [List.length_append]; simp; omega) (fun hk => nomatch hk) (fun hk H7 c7 k7 A7 => ?_)
          exact ⟨_, rfl, q1 (doN_all htk) _ H7 ⟨fin c7 c, (k4H.trans k).trans k7, ls, _, _, t, .inl rfl, A7, by simp, by simp, k7 _ _ rfl ht5⟩⟩
  · obtain ⟨oc, od, dV, kV, doc, pm, an, cdv, ct, osl, rfl, lk, hcd, hD, hK⟩ := F.ex
    rcases hD with ⟨_, rfl⟩ | ⟨e, _⟩
    · match us, ws, h1, h2 with
      | [_, _], [_], _, _ => exact .of_eq rfl
    · exact absurd rfl e
end
end Sh
/-! Library(..), may. -/
namespace Sh
open PySem PySem.Spec PyProof.Rows L2
abbrev scInit_N : List Str := ["self", "standing", "lent"]
abbrev scInit_P : List Str := ["self", "standing", "lent"]
abbrev scInit_S : Scope := defScope sInit
theorem scInit : FnScope scInit_N scInit_P (defScope sInit) := ⟨rfl, rfl, rfl, by decide +kernel, rfl, by decide +kernel, by decide +kernel⟩
abbrev scMay_N : List Str := ["self", "standing", "out", "lent", "taken", "found", "kind", "many", "shelf", "place"]
abbrev scMay_P : List Str := ["self"]
abbrev scMay_S : Scope := defScope sMay
theorem scMay : FnScope scMay_N scMay_P (defScope sMay) := ⟨rfl, rfl, rfl, by decide +kernel, rfl, by decide +kernel, by decide +kernel⟩
def spInit (K : PySem.W.Frag) : Sp := fun vs H Q _ => ∃ (x dx : Addr) (v : V) (st : Std) (n : Int), vs = [.ref x, v, .int n] ∧ H x = some (.ins (LC K) dx []) ∧ StV H v st ∧
  ∀ H' ls lg t, Ch [x] H H' → Tk H H' → LibAt K H' x dx ls lg [t] [⟨st, [], n, 0⟩] [] → H ls = none → H lg = none → Q .non H'
structure MkD (P : Program) (w : World) (K : PySem.W.Frag) (mg : Str → Option Value) (base : Heap) (CX : CXT) (k : Nat) (C f : Addr) (ps : List Str) (sp : Sp) : Prop where
  ex : ∃ fd, FnOk P w K mg base CX k f fd ps sp ∧ Binds K fd ps []
  cl : Mk K C f
def mayT (p : PSt) : List Deed := if sumR p.out < p.ln then (allSp p.st).map fun q => Deed.take (q.1 : Nat) (q.2 : Nat) else []
def mayP (p : PSt) (r : Run) : List Deed := (spotsOf p.st r.1).map fun q => Deed.put r.1 (q.1 : Nat) (q.2 : Nat)
def mayE (p : PSt) (r : Run) : List Deed := if manyOf p.st r.1 = 0 then (List.range p.st.length).map fun i => Deed.fin r.1 (i : Nat) else []
def mayOf (p : PSt) : List Deed := mayT p ++ p.out.flatMap (mayP p) ++ p.out.flatMap (mayE p)
def spMay (K : PySem.W.Frag) : Sp := fun vs H Q _ => ∃ (L dx ls lg : Addr) (xs : List V) (v : V) (p : PSt), vs = [.ref L] ∧ Cur K H L dx ls lg xs v p ∧ PInv p ∧
  ∀ H' D ys, Ex H H' → H D = none → H' D = some (.lst ys) → Paired (DeedV H') ys (mayOf p) → Q (.ref D) H'
theorem PInv.size {p : PSt} (h : PInv p) : p.st.length ≤ 10 ∧ p.st.flatten.length ≤ 60 ∧ p.out.length ≤ 60 := by
  obtain ⟨s, R, W⟩ := h
  have h1 := flat_total W.pos
  have h2 := W.bd
  have h3 := W.len
  have h4 := len_le_sum R.pos
  have h5 := R.sum
  have h6 := total_nonneg W.pos
  unfold Sh.bd at h2
  rw [R.st]
  refine ⟨h3, ?_, ?_⟩ <;> omega
theorem flatMap_take {α β : Type} {f : α → List β} {l : List α} {i : Nat} {x : α} (h : l[i]? = some x) : (l.take (i + 1)).flatMap f = (l.take i).flatMap f ++ f x := by
  rw [take_more h, List.flatMap_append]
  simp
theorem flatMap_len {α β : Type} {f : α → List β} {n : Nat} : ∀ {l : List α}, (∀ x ∈ l, (f x).length ≤ n) → (l.flatMap f).length ≤ l.length * n
  | [], _ => by simp
  | x :: l, h => by
    have h1 := h x List.mem_cons_self
    have h2 := flatMap_len (l := l) fun y hy => h y (List.mem_cons_of_mem _ hy)
    rw [List.flatMap_cons, List.length_append, List.length_cons, Nat.succ_mul]
    omega
section
variable {P : Program} {w : World} {K : PySem.W.Frag} {mg : Str → Option Value} {base : Heap}
theorem d_init (hT : Txt w K mg) : MkD P w K mg base CX0 1 (LC K) (He.ma K (LC K) "__init__") scInit_P (spInit K) := by
  obtain ⟨fd, F⟩ := hT.def_ (mD "Library" "__init__" "Library.__init__" sInit [.int 1] []) (by simp [fn])
  refine ⟨⟨fd, FunD.ok F scInit (fun vs H Q E h => by obtain ⟨x, dx, v, st, n, rfl, _⟩ := h; rfl) (fun cdv A outer s H vs Q E hr h => ?_), ?_⟩, hT.mk1⟩
  · refine' ⟨_, PSs.nox ?walk, ?read⟩
    case walk => exact (
      (pss_cons (ps_fld (pv 0) (pe_lst (pa_cons (pe_tup (pa_cons (pe_callTy cr_tupN (by rfl) (hT.free "tuple" (by decide +kernel)) (by decide +kernel) (pa_cons (pv 1) pa_nil)) (pa_cons (pe_tupN pa_nil) (pa_cons (pv 2) (pa_cons pe_int pa_nil))))) pa_nil)) rfl)
      (pss_one (ps_fld (pv 0) (pe_lst pa_nil) rfl)))
      )
    case read =>
      obtain ⟨x, dx, v, st, n, rfl, hx, ⟨a, ws, rfl, rd, hp⟩, q⟩ := h
      refine ⟨_, rfl, a, ws, rfl, .inr ⟨rd_sq rd, Nat.zero_le _, fun e o ne ho => ⟨_, rfl, (by show 4 ≤ sizeLine; decide), fun t nt => ⟨(by show 1 ≤ sizeLine; decide), fun ls nls => ?_⟩⟩⟩⟩
      have e1 := Ex.new (o := HO.frz o (.tup [])) ne
      have h1 : DN (upd H e (HO.frz o (.tup []))) e [] := DN.new ho
      generalize upd H e (HO.frz o (.tup [])) = G1 at *
      have e2 := Ex.new (o := .tup [V.ref a, .ref e, .int n, .int 0]) nt
      have h2 : upd G1 t (.tup [V.ref a, .ref e, .int n, .int 0]) t = some (.tup [V.ref a, .ref e, .int n, .int 0]) := upd_same
      have h12 := (tk_ex e2).dn h1
      generalize upd G1 t (.tup [V.ref a, .ref e, .int n, .int 0]) = G2 at *
      have e3 := Ex.new (o := .lst [V.ref t]) nls
      have h3 : upd G2 ls (.lst [V.ref t]) ls = some (.lst [V.ref t]) := upd_same
      have h13 := (tk_ex e3).dn h12
      have h23 := e3 _ _ h2
      have nHls : H ls = none := (e1.trans e2).nn nls
      generalize upd G2 ls (.lst [V.ref t]) = G3 at *
      have eH := (e1.trans e2).trans e3
      have hx3 := eH _ _ hx
      refine ⟨_, rfl, x, LC K, dx, [], rfl, hx3, hT.cl, hT.nS, (by show 0 < 1000; decide), ?_⟩
      have k4 : Tk G3 (upd G3 x (.ins (LC K) dx (putF "own_states" (.ref ls) []))) := tk_upd hx3 rfl
      have c4 : Ch [x] G3 (upd G3 x (.ins (LC K) dx (putF "own_states" (.ref ls) []))) := Ch.upd (by simp)
      have hx4 : upd G3 x (.ins (LC K) dx (putF "own_states" (.ref ls) [])) x = some (.ins (LC K) dx (putF "own_states" (.ref ls) [])) := upd_same
      generalize upd G3 x (.ins (LC K) dx (putF "own_states" (.ref ls) [])) = G4 at *
      have nxl : ls ≠ x := ne_of h3 hx3 (fun z => nomatch z)
      have h34 := c4 _ _ (by simp [nxl]) h3
      refine ⟨Nat.zero_le _, fun lg nlg => ?_⟩
      have e5 := Ex.new (o := .lst []) nlg
      have h35 := e5 _ _ h34
      have hx5 := e5 _ _ hx4
      have hl5 : upd G4 lg (.lst []) lg = some (.lst []) := upd_same
      have nlgx : lg ≠ x := (ne_of_none hx4 nlg).symm
      have nHlg : H lg = none := by
        cases hh : H lg with
        | none => rfl
        | some oo => exact absurd (c4 _ _ (by simp [nlgx]) (eH _ _ hh)) (by rw [nlg]; simp)
      have k5 := (k4.trans (tk_ex e5))
      generalize upd G4 lg (.lst []) = G5 at *
      refine ⟨_, rfl, x, LC K, dx, _, rfl, hx5, hT.cl, hT.nL, (by show 1 < 1000; decide), ?_⟩
      rw [lF_new]
      have k6 : Tk G5 (upd G5 x (.ins (LC K) dx (lF ls lg))) := tk_upd hx5 rfl
      have kH := ((tk_ex eH).trans k5).trans k6
      have k36 := k5.trans k6
      refine q _ ls lg (.ref t) (((Ch.of eH).trans c4).trans ((Ch.of e5).trans (Ch.upd (by simp)))) kH ⟨upd_same, by rw [upd_ne nxl]; exact h35, .cons ⟨t, .ref a, .ref e, rfl, .inl (k36 _ _ rfl h23), ⟨a, ws, rfl, kH.rd rd, pmono mon_sh kH hp⟩, ⟨e, [], rfl, k36.dn h13, .nil⟩⟩ .nil, by rw [upd_ne nlgx]; exact hl5, ?_⟩ nHls nHlg
      exact fun z => by rw [← z, h34] at nlg; cases nlg
  · obtain ⟨ds, hd, hb⟩ := FunD.binds1 (ps := scInit_P) F 3 1 (fun z => nomatch z) rfl (fun T kV doc pm an cdv ct us its h1 h2 => by
      match us, its, h1, h2 with
      | [_, _, _], [_], _, _ => exact ⟨_, rfl, rfl⟩)
    cases hd
    exact hb
theorem grow {H H1 : Hp} {D t : Addr} {ys zs : List V} (e : Ex H H1) (nD : H D = none) (hD : H1 D = some (.lst ys)) (nt : H1 t = none) :
    (upd H1 t (.tup zs)) D = some (.lst ys) ∧ Ex H (upd (upd H1 t (.tup zs)) D (.lst (ys ++ [.ref t]))) ∧ Tk H1 (upd (upd H1 t (.tup zs)) D (.lst (ys ++ [.ref t]))) ∧
    (upd (upd H1 t (.tup zs)) D (.lst (ys ++ [.ref t]))) D = some (.lst (ys ++ [.ref t])) ∧ (upd (upd H1 t (.tup zs)) D (.lst (ys ++ [.ref t]))) t = some (.tup zs) := by
  have hDt : D ≠ t := ne_of_none hD nt
  have h1 : (upd H1 t (.tup zs)) D = some (.lst ys) := by rw [upd_ne hDt]; exact hD
  exact ⟨h1, (e.trans (Ex.new nt)).mut nD, (tk_new nt).mut h1 rfl, upd_same, by rw [upd_ne (Ne.symm hDt)]; exact upd_same⟩
def mayRest (K : PySem.W.Frag) : TS := tSeq (tFor (iTup K (tVar 2)) (gTup K 2 (gCons (gName 6) (gCons (gName 7) gNil)))
    (tAug 5 (tLc (iList K (tCall (spSpotsOf K) [] E0 (tCons (tVar 1) (tCons (tVar 6) tNil)))) (gTup K 2 (gCons (gName 8) (gCons (gName 9) gNil))) tYes (tTup (tCons (tC (.str "put")) (tCons (tVar 6) (tCons (tVar 8) (tCons (tVar 9) tNil))))) [8, 9]) rExt2))
  (tSeq (tFor (iTup K (tVar 2)) (gTup K 2 (gCons (gName 6) (gCons (gName 7) gNil)))
    (tIfS (tTest (tOp rEq (tCall (spManyOf K) [] E0 (tCons (tVar 1) (tCons (tVar 6) tNil))) (tC (.int 0))))
      (tAug 5 (tLc (iRng1 (tCons (tCB (fun xs H Q => ∃ p ys, xs = [V.ref p] ∧ (SqL K H p ys ∨ SqT K H p ys) ∧ Q (.int ys.length) H) (tCons (tVar 1) tNil)) tNil)) (gName 8) tYes (tTup (tCons (tC (.str "end")) (tCons (tVar 6) (tCons (tVar 8) tNil)))) [8]) rExt2) tNext))
  (tRet (tVar 5)))
theorem mayRest_ok {D : Ends} {H0 H : Hp} {p : PSt} {v0 v1 v2 v3 v4 : V} {F : Addr} {ys : List V} (hi : PInv p) (h1 : StV H0 v1 p.st) (h2 : OutV H0 v2 p.out) (e0 : Ex H0 H) (nF : H0 F = none) (hF : H F = some (.lst ys)) (hy : Paired (DeedV H) ys (mayT p))
    (q : ∀ H' ys', Ex H0 H' → H' F = some (.lst ys') → Paired (DeedV H') ys' (mayOf p) → D.rt (.ref F) H') : mayRest K D [some v0, some v1, some v2, some v3, some v4, some (.ref F), none, none, none, none] H := by
  obtain ⟨z1, z2, z3⟩ := hi.size
  have hsm := hi.small
  obtain ⟨a2, os, rfl, dn, hos⟩ := h2
  have hol := plen hos
  have hal := allSp_len p.st
  have lT : (mayT p).length ≤ 60 := by
    unfold mayT
    split
    · rw [List.length_map]; omega
    · simp
  have lP : ∀ r, (mayP p r).length ≤ 60 := fun r => by
    unfold mayP spotsOf
    rw [List.length_map]
    have := List.length_filter_le (isKind p.st r.1) (allSp p.st)
    omega
  have lE : ∀ r, (mayE p r).length ≤ 60 := fun r => by
    unfold mayE
    split
    · rw [List.length_map, List.length_range]; omega
    · simp
  have lPs : ∀ i, ((p.out.take i).flatMap (mayP p)).length ≤ 3600 := fun i => by
    have a := flatMap_len (f := mayP p) (l := p.out.take i) fun x _ => lP x
    have b : (p.out.take i).length ≤ 60 := by rw [List.length_take]; omega
    have c : (p.out.take i).length * 60 ≤ 60 * 60 := Nat.mul_le_mul_right 60 b
    omega
  have lEs : ∀ i, ((p.out.take i).flatMap (mayE p)).length ≤ 3600 := fun i => by
    have a := flatMap_len (f := mayE p) (l := p.out.take i) fun x _ => lE x
    have b : (p.out.take i).length ≤ 60 := by rw [List.length_take]; omega
    have c : (p.out.take i).length * 60 ≤ 60 * 60 := Nat.mul_le_mul_right 60 b
    omega
  refine ⟨_, rfl, a2, rfl, ⟨_, ((tk_ex e0).dn dn).sq⟩, for_it (walk_tup (xs := os)) (fun i σ H' => ∃ k m ys, σ = [some v0, some v1, some (.ref a2), some v3, some v4, some (.ref F), k, m, none, none] ∧ Ex H0 H' ∧ H' F = some (.lst ys) ∧ Paired (DeedV H') ys (mayT p ++ (p.out.take i).flatMap (mayP p)))
    ⟨none, none, ys, rfl, e0, hF, by simpa using hy⟩ (fun i σ H' _ h => by obtain ⟨_, _, _, _, e, _⟩ := h; exact ((tk_ex e).dn dn).sq) (fun i x σ H' H2 hi' h y => ?_) (fun σ H' h => ?_)⟩
  · obtain ⟨rfl, hx⟩ := y
    obtain ⟨k, m, ys, rfl, e, hF, hys⟩ := h
    obtain ⟨r, hr, b, rfl, rb⟩ := pgetL hos hx
    have hyl := plen hys
    rw [List.length_append] at hyl
    have hl := lPs i
    refine ⟨b, _, rfl, rd_sq ((tk_ex e).rd rb), rfl, _, _, rfl, _, _, rfl, rfl, _, rfl, ?_⟩
    refine ⟨_, rfl, _, rfl, v1, p.st, r.1, rfl, mon_st _ _ _ _ (tk_ex e) h1, hsm, fun H2 S xs ex2 nS hS hxs => ⟨S, rfl, ⟨_, SqL.of hS⟩, fun D nD => loop_walk (walk_list (xs := xs)) (fun i H' => Ex H2 H' ∧ ∃ zs, H' D = some (.lst zs) ∧ Paired (DeedV H') zs (((spotsOf p.st r.1).take i).map fun q => Deed.put r.1 (q.1 : Nat) (q.2 : Nat)))
      ⟨Ex.new nD, [], upd_same, .nil⟩ (fun i H' _ h => h.1.sq (SqL.of hS)) (fun i x H' H3 hi h y => ?_) (fun H3 h => ?_)⟩⟩
    · obtain ⟨rfl, hx⟩ := y
      obtain ⟨e3, zs, hD, hzs⟩ := h
      obtain ⟨p0, hp0, c, rfl, rc⟩ := pgetL hxs hx
      have hzl := plen hzs
      have hlp := lP r
      unfold mayP at hlp
      rw [List.length_map] at hlp
      rw [List.length_map, List.length_take] at hzl
      refine ⟨c, _, rfl, rd_sq ((tk_ex e3).rd rc), rfl, _, _, rfl, _, _, rfl, rfl, rfl, _, rfl, _, rfl, _, rfl, (by show 4 ≤ sizeLine; decide), fun t nt => ?_⟩
      obtain ⟨g1, g2, g3, g4, g5⟩ := grow (zs := [.str "put", .str r.1, .int (p0.1 : Nat), .int (p0.2 : Nat)]) e3 nD hD nt
      refine ⟨zs, g1, small' (by omega), g2, _, g4, ?_⟩
      rw [take_more hp0, List.map_append]
      exact psnoc (pmono mon_deed g3 hzs) ⟨t, rfl, .inl g5⟩
    · obtain ⟨e3, zs, hD, hzs⟩ := h
      have hxl := plen hxs
      rw [hxl, List.take_length] at hzs
      have hF3 := e3 _ _ (ex2 _ _ hF)
      have hzl := plen hzs
      have hlp := lP r
      unfold mayP at hlp
      rw [List.length_map] at hlp hzl
      refine ⟨F, D, ys, zs, rfl, rfl, hF3, hD, small (by omega), _, _, _, rfl, (e.trans (ex2.trans e3)).mut nF, upd_same, ?_⟩
      rw [flatMap_take hr, ← List.append_assoc]
      have tk2 : Tk H3 (upd H3 F (.lst (ys ++ zs))) := tk_upd hF3 rfl
      exact papp (pmono mon_deed ((tk_ex (ex2.trans e3)).trans tk2) hys) (pmono mon_deed tk2 hzs)
  · obtain ⟨k, m, ys, rfl, e, hF, hys⟩ := h
    rw [hol, List.take_length] at hys
    refine ⟨_, rfl, a2, rfl, ⟨_, ((tk_ex e).dn dn).sq⟩, for_it (walk_tup (xs := os)) (fun i σ H' => ∃ k m ys, σ = [some v0, some v1, some (.ref a2), some v3, some v4, some (.ref F), k, m, none, none] ∧ Ex H0 H' ∧ H' F = some (.lst ys) ∧ Paired (DeedV H') ys (mayT p ++ p.out.flatMap (mayP p) ++ (p.out.take i).flatMap (mayE p)))
      ⟨k, m, ys, rfl, e, hF, by simpa using hys⟩ (fun i σ H' _ h => by obtain ⟨_, _, _, _, e, _⟩ := h; exact ((tk_ex e).dn dn).sq) (fun i x σ H' H2 hi' h y => ?_) (fun σ H' h => ?_)⟩
    · obtain ⟨rfl, hx⟩ := y
      obtain ⟨k, m, ys, rfl, e, hF, hys⟩ := h
      obtain ⟨r, hr, b, rfl, rb⟩ := pgetL hos hx
      have hyl := plen hys
      rw [List.length_append, List.length_append] at hyl
      have hl := lPs p.out.length
      rw [List.take_length] at hl
      have hl2 := lEs i
      refine ⟨b, _, rfl, rd_sq ((tk_ex e).rd rb), rfl, _, _, rfl, _, _, rfl, rfl, ?_⟩
      refine ⟨_, rfl, _, rfl, v1, p.st, r.1, rfl, mon_st _ _ _ _ (tk_ex e) h1, hsm, fun H2 ex2 => ⟨rfl, _, rfl, if_2 (fun cc => ?_) (fun cc => ?_)⟩⟩
      · have em : mayE p r = (List.range p.st.length).map fun i => Deed.fin r.1 (i : Nat) := if_pos (by have := of_decide_eq_true cc; simpa using this)
        obtain ⟨a1, ws, rfl, rd1, hws⟩ := h1
        have hwl := plen hws
        refine ⟨_, rfl, _, rfl, a1, ws, rfl, .inr (rd_sq ((tk_ex (e.trans ex2)).rd rd1)), _, rfl, by omega, by omega, fun D nD => loop_walk (walk_range (lo := 0) (n := ((ws.length : Nat) : Int).toNat)) (fun i H' => Ex H2 H' ∧ ∃ zs, H' D = some (.lst zs) ∧ Paired (DeedV H') zs ((List.range i).map fun i => Deed.fin r.1 (i : Nat)))
          ⟨Ex.new nD, [], upd_same, .nil⟩ (fun _ _ _ _ => trivial) (fun i x H' H3 hi h y => ?_) (fun H3 h => ?_)⟩
        · obtain ⟨rfl, rfl⟩ := y
          obtain ⟨e3, zs, hD, hzs⟩ := h
          have hzl := plen hzs
          rw [List.length_map, List.length_range] at hzl
          refine ⟨rfl, _, rfl, _, rfl, (by show 3 ≤ sizeLine; decide), fun t nt => ?_⟩
          obtain ⟨g1, g2, g3, g4, g5⟩ := grow (zs := [.str "end", .str r.1, .int (0 + (i : Nat))]) e3 nD hD nt
          refine ⟨zs, g1, small' (by omega), g2, _, g4, ?_⟩
          rw [List.range_succ, List.map_append]
          have ee : (0 : Int) + ((i : Nat) : Int) = ((i : Nat) : Int) := Int.zero_add _
          refine psnoc (pmono mon_deed g3 hzs) ⟨t, rfl, .inl ?_⟩
          exact g5.trans (by rw [ee]; rfl)
        · obtain ⟨e3, zs, hD, hzs⟩ := h
          have en : ((ws.length : Nat) : Int).toNat = p.st.length := by omega
          rw [en, ← em] at hzs
          have hF3 := e3 _ _ (ex2 _ _ hF)
          have hzl := plen hzs
          have hlp := lE r
          refine ⟨F, D, ys, zs, rfl, rfl, hF3, hD, small (by omega), _, _, _, rfl, (e.trans (ex2.trans e3)).mut nF, upd_same, ?_⟩
          rw [flatMap_take hr, ← List.append_assoc]
          have tk2 : Tk H3 (upd H3 F (.lst (ys ++ zs))) := tk_upd hF3 rfl
          exact papp (pmono mon_deed ((tk_ex (ex2.trans e3)).trans tk2) hys) (pmono mon_deed tk2 hzs)
      · have em : mayE p r = [] := if_neg (by have := of_decide_eq_false cc; simpa using this)
        refine ⟨_, _, ys, rfl, e.trans ex2, ex2 _ _ hF, ?_⟩
        rw [flatMap_take hr, em, List.append_nil]
        exact pmono mon_deed (tk_ex ex2) hys
    · obtain ⟨k, m, ys, rfl, e, hF, hys⟩ := h
      rw [hol, List.take_length] at hys
      exact ⟨_, rfl, q _ _ e hF hys⟩
theorem d_may (hT : Txt w K mg) : Mth P w K mg base CX0 3 "may" scMay_P (spMay K) := by
  have d_now := d_now (P := P) (base := base) hT
  have d_many_out := d_many_out (P := P) (base := base) hT
  have d_all_spots := d_all_spots (P := P) (base := base) hT
  have d_spots_of := d_spots_of (P := P) (base := base) hT
  have d_many_of := d_many_of (P := P) (base := base) hT
  refine Mth.of hT (q := "Library.may") (st := sMay) (by simp [fn]) (by decide +kernel) scMay (fun _ _ _ _ _ _ us hl => match us, hl with | [_], _ => rfl) (fun vs H Q E h => by obtain ⟨L, dx, ls, lg, xs, v, p, rfl, _⟩ := h; rfl) fun cdv A outer s H vs Q E hr h => ?_
  refine' ⟨_, PSs.nox ?walk, ?read⟩
  case walk => exact (
    (pss_cons (ps_asg (pe_me0 d_now hr hT.cl (pv 0)) (pg_tup rfl (pgs_cons (pg_name (i := 1) scMay.nd rfl (Or.inl rfl)) (pgs_cons (pg_name (i := 2) scMay.nd rfl (Or.inl rfl)) (pgs_cons (pg_name (i := 3) scMay.nd rfl (Or.inl rfl)) (pgs_cons (pg_name (i := 4) scMay.nd rfl (Or.inl rfl)) pgs_nil))))))
    (pss_cons (ps_set (i := 5) scMay.nd rfl (Or.inl rfl) (pe_lst pa_nil))
    (pss_cons (ps_if (pt_cmpR op_lt (pe_fn d_many_out hr (pa_cons (pv 2) pa_nil)) (pv 3) (nomark _))
    (pss_one (ps_setLc (i := 5) (own := [("shelf", 8), ("place", 9)]) rfl scMay.nd rfl rfl (sw_true rfl rfl rfl (by decide +kernel)) (pi_list (pe_fn d_all_spots hr (pa_cons (pv 1) pa_nil))) (blkOk_by (N := scMay_N) (sc := scMay_S) (by decide +kernel)) (fun _ _ _ _ _ => (pg_tupK (n := 2) K rfl (pgs_cons (pg_name (i := 8) scMay.nd rfl (Or.inl rfl)) (pgs_cons (pg_name (i := 9) scMay.nd rfl (Or.inl rfl)) pgs_nil)))) (fun _ _ _ _ _ => pts_nil) (fun _ _ _ _ _ => (pe_tup (pa_cons (pe_con hT "TAKE" "take") (pa_cons (pv 8) (pa_cons (pv 9) pa_nil)))))))
    pss_nil)
    (pss_cons (ps_for PassesOwn.never rfl (pi_tup (pv 2)) (pg_tup rfl (pgs_cons (pg_name (i := 6) scMay.nd rfl (Or.inr rfl)) (pgs_cons (pg_name (i := 7) scMay.nd rfl (Or.inl rfl)) pgs_nil)))
    (pss_one (ps_aug (i := 5) scMay.nd rfl (Or.inl rfl) (pe_lc (own := [("shelf", 8), ("place", 9)]) rfl scMay.nd (pi_list (pe_fn d_spots_of hr (pa_cons (pv 1) (pa_cons (pv 6) pa_nil)))) (blkOk_by (N := scMay_N) (sc := scMay_S) (by decide +kernel)) (fun _ _ _ _ _ => (pg_tupK (n := 2) K rfl (pgs_cons (pg_name (i := 8) scMay.nd rfl (Or.inl rfl)) (pgs_cons (pg_name (i := 9) scMay.nd rfl (Or.inl rfl)) pgs_nil)))) (fun _ _ _ _ _ => pts_nil) (fun _ _ _ _ _ => (pe_tup (pa_cons (pe_con hT "PUT" "put") (pa_cons (pv 6) (pa_cons (pv 8) (pa_cons (pv 9) pa_nil))))))) iop_ext)))
    (pss_cons (ps_for PassesOwn.never rfl (pi_tup (pv 2)) (pg_tup rfl (pgs_cons (pg_name (i := 6) scMay.nd rfl (Or.inr rfl)) (pgs_cons (pg_name (i := 7) scMay.nd rfl (Or.inl rfl)) pgs_nil)))
    (pss_one (ps_if (pt_cmpR op_eq (pe_fn d_many_of hr (pa_cons (pv 1) (pa_cons (pv 6) pa_nil))) pe_int (nomark _))
    (pss_one (ps_aug (i := 5) scMay.nd rfl (Or.inl rfl) (pe_lc (own := [("shelf", 8)]) rfl scMay.nd (pi_range1 (by rfl) (hT.free "range" (by decide +kernel)) (pa_cons (pe_callB call_len_seq (by rfl) (hT.free "len" (by decide +kernel)) boot_len (pa_cons (pv 1) pa_nil)) pa_nil)) (blkOk_by (N := scMay_N) (sc := scMay_S) (by decide +kernel)) (fun _ _ _ _ _ => (pg_name (i := 8) scMay.nd rfl (Or.inl rfl))) (fun _ _ _ _ _ => pts_nil) (fun _ _ _ _ _ => (pe_tup (pa_cons (pe_con hT "END" "end") (pa_cons (pv 6) (pa_cons (pv 8) pa_nil)))))) iop_ext))
    pss_nil)))
    (pss_one (ps_ret (pv 5))))))))
    )
  case read =>
    obtain ⟨L, dx, ls, lg, xs, v, p, rfl, c, hi, q⟩ := h
    obtain ⟨a, v1, v2, rfl, rd, h1, h2⟩ := c.p
    obtain ⟨z1, z2, z3⟩ := hi.size
    have hsm := hi.small
    have hal := allSp_len p.st
    refine ⟨_, rfl, L, dx, _, rfl, c.ins, lF_m, L, dx, ls, lg, xs, _, p, rfl, c, a, _, rfl, rd_sq rd, rfl, _, _, rfl, _, _, rfl, _, _, rfl, _, _, rfl, rfl, Nat.zero_le _, fun F nF => ?_⟩
    have e1 := Ex.new (o := .lst []) nF
    have hF : upd H F (.lst []) F = some (.lst []) := upd_same
    generalize upd H F (.lst []) = G at *
    have e1' := fun {H2 : Hp} (x : Ex G H2) => e1.trans x
    refine ⟨_, rfl, v2, p.out, rfl, mon_out _ _ _ _ (tk_ex e1) h2, hi.olen, fun H1 x1 => ?_⟩
    have ex1 := e1.trans x1
    refine ⟨_, rfl, _, _, rfl, rfl, _, rfl, if_2 (fun cc => ?_) (fun cc => ?_)⟩
    · refine ⟨_, rfl, v1, p.st, rfl, mon_st _ _ _ _ (tk_ex ex1) h1, hsm, fun H2 S xs ex2 nS hS hxs => ⟨S, rfl, ⟨_, SqL.of hS⟩, fun D nD => loop_walk (walk_list (xs := xs)) (fun i H' => Ex H2 H' ∧ ∃ ys, H' D = some (.lst ys) ∧ Paired (DeedV H') ys (((allSp p.st).take i).map fun q => Deed.take (q.1 : Nat) (q.2 : Nat)))
        ⟨Ex.new nD, [], upd_same, .nil⟩ (fun i H' _ h => h.1.sq (SqL.of hS)) (fun i x H' H3 hi h y => ?_) (fun H' h => ?_)⟩⟩
      · obtain ⟨rfl, hx⟩ := y
        obtain ⟨e3, ys, hD, hys⟩ := h
        obtain ⟨p0, hp0, b, rfl, rb⟩ := pgetL hxs hx
        have hyl := plen hys
        rw [List.length_map, List.length_take] at hyl
        refine ⟨b, _, rfl, rd_sq ((tk_ex e3).rd rb), rfl, _, _, rfl, _, _, rfl, rfl, rfl, _, rfl, _, rfl, (by show 3 ≤ sizeLine; decide), fun t nt => ?_⟩
        obtain ⟨g1, g2, g3, g4, g5⟩ := grow (zs := [.str "take", .int (p0.1 : Nat), .int (p0.2 : Nat)]) e3 nD hD nt
        refine ⟨ys, g1, small' (by omega), g2, _, g4, ?_⟩
        rw [take_more hp0, List.map_append]
        exact psnoc (pmono mon_deed g3 hys) ⟨t, rfl, .inl g5⟩
      · obtain ⟨e3, ys, hD, hys⟩ := h
        have hxl := plen hxs
        rw [hxl, List.take_length] at hys
        have e4 := ex1.trans (ex2.trans e3)
        have em : mayT p = (allSp p.st).map fun q => Deed.take (q.1 : Nat) (q.2 : Nat) := if_pos (of_decide_eq_true cc)
        rw [← em] at hys
        exact mayRest_ok hi h1 h2 e4 ((ex1.trans ex2).nn nD) hD hys (fun H' ys' e5 hF' hy' => q _ _ _ e5 ((ex1.trans ex2).nn nD) hF' hy')
    · have em : mayT p = [] := if_neg (of_decide_eq_false cc)
      refine mayRest_ok hi h1 h2 ex1 nF (x1 _ _ hF) ?_ (fun H' ys' e5 hF' hy' => q _ _ _ e5 nF hF' hy')
      rw [em]
      exact .nil
end
end Sh
/-! Library's == and !=; lists and tuples against the empty one. -/
namespace Sh
open PySem PySem.Spec PyProof.Rows L2
abbrev scEq_N : List Str := ["self", "other"]
abbrev scEq_P : List Str := ["self", "other"]
abbrev scEq_S : Scope := defScope sEq
theorem scEq : FnScope scEq_N scEq_P (defScope sEq) := ⟨rfl, rfl, rfl, by decide +kernel, rfl, by decide +kernel, by decide +kernel⟩
def LibEq (K : PySem.W.Frag) (a b : Addr) (H : Hp) : Prop := ∃ (dx ls lg dx' ls' lg' : Addr) (xs xs' : List V) (v v' : V) (p : PSt), Cur K H a dx ls lg xs v p ∧ Cur K H b dx' ls' lg' xs' v' p
/-! ### own == -/
def D1 (K : PySem.W.Frag) : L2.Eqv := fun x y H => DTup K DFlat x y H ∨ DFlat x y H
def D2 (K : PySem.W.Frag) : L2.Eqv := fun x y H => DTup K (D1 K) x y H ∨ D1 K x y H
def D3 (K : PySem.W.Frag) : L2.Eqv := fun x y H => DTup K (D2 K) x y H ∨ D2 K x y H
section
variable {X : Cx}
theorem m1 {K : PySem.W.Frag} : L2.Mon (D1 K) := (L2.mon_tup mon_flat).or mon_flat
theorem m2 {K : PySem.W.Frag} : L2.Mon (D2 K) := (L2.mon_tup m1).or m1
theorem m3 {K : PySem.W.Frag} : L2.Mon (D3 K) := (L2.mon_tup m2).or m2
theorem e1 : EqG X 1 (D1 X.K) := (eqG_tup mon_flat eqG_flat).or (eqG_flat.mono (by omega))
theorem e2 : EqG X 2 (D2 X.K) := (eqG_tup m1 e1).or (e1.mono (by omega))
theorem e3 : EqG X 3 (D3 X.K) := (eqG_tup m2 e2).or (e2.mono (by omega))
theorem rc4 : RcG X 4 (DTup X.K (D3 X.K)) := rcG_tup m3 e3
end
theorem flat_str (k : Str) (H : Hp) : DFlat (.str k) (.str k) H := ⟨rfl, rfl, by simp [eqV]⟩
theorem flat_int (i : Int) (H : Hp) : DFlat (.int i) (.int i) H := ⟨rfl, rfl, by simp [eqV]⟩
theorem prs_of {α : Type} {R : Hp → V → α → Prop} {D : L2.Eqv} {H : Hp} (h : ∀ u v x, R H u x → R H v x → D u v H) : ∀ {vs ws : List V} {l : List α}, Paired (R H) vs l → Paired (R H) ws l → Prs D vs ws H
  | _, _, _, .nil, .nil => Prs.nil
  | _, _, _, .cons a b, .cons c d => Prs.cons (h _ _ _ a c) (prs_of h b d)
theorem eq_run {K : PySem.W.Frag} {H : Hp} {u v : V} {r : Run} (a : RunV H u r) (b : RunV H v r) : DTup K DFlat u v H := by
  obtain ⟨a, rfl, ra⟩ := a
  obtain ⟨b, rfl, rb⟩ := b
  exact ⟨a, b, _, _, rfl, rfl, rd_sq ra, rd_sq rb, .cons (flat_str _ _) (.cons (flat_int _ _) .nil)⟩
theorem eq_sh {K : PySem.W.Frag} {H : Hp} {u v : V} {r : Shf} (a : ShV H u r) (b : ShV H v r) : DTup K (D1 K) u v H := by
  obtain ⟨a, vs, rfl, ra, hp⟩ := a
  obtain ⟨b, ws, rfl, rb, hq⟩ := b
  exact ⟨a, b, _, _, rfl, rfl, rd_sq ra, rd_sq rb, prs_of (fun _ _ _ h1 h2 => .inl (eq_run h1 h2)) hp hq⟩
theorem eq_out {K : PySem.W.Frag} {H : Hp} {u v : V} {r : List Run} (a : OutV H u r) (b : OutV H v r) : DTup K (D1 K) u v H := eq_sh a.tup b.tup
theorem eq_st {K : PySem.W.Frag} {H : Hp} {u v : V} {r : Std} (a : StV H u r) (b : StV H v r) : DTup K (D2 K) u v H := by
  obtain ⟨a, vs, rfl, ra, hp⟩ := a
  obtain ⟨b, ws, rfl, rb, hq⟩ := b
  exact ⟨a, b, _, _, rfl, rfl, rd_sq ra, rd_sq rb, prs_of (fun _ _ _ h1 h2 => .inl (eq_sh h1 h2)) hp hq⟩
theorem insB_ok {w : World} {K : PySem.W.Frag} {mg : Str → Option Value} (T : Txt w K mg) : insB K (LC K) = true := (He.ba (He.ba (He.ba (He.ba T.more).2).2).2).2
theorem libB_ok {w : World} {K : PySem.W.Frag} {mg : Str → Option Value} (T : Txt w K mg) : libB K = true := (He.ba (He.ba T.more).2).1
theorem kit_ok {w : World} {K : PySem.W.Frag} {mg : Str → Option Value} (T : Txt w K mg) : PySem.W.kitOne K (.ref (LC K)) (.ref (LC K)) = some true := of_decide_eq_true (He.ba (He.ba (He.ba T.more).2).2).1
theorem ty_ins {w : World} {K : PySem.W.Frag} {mg : Str → Option Value} (T : Txt w K mg) {H : Hp} {a dx : Addr} {fs : List (Str × V)} (h : H a = some (.ins (LC K) dx fs)) : TyX K H (.ref a) (.ref (LC K)) := by
  have b := insB_ok T
  unfold insB at b
  obtain ⟨b1, b2⟩ := He.ba b
  obtain ⟨b2, b3⟩ := He.ba b2
  obtain ⟨b3, b4⟩ := He.ba b3
  exact .base (.ins h T.cl (He.eqO_ok b1) (He.eqO_ok b2) (of_decide_eq_true b3) (of_decide_eq_true b4))
section
variable {P : Program} {w : World} {K : PySem.W.Frag} {mg : Str → Option Value} {base : Heap}
theorem d_eq (hT : Txt w K mg) : Mth P w K mg base CX0 5 "__eq__" scEq_P (spEq (LibEq K)) := by
  have d_now := d_now (P := P) (base := base) hT
  refine Mth.of hT (q := "Library.__eq__") (st := sEq) (by simp [fn]) (by decide +kernel) scEq (fun _ _ _ _ _ _ us hl => match us, hl with | [_, _], _ => rfl) (fun vs H Q E h => by obtain ⟨a, b, rfl, _⟩ := h; rfl) fun cdv A outer s H vs Q E hr h => ?_
  refine' ⟨_, PSs.nox ?walk, ?read⟩
  case walk => exact (
    (pss_one (ps_ret (pe_and (pe_callB call_isi (by rfl) (hT.free "isinstance" (by decide +kernel)) (by decide +kernel) (pa_cons (pv 1) (pa_cons (pe_glob (v := .ref (LC K)) (by rfl) (hT.glo "Library" (by decide +kernel)) rfl) pa_nil))) (pe_one (pe_cmpR (op_eqG rc4 hr) (pe_slice sl_tupN (pe_me0 d_now hr hT.cl (pv 0)) po_none (po_some pe_int)) (pe_slice sl_tupN (pe_me0 d_now hr hT.cl (pv 1)) po_none (po_some pe_int)) (nomark _))))))
    )
  case read =>
    obtain ⟨a, b, rfl, ⟨dx, ls, lg, dx', ls', lg', xs, xs', v, v', p, c, c'⟩, q⟩ := h
    obtain ⟨a1, v1, v2, rfl, rd, h1, h2⟩ := c.p
    obtain ⟨b1, w1, w2, rfl, rd', k1, k2⟩ := c'.p
    refine ⟨_, rfl, _, _, _, _, true, rfl, .own _, ty_ins hT c'.ins, kit_ok hT, _, rfl, if_t rfl ?_⟩
    refine ⟨_, rfl, a, dx, _, rfl, c.ins, lF_m, a, dx, ls, lg, xs, _, p, rfl, c, _, rfl, a1, _, rfl, rd_sq rd, fun z => absurd z.2 (by show ¬ HT.sIx 4 4 (some 3) = 4; decide), fun _ t o nt ho => ?_⟩
    have x1 := Ex.new (o := HO.frz o (.tup (cutV [v1, v2, V.int p.ln, V.int p.tk] none (some 3)))) nt
    have t1 : Rd (upd H t (HO.frz o (.tup (cutV [v1, v2, V.int p.ln, V.int p.tk] none (some 3))))) t (.tup [v1, v2, .int p.ln]) := .inr ⟨o, upd_same⟩
    generalize upd H t (HO.frz o (.tup (cutV [v1, v2, V.int p.ln, V.int p.tk] none (some 3)))) = G at *
    have c1 := c'.ex x1
    refine ⟨_, rfl, b, dx', _, rfl, c1.ins, lF_m, b, dx', ls', lg', xs', _, p, rfl, c1, _, rfl, b1, _, rfl, rd_sq ((tk_ex x1).rd rd'), fun z => absurd z.2 (by show ¬ HT.sIx 4 4 (some 3) = 4; decide), fun _ t2 o2 nt2 ho2 => ?_⟩
    have x2 := Ex.new (o := HO.frz o2 (.tup (cutV [w1, w2, V.int p.ln, V.int p.tk] none (some 3)))) nt2
    have t2' : Rd (upd G t2 (HO.frz o2 (.tup (cutV [w1, w2, V.int p.ln, V.int p.tk] none (some 3))))) t2 (.tup [w1, w2, .int p.ln]) := .inr ⟨o2, upd_same⟩
    generalize upd G t2 (HO.frz o2 (.tup (cutV [w1, w2, V.int p.ln, V.int p.tk] none (some 3)))) = G2 at *
    have x12 := x1.trans x2
    have k := tk_ex x12
    refine ⟨⟨t, t2, _, _, rfl, rfl, rd_sq ((tk_ex x2).rd t1), rd_sq t2', .cons (.inl (eq_st (mon_st _ _ _ _ k h1) (mon_st _ _ _ _ k k1))) (.cons (.inr (.inl (eq_out (mon_out _ _ _ _ k h2) (mon_out _ _ _ _ k k2)))) (.cons (.inr (.inr (.inr (flat_int _ _)))) .nil))⟩, fun H' e => q H' (x12.trans e)⟩
end
/-! ### a == b, a != b of two libraries -/
theorem ns_some_of {K : PySem.W.Frag} {h : Heap} {N : Addr} {mg : Str → Option Value} {n : Str} {v : Value} (X : K.In h) (G : h.Ns N mg) (e : PySem.W.nsIn K N n = some (some v)) : mg n = some v := by
  obtain ⟨o, es, ep, ho, hd, _, hf⟩ := G
  unfold PySem.W.nsIn at e
  split at e
  · rename_i c d es' n' sl q
    have := X _ _ q
    rw [ho] at this
    cases this
    cases hd
    split at e
    · rename_i en he
      cases e
      rw [← hf]
      unfold nsFind findBy
      rw [← Array.find?_toList, he]
      rfl
    · split at e <;> cases e
  · cases e
theorem ownNe {K : PySem.W.Frag} {h : Heap} {a f : Addr} {o : Obj} (B : libB K = true) (M : Meth K (LC K) "__eq__" f) (hf : f = He.ma K (LC K) "__eq__") (X : K.In h) (ha : h.get? a = some o) (hc : o.cls = .ref (LC K)) : h.OwnEqNoNe a (LC K) f "object" [.type "object"] := by
  unfold libB at B
  split at B
  · rename_i dd cd sl hl
    split at B
    · rename_i C' k0 k1 k2 k3 n k5 hm hs
      obtain ⟨b1, b2⟩ := He.ba B
      obtain ⟨b2, b3⟩ := He.ba b2
      obtain ⟨b3, b4⟩ := He.ba b3
      obtain ⟨b4, b5⟩ := He.ba b4
      have e1 : C' = LC K := beq_iff_eq.mp b1
      subst e1
      have hN := Heap.Ns.of_isNs (PySem.W.isNs_of_in X b3)
      have hfn : PySem.W.typeIn K (.ref f) = some (.type "function") := beq_iff_eq.mp M.fn
      have hfo : ∃ of, K.lookup f = some of ∧ of.cls = .type "function" := by
        have h2 : (K.lookup f).map (·.cls) = some (.type "function") := hfn
        cases q : K.lookup f with
        | none => rw [q] at h2; cases h2
        | some of => rw [q] at h2; exact ⟨of, rfl, Option.some.inj h2⟩
      obtain ⟨of, hof, hofc⟩ := hfo
      have hC := X _ _ hl
      have hsl : sl = #[k0, k1, k2, k3, some (.builtin n), k5] := by
        rw [← Array.toArray_toList (xs := sl), hs]
      obtain ⟨nm, bs, mro, ns, q, hdct, sn, sub, ab, col, hd⟩ := cd
      have hm' : mro = [.ref (LC K), .type "object"] := hm
      have hd' : hd = false := by
        have : (!hd) = true := b2
        simpa using this
      subst hm' hd' hsl
      refine ⟨o, of, nm, q, ns, bs, hdct, sn, sub, ab, col, dd, k0, k1, k2, k3, k5, n, _, _, ha, hc, hC, hN, ?_, X _ _ hof, hofc, PySem.F.cmp_object.mro, PySem.F.cmp_object.eq.lookup, ?_⟩
      · rw [hf]
        exact ns_some_of X hN (He.eqO_ok b4)
      · exact PySem.W.nsMap_none_of_in X b3 (He.eqO_ok b5)
    · cases B
  · cases B
/-- a != b, two libraries with one state -/
def rNeL (K : PySem.W.Frag) : R2 := fun x y H Q => ∃ a b dx dy fs gs, x = .ref a ∧ y = .ref b ∧ H a = some (.ins (LC K) dx fs) ∧ H b = some (.ins (LC K) dy gs) ∧ LibEq K a b H ∧ ∀ H', Ext H H' → Q (.bl false) H'
theorem op_neL {X : Cx} {ps : List Str} (hT : Txt X.w X.K X.mg) (d : Mth X.prog X.w X.K X.mg X.base CX0 5 "__eq__" ps (spEq (LibEq X.K))) (hr : Room 6 X.A) : OpR X (compareOp .NotEq) (rNeL X.K) := by
  intro pins s σ H x y v u Q I rx ry h
  obtain ⟨a, b, dx, dy, fs, gs, rfl, rfl, ha, hb', hq, q⟩ := h
  cases rx
  cases ry
  obtain ⟨fd, F, hb⟩ := d.ex
  obtain ⟨mA, J, _⟩ := ins_get I.hok ha
  obtain ⟨mB, J', _⟩ := ins_get I.hok hb'
  obtain ⟨od, J, _⟩ := J.look
  obtain ⟨od', J', _⟩ := J'.look
  have hsp : spEq (LibEq X.K) [.ref a, .ref b] H (fun v H' => v = .bl true ∧ Ext H H') E0 := ⟨a, b, rfl, hq, fun H' e => ⟨rfl, e⟩⟩
  have hr1 : Room 5 X.A.in1 := hr.in1
  have e0 : Env0 X.prog X.w X.K X.mg X.base X.A.in1 X.stack s H := by
    have e := I.env0
    exact ⟨e.frames, e.mod, e.bs, e.bsz, e.funs, e.frf, e.hok, e.bare⟩
  have hl := F.len _ _ _ _ hsp
  have r2 : Vals [V.ref a, V.ref b] [Value.ref a, Value.ref b] := .cons rfl (.cons rfl .nil)
  have hu := hr.units0
  refine compareOp_ne_ownEq PySem.F.cmp_object (ownNe (libB_ok hT) d.me rfl I.kIn J.at_ J.cls) J'.at_ J'.cls (by have := hr.un; omega) (wpAny_call (codeAny_mono (F.run X.A.in1 X.stack s H ⟨[.ref a, .ref b], []⟩ [.ref a, .ref b] [.ref a, .ref b] _ E0 hr1 e0 (by
    have := hb s [.ref a, .ref b] I.kIn (by simpa using hl)
    simpa using this) r2 hsp) fun r s' hq => ?_))
  cases r with
  | error e => exact (pass0 (X := X)) pins σ H s e s' I hq
  | ok fl =>
    cases fl with
    | ret w =>
      obtain ⟨z, H', I', rz, ez, ex⟩ := I.after hq
      subst ez
      cases rz
      exact ⟨true, rfl, .bl false, H', I', rfl, q H' ex⟩
    | next => exact False.elim hq
    | brk => exact False.elim hq
    | cont => exact False.elim hq
/-! ### against the empty list, the empty tuple -/
def rNe0 (K : PySem.W.Frag) : R2 := fun x y H Q => ∃ a b xs, x = .ref a ∧ y = .ref b ∧ ((SqT K H a xs ∧ SqT K H b []) ∨ (SqL K H a xs ∧ SqL K H b [])) ∧ Q (.bl (!xs.isEmpty)) H
def rEq0 (K : PySem.W.Frag) : R2 := fun x y H Q => ∃ a b xs, x = .ref a ∧ y = .ref b ∧ SqL K H a xs ∧ SqL K H b [] ∧ Q (.bl xs.isEmpty) H
section
variable {X : Cx}
theorem op_ne0 (K : PySem.W.Frag) (hu : X.A.units < cLine) (hK : X.K = K := by rfl) : OpR X (compareOp .NotEq) (rNe0 K) := by
  subst hK
  intro pins s σ H x y v u Q I rx ry h
  obtain ⟨a, b, xs, rfl, rfl, h, q⟩ := h
  cases rx
  cases ry
  rcases h with ⟨h1, h2⟩ | ⟨h1, h2⟩
  · obtain ⟨its, r, p, _⟩ := I.tuple h1
    obtain ⟨its2, r2, p2, _⟩ := I.tuple h2
    cases r2
    refine SeqAt.RcNeAt.tuples (e := fun _ => true) p p2 hu (fun j _ h2 => absurd h2 (by simp)) X.prog X.w X.xe _ ?_
    cases r with
    | nil => exact ⟨.bl false, H, I, by simp; rfl, q⟩
    | cons z zs => exact ⟨.bl true, H, I, by simp; rfl, q⟩
  · obtain ⟨its, r, p, _⟩ := I.list h1
    obtain ⟨its2, r2, p2, _⟩ := I.list h2
    cases r2
    cases r with
    | nil => exact SeqAt.RcNeAt.lists (e := fun _ => true) p.isList p2.isList rfl hu (fun j _ h2 => absurd h2 (by simp)) X.prog X.w X.xe _ ⟨.bl false, H, I, rfl, q⟩
    | cons z zs => exact SeqAt.RcNeAt.lists_lengths p.isList p2.isList (by simp) hu X.prog X.w X.xe _ ⟨.bl true, H, I, rfl, q⟩
theorem op_eq0 (K : PySem.W.Frag) (hu : X.A.units < cLine) (hK : X.K = K := by rfl) : OpR X (compareOp .Eq) (rEq0 K) := by
  subst hK
  intro pins s σ H x y v u Q I rx ry h
  obtain ⟨a, b, xs, rfl, rfl, h1, h2, q⟩ := h
  cases rx
  cases ry
  obtain ⟨its, r, p, _⟩ := I.list h1
  obtain ⟨its2, r2, p2, _⟩ := I.list h2
  cases r2
  cases r with
  | nil => exact SeqAt.RcAt.lists (e := fun _ => true) p.isList p2.isList rfl hu (fun j _ h2 => absurd h2 (by simp)) X.prog X.w X.xe _ ⟨.bl true, H, I, rfl, q⟩
  | cons z zs => exact SeqAt.RcAt.lists_lengths p.isList p2.isList (by simp) hu X.prog X.w X.xe _ ⟨.bl false, H, I, rfl, q⟩
end
end Sh
/-! The law's box. -/
namespace Sh
open PySem PySem.Spec PyProof.Rows L2
abbrev scBox_N : List Str := ["_law_script", "_law_k", "_law_cell"]
abbrev scBox_P : List Str := ["_law_script", "_law_k"]
abbrev scBox_S : Scope := defScope lBox
theorem scBox : FnScope scBox_N scBox_P (defScope lBox) := ⟨rfl, rfl, rfl, by decide +kernel, rfl, by decide +kernel, by decide +kernel⟩
abbrev scTake2_N : List Str := ["_law_box_here", "_law_bound", "_law_found", "_law_once"]
abbrev scTake2_P : List Str := ["_law_box_here", "_law_bound"]
abbrev scTake2_S : Scope := defScope lTake
theorem scTake2 : FnScope scTake2_N scTake2_P (defScope lTake) := ⟨rfl, rfl, rfl, by decide +kernel, rfl, by decide +kernel, by decide +kernel⟩
abbrev scPick_N : List Str := ["_law_box_here", "_law_things"]
abbrev scPick_P : List Str := ["_law_box_here", "_law_things"]
abbrev scPick_S : Scope := defScope lPick
theorem scPick : FnScope scPick_N scPick_P (defScope lPick) := ⟨rfl, rfl, rfl, by decide +kernel, rfl, by decide +kernel, by decide +kernel⟩
abbrev scPut2_N : List Str := ["_law_rows", "_law_found", "_law_sort", "_law_size"]
abbrev scPut2_P : List Str := ["_law_rows"]
abbrev scPut2_S : Scope := defScope lPut
theorem scPut2 : FnScope scPut2_N scPut2_P (defScope lPut) := ⟨rfl, rfl, rfl, by decide +kernel, rfl, by decide +kernel, by decide +kernel⟩
/-- the box at b, z at most m -/
def BoxAt (H : Hp) (b : Addr) (m : Nat) : Prop := ∃ x y z : Int, H b = some (.lst [.int x, .int y, .int z]) ∧ 0 ≤ x ∧ 0 ≤ y ∧ y < 1099511627776 ∧ 0 ≤ z ∧ z ≤ m
theorem BoxAt.mono {H : Hp} {b : Addr} {m n : Nat} (h : BoxAt H b m) (le : m ≤ n) : BoxAt H b n := let ⟨x, y, z, h1, h2, h3, h4, h5, h6⟩ := h; ⟨x, y, z, h1, h2, h3, h4, h5, by omega⟩
theorem BoxAt.ex {H H' : Hp} {b : Addr} {m : Nat} (h : BoxAt H b m) (e : Ex H H') : BoxAt H' b m := let ⟨x, y, z, h1, h2, h3, h4, h5, h6⟩ := h; ⟨x, y, z, e _ _ h1, h2, h3, h4, h5, h6⟩
theorem BoxAt.ch {H H' : Hp} {b : Addr} {m : Nat} {ex : List Addr} (h : BoxAt H b m) (e : Ch ex H H') (hn : b ∉ ex) : BoxAt H' b m := let ⟨x, y, z, h1, h2, h3, h4, h5, h6⟩ := h; ⟨x, y, z, e _ _ hn h1, h2, h3, h4, h5, h6⟩
abbrev zz : Nat := 1099511627776
def IntsV (H : Hp) (v : V) (i : Int) : Prop := v = .int i
def spBox (K : PySem.W.Frag) : Sp := fun vs H Q _ => ∃ (a : Addr) (xs : List V) (is : List Int) (k : Nat), vs = [.ref a, .int k] ∧ SqL K H a xs ∧ xs = is.map V.int ∧ k ≤ 1000 ∧ ∀ H' b, H b = none → Ex H H' → BoxAt H' b 0 → Q (.ref b) H'
def spTake2 (K : PySem.W.Frag) : Sp := fun vs H Q _ => ∃ (b : Addr) (n : Int) (m : Nat), vs = [.ref b, .int n] ∧ 0 < n ∧ n < 1000000 ∧ BoxAt H b m ∧ m ≤ zz ∧ ∀ H' r, Ch [b] H H' → Tk H H' → BoxAt H' b (m + 1) → 0 ≤ r → r < n → Q (.int r) H'
def spPick (K : PySem.W.Frag) : Sp := fun vs H Q _ => ∃ (b l : Addr) (xs : List V) (m : Nat), vs = [.ref b, .ref l] ∧ H l = some (.lst xs) ∧ l ≠ b ∧ xs ≠ [] ∧ xs.length < 1000000 ∧ BoxAt H b m ∧ m ≤ zz ∧ ∀ H' x, Ch [b] H H' → Tk H H' → BoxAt H' b (m + 1) → x ∈ xs → Q x H'
def spPut2 (K : PySem.W.Frag) : Sp := fun vs H Q _ => ∃ (a : Addr) (xs : List V) (l : List Run), vs = [.ref a] ∧ SqL K H a xs ∧ Paired (RunV H) xs l ∧ l.length ≤ 1000 ∧ ∀ H' v, Ex H H' → ShV H' v (joinR l) → Q v H'
section
variable {P : Program} {w : World} {K : PySem.W.Frag} {mg : Str → Option Value} {base : Heap}
theorem cm01 (b : Bool) (i : Int) : CMul i (if b = true then 1 else 0) := .inr (by cases b <;> decide)
theorem d__law_box (hT : Txt w K mg) : Def P w K mg base CX0 1 "_law_box" scBox_P (spBox K) := by
  refine Def.of hT (st := lBox) (by simp [fn]) (by decide +kernel) scBox (fun _ _ _ _ _ _ us hl => match us, hl with | [_, _], _ => rfl) (fun vs H Q E h => by obtain ⟨a, xs, is, k, rfl, _⟩ := h; rfl) fun cdv A outer s H vs Q E hr h => ?_
  refine' ⟨_, PSs.nox ?walk, ?read⟩
  case walk => exact (
    (pss_cons (ps_set (i := 2) scBox.nd rfl (Or.inl rfl) pe_int)
    (pss_cons (ps_if (pt_cmpR op_lt (pv 1) (pe_callB call_len_seq (by rfl) (hT.free "len" (by decide +kernel)) boot_len (pa_cons (pv 0) pa_nil)) (nomark _))
    (pss_one (ps_set (i := 2) scBox.nd rfl (Or.inl rfl) (pe_ix ix_list (pv 0) (pv 1) (fun _ _ => rfl))))
    pss_nil)
    (pss_one (ps_ret (pe_lst (pa_cons (pe_op op_mul (pe_callB call_abs (by rfl) (hT.free "abs" (by decide +kernel)) (by decide +kernel) (pa_cons (pv 2) pa_nil)) (pe_callTy call_int1 (by rfl) (hT.free "int" (by decide +kernel)) (by decide +kernel) (pa_cons (pe_cmpR op_ge (pe_callB call_abs (by rfl) (hT.free "abs" (by decide +kernel)) (by decide +kernel) (pa_cons (pv 2) pa_nil)) (pe_op op_pow pe_int pe_int) (nomark _)) pa_nil))) (pa_cons (pe_op op_add (pe_op op_add (pe_op op_mod (pv 2) pe_int) (pe_op op_mul pe_int (pv 1))) pe_int) (pa_cons pe_int pa_nil))))))))
    )
  case read =>
    obtain ⟨a, xs, is, k, rfl, hs, rfl, hk, q⟩ := h
    refine ⟨_, rfl, _, rfl, a, _, rfl, .inl hs, _, _, rfl, rfl, _, rfl, if_2 (fun cc => ?_) (fun cc => ?_)⟩
    · have c1 := of_decide_eq_true cc
      rw [List.length_map] at c1
      have hk1 : k < is.length := by omega
      have hg : (is.map V.int)[k]? = some (.int is[k]) := by rw [List.getElem?_map, List.getElem?_eq_getElem hk1]; rfl
      generalize is[k] = c at hg
      refine ⟨_, rfl, _, rfl, a, _, (k : Int), V.int c, rfl, rfl, hs, atI_nat hg, ?_⟩
      refine ⟨_, rfl, _, rfl, _, rfl, _, rfl, _, _, rfl, rfl, ⟨by decide, by decide, by decide⟩, _, _, rfl, rfl, .inr ⟨_, rfl, _, _, rfl, rfl, cm01 _ _, _, rfl, _, _, rfl, rfl, (by show (0:Int) < 2147483629; decide), _, rfl, _, _, rfl, rfl, .inl ⟨by decide, by decide⟩, _, _, rfl, rfl, _, _, rfl, rfl, (by show 3 ≤ sizeLine; decide), fun b nb => ?_⟩⟩
      refine q _ b nb (Ex.new nb) ⟨_, _, _, upd_same, Int.mul_nonneg (by split <;> omega) (by split <;> omega), ?_, ?_, by decide, by decide⟩
      · have := Int.emod_nonneg c (b := 2147483629) (by decide)
        omega
      · have := Int.emod_lt_of_pos c (b := 2147483629) (by decide)
        omega
    · refine ⟨_, rfl, _, rfl, _, rfl, _, rfl, _, _, rfl, rfl, ⟨by decide, by decide, by decide⟩, _, _, rfl, rfl, .inr ⟨_, rfl, _, _, rfl, rfl, cm01 _ _, _, rfl, _, _, rfl, rfl, (by show (0:Int) < 2147483629; decide), _, rfl, _, _, rfl, rfl, .inl ⟨by decide, by decide⟩, _, _, rfl, rfl, _, _, rfl, rfl, (by show 3 ≤ sizeLine; decide), fun b nb => ?_⟩⟩
      refine q _ b nb (Ex.new nb) ⟨_, _, _, upd_same, Int.mul_nonneg (by decide) (by split <;> omega), ?_, ?_, by decide, by decide⟩
      · omega
      · omega
theorem d__law_take (hT : Txt w K mg) : Def P w K mg base CX0 1 "_law_take" scTake2_P (spTake2 K) := by
  refine Def.of hT (st := lTake) (by simp [fn]) (by decide +kernel) scTake2 (fun _ _ _ _ _ _ us hl => match us, hl with | [_, _], _ => rfl) (fun vs H Q E h => by obtain ⟨b, n, m, rfl, _⟩ := h; rfl) fun cdv A outer s H vs Q E hr h => ?_
  refine' ⟨_, PSs.nox ?walk, ?read⟩
  case walk => exact (
    (pss_cons (ps_if (pt_cmpR op_gt (pe_ix ix_list (pv 0) pe_int (fun _ _ => rfl)) pe_int (nomark _))
    (pss_cons (ps_set (i := 2) scTake2.nd rfl (Or.inl rfl) (pe_op op_mod (pe_ix ix_list (pv 0) pe_int (fun _ _ => rfl)) (pv 1)))
    (pss_cons (ps_asg (pe_op op_fdiv (pe_ix ix_list (pv 0) pe_int (fun _ _ => rfl)) (pv 1)) (pg_sub (pv 0) pe_int set_list))
    (pss_one (ps_ret (pv 2)))))
    pss_nil)
    (pss_cons (ps_asg (pe_op op_add (pe_ix ix_list (pv 0) pe_int (fun _ _ => rfl)) pe_int) (pg_sub (pv 0) pe_int set_list))
    (pss_cons (ps_set (i := 3) scTake2.nd rfl (Or.inl rfl) (pe_op op_mod (pe_op op_pow (pe_op op_add (pe_ix ix_list (pv 0) pe_int (fun _ _ => rfl)) (pe_op op_mul pe_int (pe_ix ix_list (pv 0) pe_int (fun _ _ => rfl)))) pe_int) pe_int))
    (pss_one (ps_ret (pe_op op_mod (pe_op op_fdiv (pe_op op_mod (pe_op op_add (pe_op op_mul (pv 3) (pe_op op_add (pe_op op_mod (pv 3) pe_int) pe_int)) (pe_op op_mul (pe_ix ix_list (pv 0) pe_int (fun _ _ => rfl)) pe_int)) pe_int) pe_int) (pv 1)))))))
    )
  case read =>
    obtain ⟨b, n, m, rfl, h0, h1, ⟨x, y, z, hb, hx, hy, hy2, hz, hz2⟩, hm, q⟩ := h
    have hS : SqL K H b [.int x, .int y, .int z] := SqL.of hb
    refine ⟨_, rfl, b, _, 0, _, rfl, rfl, hS, rfl, _, _, rfl, rfl, _, rfl, if_2 (fun c => ?_) (fun c => ?_)⟩
    · have c := of_decide_eq_true c
      refine ⟨_, rfl, b, _, 0, _, rfl, rfl, hS, rfl, _, rfl, _, _, rfl, rfl, h0, ?_⟩
      refine ⟨_, rfl, b, _, 0, _, rfl, rfl, hS, rfl, _, rfl, _, _, rfl, rfl, ⟨h0, by omega⟩, _, rfl, b, _, 0, 0, rfl, rfl, hb, rfl, ?_⟩
      refine ⟨_, rfl, q _ _ (Ch.upd (by simp)) (tk_upd hb rfl) ⟨x / n, y, z, upd_same, Int.ediv_nonneg hx (by omega), hy, hy2, hz, by omega⟩ (Int.emod_nonneg _ (by omega)) (Int.emod_lt_of_pos _ h0)⟩
    · refine ⟨_, rfl, b, _, 2, _, rfl, rfl, hS, rfl, _, _, rfl, rfl, _, rfl, b, _, 2, 2, rfl, rfl, hb, rfl, ?_⟩
      have hb1 : upd H b (.lst [.int x, .int y, .int (z + 1)]) b = some (.lst [.int x, .int y, .int (z + 1)]) := upd_same
      have c1 : Ch [b] H (upd H b (.lst [.int x, .int y, .int (z + 1)])) := Ch.upd (by simp)
      have k1 : Tk H (upd H b (.lst [.int x, .int y, .int (z + 1)])) := tk_upd hb rfl
      have e1 : ([V.int x, .int y, .int z].set 2 (.int (z + 1))) = [.int x, .int y, .int (z + 1)] := rfl
      rw [e1]
      generalize upd H b (.lst [.int x, .int y, .int (z + 1)]) = G at *
      have hS1 : SqL K G b [.int x, .int y, .int (z + 1)] := SqL.of hb1
      have hm' : m ≤ 1099511627776 := hm
      have zb : z ≤ 1099511627776 := by omega
      have nab : (y + 39373 * (z + 1)).natAbs < 2 ^ 64 := by have : (2 : Nat) ^ 64 = 18446744073709551616 := by decide
                                                             omega
      refine ⟨_, rfl, b, _, 1, _, rfl, rfl, hS1, rfl, _, rfl, b, _, 2, _, rfl, rfl, hS1, rfl, _, _, rfl, rfl, .inl ⟨by decide, by decide⟩, _, _, rfl, rfl, _, _, rfl, rfl, ⟨by decide, by decide, nab⟩, _, _, rfl, rfl, (by show (0:Int) < 2147483647; decide), ?_⟩
      generalize ho : (y + 39373 * (z + 1)) ^ (Int.toNat 5) % 2147483647 = o
      have o0 : 0 ≤ o := by rw [← ho]; exact Int.emod_nonneg _ (by decide)
      have o1 : o < 2147483647 := by rw [← ho]; exact Int.emod_lt_of_pos _ (by decide)
      have t64 : (2 : Int) ^ 64 = 18446744073709551616 := by decide
      refine ⟨_, rfl, _, rfl, _, _, rfl, rfl, (by show (0:Int) < 40009; decide), _, _, rfl, rfl, _, _, rfl, rfl, .inl ⟨by rw [t64]; omega, by rw [t64]; omega⟩, _, rfl, b, _, 2, _, rfl, rfl, hS1, rfl, _, _, rfl, rfl, .inr ⟨by decide, by decide⟩, _, _, rfl, rfl, _, _, rfl, rfl, (by show (0:Int) < 2147483629; decide), _, _, rfl, rfl, ⟨by decide, by decide⟩, _, rfl, _, _, rfl, rfl, h0, ?_⟩
      exact q _ _ c1 k1 ⟨x, y, z + 1, hb1, hx, hy, hy2, by omega, by omega⟩ (Int.emod_nonneg _ (by omega)) (Int.emod_lt_of_pos _ h0)
theorem d__law_pick (hT : Txt w K mg) : Def P w K mg base CX0 2 "_law_pick" scPick_P (spPick K) := by
  have d__law_take := d__law_take (P := P) (base := base) hT
  refine Def.of hT (st := lPick) (by simp [fn]) (by decide +kernel) scPick (fun _ _ _ _ _ _ us hl => match us, hl with | [_, _], _ => rfl) (fun vs H Q E h => by obtain ⟨b, l, xs, m, rfl, _⟩ := h; rfl) fun cdv A outer s H vs Q E hr h => ?_
  refine' ⟨_, PSs.nox ?walk, ?read⟩
  case walk => exact (
    (pss_one (ps_ret (pe_ix ix_list (pv 1) (pe_fn d__law_take hr (pa_cons (pv 0) (pa_cons (pe_callB call_len_seq (by rfl) (hT.free "len" (by decide +kernel)) boot_len (pa_cons (pv 1) pa_nil)) pa_nil))) (fun _ _ => rfl))))
    )
  case read =>
    obtain ⟨b, l, xs, m, rfl, hl, nb, ne, hz, hb, hm, q⟩ := h
    have hpos : 0 < xs.length := List.length_pos_iff.mpr ne
    refine ⟨_, rfl, _, rfl, _, rfl, l, xs, rfl, .inl (SqL.of hl), b, _, m, rfl, by omega, by omega, hb, hm, fun H' r c k hb' r0 r1 => ?_⟩
    have hlt : r.toNat < xs.length := by omega
    exact ⟨l, xs, r, _, rfl, rfl, SqL.of (c _ _ (by simp [nb]) hl), atI_pos r0 (List.getElem?_eq_getElem hlt), q _ _ c k hb' (List.getElem_mem hlt)⟩
theorem d__law_put_together (hT : Txt w K mg) : Def P w K mg base CX0 1 "_law_put_together" scPut2_P (spPut2 K) := by
  refine Def.of hT (st := lPut) (by simp [fn]) (by decide +kernel) scPut2 (fun _ _ _ _ _ _ us hl => match us, hl with | [_], _ => rfl) (fun vs H Q E h => by obtain ⟨a, xs, l, rfl, _⟩ := h; rfl) fun cdv A outer s H vs Q E hr h => ?_
  refine' ⟨_, PSs.nox ?walk, ?read⟩
  case walk => exact (
    (pss_cons (ps_set (i := 1) scPut2.nd rfl (Or.inl rfl) (pe_lst pa_nil))
    (pss_cons (ps_for PassesOwn.never rfl (pi_list (pv 0)) (pg_tup rfl (pgs_cons (pg_name (i := 2) scPut2.nd rfl (Or.inl rfl)) (pgs_cons (pg_name (i := 3) scPut2.nd rfl (Or.inl rfl)) pgs_nil)))
    (pss_one (ps_if (PW.pt (pw_and (pt_cmpR op_gt (pv 3) pe_int (nomark _)) (pw_and (pt_cmpR (op_ne0 K hr.units0) (pv 1) (pe_lst pa_nil) (nomark _)) (pw_and1 (pt_cmpR op_eq (pe_ix ix_tup (pe_ix ix_list (pv 1) (pe_un un_neg pe_int) (fun _ _ => rfl)) pe_int (fun _ _ => rfl)) (pv 2) (nomark _))))))
    (pss_one (ps_asg (pe_tup (pa_cons (pv 2) (pa_cons (pe_op op_add (pe_ix ix_tup (pe_ix ix_list (pv 1) (pe_un un_neg pe_int) (fun _ _ => rfl)) pe_int (fun _ _ => rfl)) (pv 3)) pa_nil))) (pg_sub (pv 1) (pe_un un_neg pe_int) set_list)))
    (pss_one (ps_if (pt_cmpR op_gt (pv 3) pe_int (nomark _))
    (pss_one (ps_expr (pe_bm PySem.F.plainAttrs_list PySem.F.slot_list_append PySem.F.type_list_append mt_append (pv 1) (pa_cons (pe_tup (pa_cons (pv 2) (pa_cons (pv 3) pa_nil))) pa_nil))))
    pss_nil)))))
    (pss_one (ps_ret (pe_callTy cr_tupN (by rfl) (hT.free "tuple" (by decide +kernel)) (by decide +kernel) (pa_cons (pv 1) pa_nil))))))
    )
  case read =>
    obtain ⟨a, xs, l, rfl, hs, hp, hz, q⟩ := h
    have hlen := plen hp
    refine ⟨Nat.zero_le _, fun p np => ?_⟩
    refine ⟨_, rfl, a, rfl, ⟨_, (Ex.new np).sq hs⟩, for_list (K := K) (a := a) (xs := xs) (fun i σ H' => ∃ k m vs, σ = [some (.ref a), some (.ref p), k, m] ∧ Ex H H' ∧ H' p = some (.lst vs) ∧ Paired (RunV H') vs ((l.take i).foldl jstep []))
      ⟨none, none, [], rfl, Ex.new np, upd_same, .nil⟩ (fun i σ H' _ h => ?_) (fun i x σ H' hx h => ?_) (fun σ H' h => ?_)⟩
    · obtain ⟨_, _, _, _, ex, _⟩ := h
      exact ex.sq hs
    · obtain ⟨k, m, vs, rfl, ex, hl, hv⟩ := h
      obtain ⟨r, hr', b, rfl, rd⟩ := pgetL hp hx
      have hv2 := plen hv
      have hj := joinR_take l i
      have hi : i < l.length := (List.getElem?_eq_some_iff.mp hr').1
      have tk := tk_ex ex
      refine ⟨b, _, rfl, rd_sq (tk.rd rd), rfl, _, _, rfl, _, _, rfl, rfl, ?_⟩
      have fin : ∀ (σ' : L2.St) (H2 : Hp) (vs' : List V), (∃ k m, σ' = [some (.ref a), some (.ref p), k, m]) → Ex H H2 → H2 p = some (.lst vs') → Paired (RunV H2) vs' (jstep ((l.take i).foldl jstep []) r) → (∃ k m vs, σ' = [some (.ref a), some (.ref p), k, m] ∧ Ex H H2 ∧ H2 p = some (.lst vs) ∧ Paired (RunV H2) vs ((l.take (i + 1)).foldl jstep [])) := by
        rintro σ' H2 vs' ⟨k, m, rfl⟩ e1 e2 e3
        exact ⟨k, m, vs', rfl, e1, e2, by rw [fold_more hr']; exact e3⟩
      generalize hacc : (l.take i).foldl jstep [] = acc at *
      have app : ∀ {H' : Hp}, Ex H H' → H' p = some (.lst vs) → Paired (RunV H') vs acc → 0 < r.2 → jstep acc r = acc ++ [r] → tIfS (tTest (tOp (rI0 fun i j => .bl (decide (j < i))) (tVar 3) (tC (.int 0)))) (tDrop (tBM K "list" rAppend (tVar 1) (tCons (tTup (tCons (tVar 2) (tCons (tVar 3) tNil))) tNil))) tNext { nx := fun σ' H2 => (∃ k m vs, σ' = [some (.ref a), some (.ref p), k, m] ∧ Ex H H2 ∧ H2 p = some (.lst vs) ∧ Paired (RunV H2) vs ((l.take (i + 1)).foldl jstep [])), rt := Q } [some (.ref a), some (.ref p), some (.str r.1), some (.int r.2)] H' := by
        intro H' ex hl hv c1 ej
        refine ⟨_, rfl, _, _, rfl, rfl, _, rfl, if_t (decide_eq_true c1) ?_⟩
        refine ⟨_, rfl, .inl ⟨rfl, _, SqL.of hl⟩, _, rfl, _, rfl, (by show 2 ≤ sizeLine; decide), fun t nt => ?_⟩
        have hpt : p ≠ t := ne_of_none hl nt
        have tk2 : Tk H' (upd (upd H' t (.tup (runV r))) p (.lst (vs ++ [.ref t]))) := (tk_new nt).mut (by rw [upd_ne hpt]; exact hl) rfl
        refine ⟨p, vs, _, rfl, rfl, by rw [upd_ne hpt]; exact hl, small' (by omega), ?_⟩
        refine fin _ _ _ ⟨_, _, rfl⟩ ((ex.trans (Ex.new nt)).mut np) upd_same ?_
        rw [ej]
        exact psnoc (pmono mon_run tk2 hv) ⟨t, rfl, .inl (by rw [upd_ne (Ne.symm hpt)]; exact upd_same)⟩
      refine ⟨_, rfl, _, _, rfl, rfl, _, rfl, if_2 (fun c => ?_) (fun c => ?_)⟩
      · have c1 : 0 < r.2 := of_decide_eq_true c
        refine ⟨_, rfl, Nat.zero_le _, fun e0 ne0 => ?_⟩
        have x0 := Ex.new (o := .lst []) ne0
        have he0 : upd H' e0 (.lst []) e0 = some (.lst []) := upd_same
        have hl := x0 _ _ hl
        have ex := ex.trans x0
        have hv := pmono mon_run (tk_ex x0) hv
        generalize upd H' e0 (.lst []) = H' at *
        refine ⟨p, e0, vs, rfl, rfl, .inr ⟨SqL.of hl, SqL.of he0⟩, _, rfl, if_2 (fun c2 => ?_) (fun c2 => ?_)⟩
        · have c3 : 0 < vs.length := by
            cases vs with
            | nil => cases c2
            | cons z zs => simp
          have hlast : acc[acc.length - 1]? = some acc[acc.length - 1] := List.getElem?_eq_getElem (by omega)
          generalize acc[acc.length - 1] = la at hlast
          obtain ⟨lv, hlv, b2, rfl, rd2⟩ := pget hv hlast
          have hat : atI vs (-1) = some (V.ref b2) := atI_end (by rw [hv2]; exact hlv)
          refine ⟨_, rfl, _, rfl, p, vs, _, _, rfl, rfl, SqL.of hl, hat, b2, _, _, _, rfl, rfl, rd_sq rd2, rfl, _, rfl, rfl, _, rfl, if_2 (fun c4 => ?_) (fun c4 => ?_)⟩
          · have c5 : la.1 = r.1 := by
              have e := of_decide_eq_true c4
              injection e
            refine ⟨_, rfl, _, rfl, _, rfl, p, vs, _, _, rfl, rfl, SqL.of hl, hat, b2, _, _, _, rfl, rfl, rd_sq rd2, rfl, _, rfl, _, _, rfl, rfl, (by show 2 ≤ sizeLine; decide), fun t nt => ?_⟩
            have hpt : p ≠ t := ne_of_none hl nt
            refine ⟨_, rfl, _, rfl, p, vs, _, vs.length - 1, rfl, rfl, by rw [upd_ne hpt]; exact hl, ixN_end c3, ?_⟩
            have tk2 : Tk H' (upd (upd H' t (.tup [.str r.1, .int (la.2 + r.2)])) p (.lst (vs.set (vs.length - 1) (.ref t)))) := (tk_new nt).mut (by rw [upd_ne hpt]; exact hl) rfl
            refine fin _ _ _ ⟨_, _, rfl⟩ ((ex.trans (Ex.new nt)).mut np) upd_same ?_
            have ej : jstep acc r = acc.set (acc.length - 1) (r.1, la.2 + r.2) := by
              unfold jstep
              rw [if_pos c1, hlast]
              show (if la.1 = r.1 then _ else _) = _
              rw [if_pos c5]
            rw [ej, ← hv2]
            exact pset _ (pmono mon_run tk2 hv) ⟨t, rfl, .inl (by rw [upd_ne (Ne.symm hpt)]; exact upd_same)⟩
          · have c5 : ¬ la.1 = r.1 := fun z => by
              have e := of_decide_eq_false c4
              exact e (by rw [z])
            refine app ex hl hv c1 ?_
            unfold jstep
            rw [if_pos c1, hlast]
            show (if la.1 = r.1 then _ else _) = _
            rw [if_neg c5]
        · have c3 : acc = [] := by
            have e : acc.length = 0 := by
              rw [← hv2]
              cases vs with
              | nil => rfl
              | cons z zs => cases c2
            exact List.length_eq_zero_iff.mp e
          refine app ex hl hv c1 ?_
          subst c3
          unfold jstep
          rw [if_pos c1]
          rfl
      · have c1 : ¬ 0 < r.2 := of_decide_eq_false c
        refine ⟨_, rfl, _, _, rfl, rfl, _, rfl, if_f c ?_⟩
        refine fin _ _ _ ⟨_, _, rfl⟩ ex hl ?_
        unfold jstep
        rw [if_neg c1]
        exact hv
    · obtain ⟨k, m, vs, rfl, ex, hl, hv⟩ := h
      have e : xs.length = l.length := hlen
      rw [e, List.take_length] at hv
      refine ⟨_, rfl, p, vs, rfl, .inl ⟨SqL.of hl, fun t o nt ho => ?_⟩⟩
      refine q _ _ (ex.trans (Ex.new nt)) ⟨t, vs, rfl, .inr ⟨o, upd_same⟩, pmono mon_run (tk_new nt) hv⟩
end
end Sh
/-! The law's names and standing. -/
namespace Sh
open PySem PySem.Spec PyProof.Rows L2
abbrev scNames_N : List Str := ["_law_box_here", "_law_many", "_law_letters", "_law_found", "_law_k", "_law_name", "_law_j", "_law_sign", "_law_made"]
abbrev scNames_P : List Str := ["_law_box_here", "_law_many"]
abbrev scNames_S : Scope := defScope lNames
theorem scNames : FnScope scNames_N scNames_P (defScope lNames) := ⟨rfl, rfl, rfl, by decide +kernel, rfl, by decide +kernel, by decide +kernel⟩
abbrev scStand_N : List Str := ["_law_box_here", "_law_planks", "_law_rows", "_law_sorts", "_law_most", "_law_names_here", "_law_found", "_law_plank", "_law_lot", "_law_row"]
abbrev scStand_P : List Str := ["_law_box_here", "_law_planks", "_law_rows", "_law_sorts", "_law_most"]
abbrev scStand_S : Scope := defScope lStand
theorem scStand : FnScope scStand_N scStand_P (defScope lStand) := ⟨rfl, rfl, rfl, by decide +kernel, rfl, by decide +kernel, by decide +kernel⟩
theorem Ch.mut {ex : List Addr} {H H' : Hp} {p : Addr} {o : HO} (e : Ch ex H H') (h : H p = none) : Ch ex H (L2.upd H' p o) := fun a u ha q => by
  rw [upd_ne (ne_of_none q h)]
  exact e a u ha q
theorem Ch.nn {ex : List Addr} {H H' : Hp} (e : Ch ex H H') {p : Addr} (h : H' p = none) (hp : p ∉ ex) : H p = none := by
  cases q : H p with
  | none => rfl
  | some o => rw [e p o hp q] at h; cases h
theorem inV_str (a : Str) : ∀ ys : List Str, inV (.str a) (ys.map V.str) = decide (a ∈ ys)
  | [] => rfl
  | y :: ys => by
    have ih := inV_str a ys
    unfold inV at ih ⊢
    rw [List.map_cons, List.any_cons, ih]
    by_cases h : y = a
    · subst h; simp [eqV]
    · have h2 : ¬ a = y := fun z => h z.symm
      simp [eqV, h, h2]
theorem flat_strs (ys : List Str) : (ys.map V.str).all flatV = true := by
  induction ys with
  | nil => rfl
  | cons y ys ih => rw [List.map_cons, List.all_cons, ih]; rfl
theorem pigeon {a b c : Str} (h1 : a ≠ b) (h2 : a ≠ c) (h3 : b ≠ c) : ∀ {ys : List Str}, ys.length ≤ 2 → ∃ x, (x = a ∨ x = b ∨ x = c) ∧ x ∉ ys
  | [], _ => ⟨a, .inl rfl, by simp⟩
  | [x], _ => by
    by_cases h : x = a
    · exact ⟨b, .inr (.inl rfl), by rw [h]; simp; exact fun z => h1 z.symm⟩
    · exact ⟨a, .inl rfl, by simp; exact fun z => h z.symm⟩
  | [x, y], _ => by
    by_cases ha : x = a ∨ y = a
    · by_cases hb : x = b ∨ y = b
      · refine ⟨c, .inr (.inr rfl), ?_⟩
        simp only [List.mem_cons, List.not_mem_nil, or_false, not_or]
        constructor
        · intro z
          rcases ha with e | e <;> rcases hb with f | f
          · exact h1 (e.symm.trans f)
          · exact h2 (e.symm.trans z.symm)
          · exact h3 (f.symm.trans z.symm)
          · exact h1 (e.symm.trans f)
        · intro z
          rcases ha with e | e <;> rcases hb with f | f
          · exact h1 (e.symm.trans f)
          · exact h3 (f.symm.trans z.symm)
          · exact h2 (e.symm.trans z.symm)
          · exact h1 (e.symm.trans f)
      · refine ⟨b, .inr (.inl rfl), ?_⟩
        simp only [List.mem_cons, List.not_mem_nil, or_false, not_or]
        exact ⟨fun z => hb (.inl z.symm), fun z => hb (.inr z.symm)⟩
    · refine ⟨a, .inl rfl, ?_⟩
      simp only [List.mem_cons, List.not_mem_nil, or_false, not_or]
      exact ⟨fun z => ha (.inl z.symm), fun z => ha (.inr z.symm)⟩
  | _ :: _ :: _ :: _, h => by simp at h
def spNames (K : PySem.W.Frag) : Sp := fun vs H Q _ => ∃ (b : Addr) (n : Int) (m : Nat), vs = [.ref b, .int n] ∧ 0 ≤ n ∧ n ≤ 3 ∧ BoxAt H b m ∧ m + 100 ≤ zz ∧
  ∀ H' F (ys : List Str), Ch [b] H H' → Tk H H' → BoxAt H' b (m + 30) → H F = none → H' F = some (.lst (ys.map V.str)) → ys.length = n.toNat → Q (.ref F) H'
def spStand (K : PySem.W.Frag) : Sp := fun vs H Q _ => ∃ (b : Addr) (m : Nat), vs = [.ref b, .int 2, .int 4, .int 3, .int 2] ∧ BoxAt H b m ∧ m + 200 ≤ zz ∧
  ∀ H' v st, Ch [b] H H' → Tk H H' → BoxAt H' b (m + 100) → StV H' v st → PosS st → st.length ≤ 10 → total st ≤ 60 → Q v H'
section
variable {P : Program} {w : World} {K : PySem.W.Frag} {mg : Str → Option Value} {base : Heap}
abbrev letters : Str := "abcdefghijklmnopqrstuvwxyz"
theorem letters_len : letters.cps.toList.length = 26 := by decide +kernel
theorem letters_sz : letters.cps.size = 26 := by decide +kernel
theorem pick4 (r : Int) (h0 : 0 ≤ r) (h1 : r < 4) : ∃ v : Int, atI [V.int 1, .int 1, .int 2, .int 6] r = some (.int v) ∧ 0 ≤ v ∧ v ≤ 6 := by
  have h : r = 0 ∨ r = 1 ∨ r = 2 ∨ r = 3 := by omega
  rcases h with rfl | rfl | rfl | rfl
  · exact ⟨1, rfl, by decide, by decide⟩
  · exact ⟨1, rfl, by decide, by decide⟩
  · exact ⟨2, rfl, by decide, by decide⟩
  · exact ⟨6, rfl, by decide, by decide⟩
theorem sum_ones : ∀ {zs : List Str}, (∀ z ∈ zs, z.length = 1) → (zs.map (·.length)).sum = zs.length
  | [], _ => rfl
  | z :: zs, h => by
    have h1 := h z List.mem_cons_self
    have h2 := sum_ones (zs := zs) fun y hy => h y (List.mem_cons_of_mem _ hy)
    simp only [List.map_cons, List.sum_cons, h1, h2, List.length_cons]
    omega
def endS (cut : Str) (c : Nat) : Str := cut ++ ⟨#[c]⟩
theorem endS_ne (cut : Str) {c d : Nat} (h : c ≠ d) : endS cut c ≠ endS cut d := fun e => by
  have e2 : (endS cut c).cps.toList = (endS cut d).cps.toList := by rw [e]
  have e3 : cut.cps.toList ++ [c] = cut.cps.toList ++ [d] := by
    have f : ∀ x, (endS cut x).cps.toList = cut.cps.toList ++ [x] := fun x => by
      show (cut.cps ++ #[x]).toList = _
      simp
    rw [f, f] at e2
    exact e2
  have e4 := List.append_cancel_left e3
  exact h (by injection e4)
def cands (nm : Str) : List Str := nm :: letters.cps.toList.map (endS (cutS nm none (some 5)))
theorem cands_len (nm : Str) : (cands nm).length = 27 := by
  unfold cands
  rw [List.length_cons, List.length_map, letters_len]
theorem cands_some (nm : Str) {ys : List Str} (h : ys.length ≤ 2) : (cands nm).filter (fun z => decide (z ∉ ys)) ≠ [] := by
  have hm : ∀ c ∈ letters.cps.toList, endS (cutS nm none (some 5)) c ∈ cands nm := fun c hc => List.mem_cons_of_mem _ (List.mem_map_of_mem hc)
  obtain ⟨x, hx, hn⟩ := pigeon (endS_ne (cutS nm none (some 5)) (show 97 ≠ 98 by decide)) (endS_ne _ (show 97 ≠ 99 by decide)) (endS_ne _ (show 98 ≠ 99 by decide)) h
  have h3 : x ∈ cands nm := by
    rcases hx with rfl | rfl | rfl
    · exact hm _ (by decide +kernel)
    · exact hm _ (by decide +kernel)
    · exact hm _ (by decide +kernel)
  intro z
  have h4 : x ∈ (cands nm).filter (fun z => decide (z ∉ ys)) := List.mem_filter.mpr ⟨h3, decide_eq_true hn⟩
  rw [z] at h4
  cases h4
theorem d__law_names (hT : Txt w K mg) : Def P w K mg base CX0 2 "_law_names" scNames_P (spNames K) := by
  have d__law_take := d__law_take (P := P) (base := base) hT
  refine Def.of hT (st := lNames) (by simp [fn]) (by decide +kernel) scNames (fun _ _ _ _ _ _ us hl => match us, hl with | [_, _], _ => rfl) (fun vs H Q E h => by obtain ⟨b, n, m, rfl, _⟩ := h; rfl) fun cdv A outer s H vs Q E hr h => ?_
  refine' ⟨_, PSs.nox ?walk, ?read⟩
  case walk => exact (
    (pss_cons (ps_asg (pe_tup (pa_cons pe_str (pa_cons (pe_lst pa_nil) pa_nil))) (pg_tup rfl (pgs_cons (pg_name (i := 2) scNames.nd rfl (Or.inr rfl)) (pgs_cons (pg_name (i := 3) scNames.nd rfl (Or.inr rfl)) pgs_nil))))
    (pss_cons (ps_for PassesOwn.never rfl (pi_range1 (by rfl) (hT.free "range" (by decide +kernel)) (pa_cons (pv 1) pa_nil)) (pg_name (i := 4) scNames.nd rfl (Or.inl rfl))
    (pss_cons (ps_set (i := 5) scNames.nd rfl (Or.inr rfl) (pe_join pe_str (pe_lc (own := [("_law_j", 6)]) rfl scNames.nd (pi_range1 (by rfl) (hT.free "range" (by decide +kernel)) (pa_cons (pe_ix ix_list (pe_lst (pa_cons pe_int (pa_cons pe_int (pa_cons pe_int (pa_cons pe_int pa_nil))))) (pe_fn d__law_take hr (pa_cons (pv 0) (pa_cons pe_int pa_nil))) (fun _ _ => rfl)) pa_nil)) (blkOk_by (N := scNames_N) (sc := scNames_S) (by decide +kernel)) (fun _ _ _ _ _ => (pg_name (i := 6) scNames.nd rfl (Or.inl rfl))) (fun _ _ _ _ _ => pts_nil) (fun _ _ _ _ _ => (pe_ix ix_str (pv 2) (pe_fn d__law_take hr (pa_cons (pv 0) (pa_cons pe_int pa_nil))) (fun _ _ => rfl))))))
    (pss_one (ps_expr (pe_bm PySem.F.plainAttrs_list PySem.F.slot_list_append PySem.F.type_list_append mt_append (pv 3) (pa_cons (pe_ix ix_list (pe_lc (own := [("_law_made", 8)]) rfl scNames.nd (pi_list (pe_op op_cat (pe_lst (pa_cons (pv 5) pa_nil)) (pe_lc (own := [("_law_sign", 7)]) rfl scNames.nd (pi_str (pv 2)) (blkOk_by (N := scNames_N) (sc := scNames_S) (by decide +kernel)) (fun _ _ _ _ _ => (pg_name (i := 7) scNames.nd rfl (Or.inl rfl))) (fun _ _ _ _ _ => pts_nil) (fun _ _ _ _ _ => (pe_op op_add_str (pe_slice sl_str (pv 5) po_none (po_some pe_int)) (pv 7)))))) (blkOk_by (N := scNames_N) (sc := scNames_S) (by decide +kernel)) (fun _ _ _ _ _ => (pg_name (i := 8) scNames.nd rfl (Or.inl rfl))) (fun _ _ _ _ _ => pts_one (pt_cmpR (op_notIn_seqK K) (pv 8) (pv 3) (by with_unfolding_all rfl))) (fun _ _ _ _ _ => (pv 8))) pe_int (fun _ _ => rfl)) pa_nil))))))
    (pss_one (ps_ret (pv 3)))))
    )
  case read =>
    obtain ⟨b, n, m, rfl, n0, n3, hb, hm, q⟩ := h
    have hzz : zz = 1099511627776 := rfl
    refine ⟨Nat.zero_le _, fun F nF => ⟨(by show 2 ≤ sizeLine; decide), fun T nT => ⟨T, _, rfl, SqT.of upd_same, rfl, _, _, rfl, _, _, rfl, rfl, ?_⟩⟩⟩
    have x1 := Ex.new (o := .lst []) nF
    have x2 := Ex.new (o := .tup [V.str letters, .ref F]) nT
    have hF0 : upd (upd H F (.lst [])) T (.tup [V.str letters, .ref F]) F = some (.lst []) := x2 _ _ upd_same
    have x0 := x1.trans x2
    show _
    refine ⟨_, rfl, n, rfl, by omega, by omega, for_it (walk_range (lo := 0) (n := n.toNat)) (fun i σ H' => ∃ k nm ys, σ = [some (.ref b), some (.int n), some (.str letters), some (.ref F), k, nm, none, none, none] ∧ Ch [b] H H' ∧ Tk H H' ∧ BoxAt H' b (m + 10 * i) ∧ H' F = some (.lst (ys.map V.str)) ∧ ys.length = i)
      ⟨none, none, [], rfl, Ch.of x0, tk_ex x0, hb.ex x0, hF0, rfl⟩ (fun _ _ _ _ _ => trivial) (fun i x σ H' H2 hi h y => ?_) (fun σ H' h => ?_)⟩
    · obtain ⟨rfl, rfl⟩ := y
      obtain ⟨k, nm0, ys, rfl, c, k1, hb1, hF, hyl⟩ := h
      have nbF : F ≠ b := fun z => by obtain ⟨_, _, _, e, _⟩ := hb; rw [← z, nF] at e; cases e
      refine ⟨⟨_, rfl⟩, (by show 4 ≤ sizeLine; decide), fun L1 nL1 => ?_⟩
      have y1 := Ex.new (o := .lst [V.int 1, .int 1, .int 2, .int 6]) nL1
      have hL1 : upd H2 L1 (.lst [V.int 1, .int 1, .int 2, .int 6]) L1 = some (.lst [V.int 1, .int 1, .int 2, .int 6]) := upd_same
      have hF1 := y1 _ _ hF
      have hb2 := hb1.ex y1
      have c2 := c.trans (Ch.of y1)
      have k2 := k1.trans (tk_ex y1)
      generalize upd H2 L1 (.lst [V.int 1, .int 1, .int 2, .int 6]) = G1 at *
      have nL1b : L1 ≠ b := fun z => by obtain ⟨_, _, _, e, _⟩ := hb1; rw [← z, nL1] at e; cases e
      refine ⟨_, rfl, b, 4, m + 10 * i, rfl, by decide, by decide, hb2, by omega, fun G2 r c3 k3 hb3 r0 r1 => ?_⟩
      have hF2 := c3 _ _ (by simp [nbF]) hF1
      obtain ⟨v, hv, v0, v6⟩ := pick4 r r0 r1
      refine ⟨L1, _, r, _, rfl, rfl, SqL.of (c3 _ _ (by simp [nL1b]) hL1), hv, v, rfl, by omega, by omega, fun D nD => ?_⟩
      have c4 := c2.trans c3
      have k4 := k2.trans k3
      have nDb : D ≠ b := fun z => by obtain ⟨_, _, _, e, _⟩ := hb3; rw [← z, nD] at e; cases e
      refine loop_walk (walk_range (lo := 0) (n := v.toNat)) (fun j H' => Ch [b] G2 H' ∧ Tk G2 H' ∧ BoxAt H' b (m + 10 * i + 1 + j) ∧ ∃ zs : List Str, H' D = some (.lst (zs.map V.str)) ∧ zs.length = j ∧ ∀ z ∈ zs, z.length = 1)
        ⟨Ch.of (Ex.new nD), tk_new nD, hb3.ex (Ex.new nD), [], upd_same, rfl, by simp⟩ (fun _ _ _ _ => trivial) (fun j x H3 H4 hj h y => ?_) (fun H3 h => ?_)
      · obtain ⟨rfl, rfl⟩ := y
        obtain ⟨c5, k5, hb5, zs, hD, hzl, hz1⟩ := h
        refine ⟨rfl, _, rfl, _, rfl, b, 26, _, rfl, by decide, by decide, hb5, by omega, fun H5 r2 c6 k6 hb6 s0 s1 => ?_⟩
        have hlt : r2.toNat < letters.cps.toList.length := by rw [letters_len]; omega
        have hD6 := c6 _ _ (by simp [nDb]) hD
        refine ⟨letters, r2, _, rfl, rfl, (by show letters.cps.size ≤ sizeLine; rw [letters_sz]; decide), atI_pos s0 (List.getElem?_eq_getElem hlt), _, hD6, small' (by rw [List.length_map]; omega), (c5.trans c6).mut nD, (k5.trans k6).mut hD6 rfl, ?_, zs ++ [⟨#[letters.cps.toList[r2.toNat]]⟩], by rw [upd_same, List.map_append]; rfl, by rw [List.length_append, hzl]; rfl, ?_⟩
        · exact (hb6.ch (ex := [D]) (Ch.upd (by simp)) (by simp [Ne.symm nDb])).mono (by omega)
        · intro z hz
          rcases List.mem_append.mp hz with h | h
          · exact hz1 z h
          · rw [List.mem_singleton.mp h]; rfl
      · obtain ⟨c5, k5, hb5, zs, hD, hzl, hz1⟩ := h
        have hs1 := sum_ones hz1
        have es0 : ("" : Str).length = 0 := by decide +kernel
        have hnl : (Txt.join "" zs).length ≤ 6 := by
          have e := PySem.size_glued "" zs
          have e2 : ("" : Str).length = 0 := by decide +kernel
          rw [e2, Nat.mul_zero, hs1] at e
          show (Builtin.Str.glued "" zs).length ≤ 6
          omega
        have hF5 := c5 _ _ (by simp [nbF]) hF2
        refine ⟨"", D, zs, rfl, rfl, .inl (SqL.of hD), (by rw [hs1, es0]; omega), ?_⟩
        generalize Txt.join "" zs = nm at hnl
        have c6 := c4.trans c5
        have k6 := k4.trans k5
        have hcl := cutS_length nm none (some 5)
        refine ⟨_, rfl, .inl ⟨rfl, _, SqL.of hF5⟩, _, rfl, (by show 1 ≤ sizeLine; decide), fun L2 nL2 => ⟨_, rfl, letters, rfl, fun D1 nD1 => ?_⟩⟩
        have y2 := Ex.new (o := .lst [V.str nm]) nL2
        have hL2 : upd H3 L2 (.lst [V.str nm]) L2 = some (.lst [V.str nm]) := upd_same
        generalize upd H3 L2 (.lst [V.str nm]) = G3 at *
        refine loop_walk (walk_str (z := letters)) (fun j H' => Ex G3 H' ∧ H' D1 = some (.lst (((letters.cps.toList.take j).map (endS (cutS nm none (some 5)))).map V.str)))
          ⟨Ex.new nD1, upd_same⟩ (fun _ _ _ _ => trivial) (fun j x H4 H5 hj h y => ?_) (fun H4 h => ?_)
        · obtain ⟨rfl, ch, hch, rfl⟩ := y
          obtain ⟨e4, hD1⟩ := h
          have hch2 : letters.cps.toList[j]? = some ch := by rw [Array.getElem?_toList]; exact hch
          refine ⟨rfl, _, rfl, _, rfl, nm, rfl, small (by omega), _, rfl, _, _, rfl, rfl, small (by show _ + 1 ≤ _; omega), _, hD1, small' (by rw [List.length_map, List.length_map, List.length_take, letters_len]; omega), e4.mut nD1, ?_⟩
          rw [upd_same, take_more hch2, List.map_append, List.map_append]
          rfl
        · obtain ⟨e4, hD1⟩ := h
          have ec : letters.cps.toList.take letters.cps.size = letters.cps.toList := by rw [letters_sz, ← letters_len, List.take_length]
          rw [ec] at hD1
          have hL24 := e4 _ _ hL2
          refine ⟨L2, D1, _, _, rfl, rfl, hL24, hD1, small (by rw [List.length_map, List.length_map, letters_len]; show 1 + 26 ≤ _; omega), fun p np => ?_⟩
          have y5 := Ex.new (o := .lst ([V.str nm] ++ ((letters.cps.toList.map (endS (cutS nm none (some 5)))).map V.str))) np
          have hp : upd H4 p (.lst ([V.str nm] ++ ((letters.cps.toList.map (endS (cutS nm none (some 5)))).map V.str))) p = some (.lst ((cands nm).map V.str)) := upd_same
          generalize upd H4 p (.lst ([V.str nm] ++ ((letters.cps.toList.map (endS (cutS nm none (some 5)))).map V.str))) = G5 at *
          have e5 := (y2.trans e4).trans y5
          have hF6 := e5 _ _ hF5
          refine ⟨p, rfl, ⟨_, SqL.of hp⟩, fun D2 nD2 => ?_⟩
          refine loop_walk (walk_list (xs := (cands nm).map V.str)) (fun j H' => Ex G5 H' ∧ H' D2 = some (.lst ((((cands nm).take j).filter (fun z => decide (z ∉ ys))).map V.str)))
            ⟨Ex.new nD2, upd_same⟩ (fun j H' _ h => h.1.sq (SqL.of hp)) (fun j x H6 H7 hj h y => ?_) (fun H6 h => ?_)
          · obtain ⟨rfl, hx⟩ := y
            obtain ⟨e6, hD2⟩ := h
            rw [List.getElem?_map] at hx
            obtain ⟨z, hz, rfl⟩ := Option.map_eq_some_iff.mp hx
            have hfl := List.length_filter_le (fun z => decide (z ∉ ys)) ((cands nm).take j)
            rw [List.length_take, cands_len] at hfl
            refine ⟨rfl, _, rfl, _, rfl, F, _, rfl, .inl (SqL.of (e6 _ _ hF6)), rfl, flat_strs ys, _, rfl, if_2 (fun cc => ?_) (fun cc => ?_)⟩
            · rw [inV_str] at cc
              have hn : z ∉ ys := by simpa using cc
              refine ⟨_, rfl, _, hD2, small' (by rw [List.length_map]; omega), e6.mut nD2, ?_⟩
              rw [upd_same, take_more hz, List.filter_append, List.map_append, List.filter_cons_of_pos (by simpa using hn)]
              rfl
            · rw [inV_str] at cc
              have hn : z ∈ ys := by simpa using cc
              refine ⟨e6, ?_⟩
              rw [take_more hz, List.filter_append, List.filter_cons_of_neg (by simpa using hn)]
              simpa using hD2
          · obtain ⟨e6, hD2⟩ := h
            rw [List.length_map, List.take_length] at hD2
            have hne := cands_some nm (ys := ys) (by omega)
            obtain ⟨z, zs', hzz'⟩ := List.exists_cons_of_ne_nil hne
            rw [hzz'] at hD2
            have hF7 := e6 _ _ hF6
            refine ⟨D2, _, 0, .str z, rfl, rfl, SqL.of hD2, atI_pos (Int.le_refl 0) rfl, F, _, _, rfl, rfl, hF7, small' (by rw [List.length_map]; omega), _, _, ys ++ [z], rfl, ?_, ?_, ?_, by rw [upd_same, List.map_append]; rfl, by rw [List.length_append, hyl]; rfl⟩
            · exact (c6.trans (Ch.of (e5.trans e6))).mut nF
            · exact (k6.trans (tk_ex (e5.trans e6))).mut hF7 rfl
            · exact ((hb5.ex (e5.trans e6)).ch (ex := [F]) (Ch.upd (by simp)) (by simp [Ne.symm nbF])).mono (by omega)
    · obtain ⟨k, nm, ys, rfl, c, k1, hb1, hF, hyl⟩ := h
      exact ⟨_, rfl, q _ F ys c k1 (hb1.mono (by omega)) nF hF hyl⟩
theorem d__law_stand (hT : Txt w K mg) : Def P w K mg base CX0 3 "_law_stand" scStand_P (spStand K) := by
  have d__law_take := d__law_take (P := P) (base := base) hT
  have d__law_pick := d__law_pick (P := P) (base := base) hT
  have d__law_names := d__law_names (P := P) (base := base) hT
  have d__law_put_together := d__law_put_together (P := P) (base := base) hT
  refine Def.of hT (st := lStand) (by simp [fn]) (by decide +kernel) scStand (fun _ _ _ _ _ _ us hl => match us, hl with | [_, _, _, _, _], _ => rfl) (fun vs H Q E h => by obtain ⟨b, m, rfl, _⟩ := h; rfl) fun cdv A outer s H vs Q E hr h => ?_
  refine' ⟨_, PSs.nox ?walk, ?read⟩
  case walk => exact (
    (pss_cons (ps_asg (pe_tup (pa_cons (pe_fn d__law_names hr (pa_cons (pv 0) (pa_cons (pe_op op_add pe_int (pe_fn d__law_take hr (pa_cons (pv 0) (pa_cons (pv 3) pa_nil)))) pa_nil))) (pa_cons (pe_lst pa_nil) pa_nil))) (pg_tup rfl (pgs_cons (pg_name (i := 5) scStand.nd rfl (Or.inr rfl)) (pgs_cons (pg_name (i := 6) scStand.nd rfl (Or.inl rfl)) pgs_nil))))
    (pss_cons (ps_for PassesOwn.never rfl (pi_range1 (by rfl) (hT.free "range" (by decide +kernel)) (pa_cons (pe_op op_add pe_int (pe_fn d__law_take hr (pa_cons (pv 0) (pa_cons (pv 1) pa_nil)))) pa_nil)) (pg_name (i := 7) scStand.nd rfl (Or.inl rfl))
    (pss_cons (ps_setLc (i := 8) (own := [("_law_row", 9)]) rfl scStand.nd rfl rfl (sw_true rfl rfl rfl (by decide +kernel)) (pi_range1 (by rfl) (hT.free "range" (by decide +kernel)) (pa_cons (pe_fn d__law_take hr (pa_cons (pv 0) (pa_cons (pe_op op_add (pv 2) pe_int) pa_nil))) pa_nil)) (blkOk_by (N := scStand_N) (sc := scStand_S) (by decide +kernel)) (fun _ _ _ _ _ => (pg_name (i := 9) scStand.nd rfl (Or.inl rfl))) (fun _ _ _ _ _ => pts_nil) (fun _ _ _ _ _ => (pe_tup (pa_cons (pe_fn d__law_pick hr (pa_cons (pv 0) (pa_cons (pv 5) pa_nil))) (pa_cons (pe_op op_add pe_int (pe_fn d__law_take hr (pa_cons (pv 0) (pa_cons (pv 4) pa_nil)))) pa_nil)))))
    (pss_one (ps_expr (pe_bm PySem.F.plainAttrs_list PySem.F.slot_list_append PySem.F.type_list_append mt_append (pv 6) (pa_cons (pe_fn d__law_put_together hr (pa_cons (pv 8) pa_nil)) pa_nil))))))
    (pss_cons (ps_if (pt_not (pt_val (pe_callB (cr_any rfl) (by rfl) (hT.free "any" (by decide +kernel)) (by decide +kernel) (pa_cons (pe_lc (own := [("_law_plank", 7)]) rfl scStand.nd (pi_list (pv 6)) (blkOk_by (N := scStand_N) (sc := scStand_S) (by decide +kernel)) (fun _ _ _ _ _ => (pg_name (i := 7) scStand.nd rfl (Or.inl rfl))) (fun _ _ _ _ _ => pts_nil) (fun _ _ _ _ _ => (pe_cmpR (op_ne0 K hr.units0) (pv 7) (pe_tup pa_nil) (nomark _)))) pa_nil))))
    (pss_one (ps_asg (pe_tup (pa_cons (pe_tup (pa_cons (pe_ix ix_list (pv 5) pe_int (fun _ _ => rfl)) (pa_cons (pe_op op_add pe_int (pe_fn d__law_take hr (pa_cons (pv 0) (pa_cons (pv 4) pa_nil)))) pa_nil))) pa_nil)) (pg_sub (pv 6) pe_int set_list)))
    pss_nil)
    (pss_one (ps_ret (pe_callTy cr_tupN (by rfl) (hT.free "tuple" (by decide +kernel)) (by decide +kernel) (pa_cons (pv 6) pa_nil)))))))
    )
  case read =>
    obtain ⟨b, m, rfl, hb, hm, q⟩ := h
    have hzz : zz = 1099511627776 := rfl
    have hbo := hb
    obtain ⟨_, _, _, hbl, _⟩ := hbo
    have nb_ : ∀ {p : Addr}, H p = none → p ≠ b := fun hp z => by rw [z, hbl] at hp; cases hp
    refine ⟨_, rfl, _, rfl, _, rfl, b, 3, m, rfl, by decide, by decide, hb, by omega, fun H1 r c1 k1 hb1 r0 r1 => ⟨_, _, rfl, rfl, b, 1 + r, m + 1, rfl, by omega, by omega, hb1, by omega, fun H2 N ns c2 k2 hb2 nN hN hnl => ⟨Nat.zero_le _, fun F nF => ⟨(by show 2 ≤ sizeLine; decide), fun T nT => ⟨T, _, rfl, SqT.of upd_same, rfl, _, _, rfl, _, _, rfl, rfl, ?_⟩⟩⟩⟩⟩
    have x1 := Ex.new (o := .lst []) nF
    have x2 := Ex.new (o := .tup [V.ref N, .ref F]) nT
    have hF0 : upd (upd H2 F (.lst [])) T (.tup [V.ref N, .ref F]) F = some (.lst []) := x2 _ _ upd_same
    have x0 := x1.trans x2
    generalize upd (upd H2 F (.lst [])) T (.tup [V.ref N, .ref F]) = G at *
    have c12 := c1.trans c2
    have nNb : N ≠ b := fun z => by obtain ⟨_, _, _, e, _⟩ := hb1; rw [← z, nN] at e; cases e
    have nFb : F ≠ b := fun z => by obtain ⟨_, _, _, e, _⟩ := hb2; rw [← z, nF] at e; cases e
    have nHF : H F = none := c12.nn nF (by simp [nFb])
    have cG := c12.trans (Ch.of x0)
    have kG := (k1.trans k2).trans (tk_ex x0)
    have hns : ns ≠ [] := fun z => by rw [z] at hnl; simp at hnl; omega
    have nNF : N ≠ F := ne_of_none hN nF
    have hN0 := x0 _ _ hN
    have hb3 := hb2.ex x0
    have nsl : ns.length ≤ 3 := by omega
    refine ⟨_, rfl, _, rfl, b, 2, _, rfl, by decide, by decide, hb3, by omega, fun H3 r2 c3 k3 hb4 s0 s1 => ⟨_, _, rfl, rfl, 1 + r2, rfl, by omega, by omega, for_it (walk_range (lo := 0) (n := (1 + r2).toNat)) (fun i σ H' => ∃ pl lot xs st, σ = [some (.ref b), some (.int 2), some (.int 4), some (.int 3), some (.int 2), some (.ref N), some (.ref F), pl, lot, none] ∧ Ch [b] H H' ∧ Tk H H' ∧ BoxAt H' b (m + 32 + 10 * i) ∧
        H' F = some (.lst xs) ∧ Paired (ShV H') xs st ∧ st.length = i ∧ PosS st ∧ total st ≤ 8 * i ∧ H' N = some (.lst (ns.map V.str)))
      ⟨none, none, [], [], rfl, cG.trans c3, kG.trans k3, hb4.mono (by omega), c3 _ _ (by simp [nFb]) hF0, .nil, rfl, fun _ h => (by cases h), by rw [total_nil]; decide, c3 _ _ (by simp [nNb]) hN0⟩ (fun _ _ _ _ _ => trivial) (fun i x σ H' H'' hi h y => ?_) (fun σ H' h => ?_)⟩⟩
    · obtain ⟨rfl, rfl⟩ := y
      obtain ⟨pl, lot, xs, st, rfl, c, k, hb, hF, hxs, hsl, hps, htt, hN⟩ := h
      have hxl := plen hxs
      refine ⟨_, rfl, _, rfl, _, _, rfl, rfl, b, 5, _, rfl, by decide, by decide, hb, by omega, fun H4 r4 c4 k4 hb5 u0 u1 => ⟨_, rfl, by omega, by omega, fun D nD => ?_⟩⟩
      have nDb : D ≠ b := fun z => by obtain ⟨_, _, _, e, _⟩ := hb5; rw [← z, nD] at e; cases e
      refine loop_walk (walk_range (lo := 0) (n := r4.toNat)) (fun j H' => Ch [b] H4 H' ∧ Tk H4 H' ∧ BoxAt H' b (m + 32 + 10 * i + 1 + 2 * j) ∧ ∃ ys l, H' D = some (.lst ys) ∧ Paired (RunV H') ys l ∧ l.length = j ∧ ∀ r ∈ l, 0 < r.2 ∧ r.2 ≤ 2)
        ⟨Ch.of (Ex.new nD), tk_new nD, hb5.ex (Ex.new nD), [], [], upd_same, .nil, rfl, by simp⟩ (fun _ _ _ _ => trivial) (fun j x H5 H6 hj h y => ?_) (fun H5 h => ?_)
      · obtain ⟨rfl, rfl⟩ := y
        obtain ⟨c5, k5, hb6, ys, l, hD, hys, hll, hl2⟩ := h
        have hN5 := c5 _ _ (by simp [nNb]) (c4 _ _ (by simp [nNb]) hN)
        refine ⟨rfl, _, rfl, _, rfl, b, N, _, _, rfl, hN5, nNb, by simpa using hns, by rw [List.length_map]; omega, hb6, by omega, fun H7 z c7 k7 hb7 hz => ?_⟩
        obtain ⟨nm, hnm, rfl⟩ := List.mem_map.mp hz
        refine ⟨_, rfl, _, rfl, b, 2, _, rfl, by decide, by decide, hb7, by omega, fun H8 r8 c8 k8 hb8 w0 w1 => ⟨_, _, rfl, rfl, (by show 2 ≤ sizeLine; decide), fun t nt => ?_⟩⟩
        have c78 := (c5.trans c7).trans c8
        have k78 := (k5.trans k7).trans k8
        have hD8 := c8 _ _ (by simp [nDb]) (c7 _ _ (by simp [nDb]) hD)
        have hDt : D ≠ t := ne_of_none hD8 nt
        have hyl := plen hys
        have e9 := Ex.new (o := .tup [V.str nm, .int (1 + r8)]) nt
        have hD9 := e9 _ _ hD8
        have ht9 : upd H8 t (.tup [V.str nm, .int (1 + r8)]) t = some (.tup [V.str nm, .int (1 + r8)]) := upd_same
        have k9 := k78.trans (tk_ex e9)
        have k9' := (k7.trans k8).trans (tk_ex e9)
        have c9 := c78.trans (Ch.of e9)
        have hb9 := hb8.ex e9
        generalize upd H8 t (.tup [V.str nm, .int (1 + r8)]) = G9 at *
        have k10 : Tk G9 (upd G9 D (.lst (ys ++ [.ref t]))) := tk_upd hD9 rfl
        refine ⟨ys, hD9, small' (by omega), c9.mut nD, k9.trans k10, (hb9.ch (ex := [D]) (Ch.upd (by simp)) (by simp [Ne.symm nDb])).mono (by omega), _, l ++ [(nm, 1 + r8)], upd_same, psnoc (pmono mon_run (k9'.trans k10) hys) ⟨t, rfl, .inl (k10 _ _ rfl ht9)⟩, by rw [List.length_append, hll]; rfl, ?_⟩
        intro r hr
        rcases List.mem_append.mp hr with h | h
        · exact hl2 r h
        · rw [List.mem_singleton.mp h]
          exact ⟨by show 0 < 1 + r8; omega, by show 1 + r8 ≤ 2; omega⟩
      · obtain ⟨c5, k5, hb6, ys, l, hD, hys, hll, hl2⟩ := h
        have hF5 := c5 _ _ (by simp [nFb]) (c4 _ _ (by simp [nFb]) hF)
        have hN5 := c5 _ _ (by simp [nNb]) (c4 _ _ (by simp [nNb]) hN)
        refine ⟨_, rfl, .inl ⟨rfl, _, SqL.of hF5⟩, _, rfl, D, ys, l, rfl, SqL.of hD, hys, by omega, fun H7 v e7 hv => ?_⟩
        have hF7 := e7 _ _ hF5
        have hN7 := e7 _ _ hN5
        have k8 : Tk H7 (upd H7 F (.lst (xs ++ [v]))) := tk_upd hF7 rfl
        have k58 := ((k4.trans k5).trans (tk_ex e7)).trans k8
        have hsum : sumR (joinR l) ≤ 8 := by
          rw [join_sum fun r hr => by have := (hl2 r hr).1; omega]
          have g : ∀ l : List Run, (∀ r ∈ l, 0 < r.2 ∧ r.2 ≤ 2) → sumR l ≤ 2 * l.length := fun l => by
            induction l with
            | nil => intro _; rw [sumR_nil]; simp
            | cons r l ih =>
              intro h
              have h1 := h r List.mem_cons_self
              have h2 := ih fun x hx => h x (List.mem_cons_of_mem _ hx)
              rw [sumR_cons, List.length_cons]
              omega
          have := g l hl2
          omega
        refine ⟨F, xs, v, rfl, rfl, hF7, small' (by omega), _, _, _, st ++ [joinR l], rfl, ((c.trans c4).trans (c5.trans (Ch.of e7))).mut nHF, k.trans k58, ((hb6.ex e7).ch (ex := [F]) (Ch.upd (by simp)) (by simp [Ne.symm nFb])).mono (by omega), upd_same, psnoc (pmono mon_sh k58 hxs) (mon_sh _ _ _ _ k8 hv), by rw [List.length_append, hsl]; rfl, ?_, ?_, ?_⟩
        · intro sh hs
          rcases List.mem_append.mp hs with h | h
          · exact hps sh h
          · rw [List.mem_singleton.mp h]
            exact join_pos l
        · have e : total (st ++ [joinR l]) = total st + sumR (joinR l) := by
            unfold total
            rw [List.map_append, List.sum_append]
            simp
          rw [e]
          omega
        · rw [upd_ne nNF]
          exact hN7
    · obtain ⟨pl, lot, xs, st, rfl, c, k, hb, hF, hxs, hsl, hps, htt, hN⟩ := h
      have hxl := plen hxs
      refine ⟨_, rfl, F, rfl, ⟨_, SqL.of hF⟩, fun D nD => ?_⟩
      have nDF : D ≠ F := (ne_of_none hF nD).symm
      refine loop_walk (walk_list (xs := xs)) (fun j H2 => Ex H' H2 ∧ ∃ bs : List Bool, H2 D = some (.lst (bs.map V.bl)) ∧ bs.length = j)
        ⟨Ex.new nD, [], upd_same, rfl⟩ (fun j H2 _ h => h.1.sq (SqL.of hF)) (fun j x H5 H6 hj h y => ?_) (fun H5 h => ?_)
      · obtain ⟨rfl, hx⟩ := y
        obtain ⟨e5, bs, hD, hbl⟩ := h
        obtain ⟨sh, _, a, ws, rfl, rd, _⟩ := pgetL hxs hx
        refine ⟨rfl, _, rfl, Nat.zero_le _, fun e ne => ⟨a, e, ws, rfl, rfl, .inl ⟨rd_sq ((tk_ex (e5.trans (Ex.new ne))).rd rd), SqT.of upd_same⟩, _, Ex.new ne _ _ hD, small' (by rw [List.length_map]; omega), (e5.trans (Ex.new ne)).mut nD, bs ++ [!ws.isEmpty], by rw [upd_same, List.map_append]; rfl, by rw [List.length_append, hbl]; rfl⟩⟩
      · obtain ⟨e5, bs, hD, hbl⟩ := h
        have hF5 := e5 _ _ hF
        have hN5 := e5 _ _ hN
        have c5 := c.trans (Ch.of e5)
        have k5 := k.trans (tk_ex e5)
        have hb5 := hb.ex e5
        have hxs5 := pmono mon_sh (tk_ex e5) hxs
        refine ⟨D, bs, rfl, SqL.of hD, _, rfl, if_2 (fun cc => ?_) (fun cc => ?_)⟩
        · obtain ⟨z, zs, rfl⟩ := List.exists_cons_of_ne_nil hns
          have hpos : 0 < xs.length := by omega
          refine ⟨_, rfl, N, _, 0, .str z, rfl, rfl, SqL.of hN5, atI_pos (Int.le_refl 0) rfl, _, rfl, _, rfl, b, 2, _, rfl, by decide, by decide, hb5, by omega, fun H8 r8 c8 k8 hb8 w0 w1 => ⟨_, _, rfl, rfl, (by show 2 ≤ sizeLine; decide), fun t nt => ⟨(by show 1 ≤ sizeLine; decide), fun t2 nt2 => ?_⟩⟩⟩
          have y1 := Ex.new (o := .tup [V.str z, .int (1 + r8)]) nt
          have y2 := Ex.new (o := .tup [V.ref t]) nt2
          have ht : upd (upd H8 t (.tup [V.str z, .int (1 + r8)])) t2 (.tup [V.ref t]) t = some (.tup [V.str z, .int (1 + r8)]) := y2 _ _ upd_same
          have ht2 : upd (upd H8 t (.tup [V.str z, .int (1 + r8)])) t2 (.tup [V.ref t]) t2 = some (.tup [V.ref t]) := upd_same
          have y3 := y1.trans y2
          generalize upd (upd H8 t (.tup [V.str z, .int (1 + r8)])) t2 (.tup [V.ref t]) = G9 at *
          have hF9 := y3 _ _ (c8 _ _ (by simp [nFb]) hF5)
          have k9 : Tk G9 (upd G9 F (.lst (xs.set 0 (.ref t2)))) := tk_upd hF9 rfl
          have k89 := (k8.trans (tk_ex y3)).trans k9
          have c9 := (c5.trans (c8.trans (Ch.of y3))).mut (o := .lst (xs.set 0 (.ref t2))) nHF
          have hb9 := (hb8.ex y3).ch (ex := [F]) (H' := upd G9 F (.lst (xs.set 0 (.ref t2)))) (Ch.upd (by simp)) (by simp [Ne.symm nFb])
          have hF10 : upd G9 F (.lst (xs.set 0 (.ref t2))) F = some (.lst (xs.set 0 (.ref t2))) := upd_same
          have hxs9 : Paired (ShV (upd G9 F (.lst (xs.set 0 (.ref t2))))) (xs.set 0 (.ref t2)) (st.set 0 [(z, 1 + r8)]) := pset 0 (pmono mon_sh k89 hxs5) ⟨t2, _, rfl, .inl (k9 _ _ rfl ht2), .cons ⟨t, rfl, .inl (k9 _ _ rfl ht)⟩ .nil⟩
          refine ⟨_, rfl, F, xs, 0, 0, rfl, rfl, hF9, ixN_nat (Int.le_refl 0) (by omega), ?_⟩
          generalize upd G9 F (.lst (xs.set 0 (.ref t2))) = G10 at *
          refine ⟨_, rfl, F, _, rfl, .inl ⟨SqL.of hF10, fun p o np ho => ?_⟩⟩
          have e11 := Ex.new (o := HO.frz o (.tup (xs.set 0 (.ref t2)))) np
          obtain ⟨s0', st', rfl⟩ : ∃ s0' st', st = s0' :: st' := List.exists_cons_of_ne_nil (fun z => by rw [z] at hsl; simp at hsl; omega)
          refine q _ _ ([(z, 1 + r8)] :: st') (c9.trans (Ch.of e11)) ((k5.trans k89).trans (tk_ex e11)) ((hb9.ex e11).mono (by omega)) ⟨p, _, rfl, .inr ⟨o, upd_same⟩, pmono mon_sh (tk_ex e11) hxs9⟩ ?_ ?_ ?_
          · intro sh hs
            rcases List.mem_cons.mp hs with h | h
            · rw [h]
              exact AllPos.one (by show 0 < 1 + r8; omega)
            · exact hps sh (List.mem_cons_of_mem _ h)
          · rw [List.length_cons] at hsl ⊢
            omega
          · have h1 := total_cons s0' st'
            have h2 := sum_nonneg (hps s0' List.mem_cons_self)
            have e1 : sumR [(z, 1 + r8)] = 1 + r8 := by rw [sumR_cons, sumR_nil]; show 1 + r8 + 0 = _; omega
            rw [total_cons, e1]
            omega
        · refine ⟨_, rfl, F, xs, rfl, .inl ⟨SqL.of hF5, fun p o np ho => ?_⟩⟩
          have e11 := Ex.new (o := HO.frz o (.tup xs)) np
          exact q _ _ st (c5.trans (Ch.of e11)) (k5.trans (tk_ex e11)) ((hb5.ex e11).mono (by omega)) ⟨p, _, rfl, .inr ⟨o, upd_same⟩, pmono mon_sh (tk_ex e11) hxs5⟩ hps (by omega) (by omega)
end
end Sh
/-! The law's own look at shelves. -/
namespace Sh
open PySem PySem.Spec PyProof.Rows L2
abbrev scSums_N : List Str := ["_law_here", "_law_found", "_law_plank", "_law_sort", "_law_size"]
abbrev scSums_P : List Str := ["_law_here"]
abbrev scSums_S : Scope := defScope lSums
theorem scSums : FnScope scSums_N scSums_P (defScope lSums) := ⟨rfl, rfl, rfl, by decide +kernel, rfl, by decide +kernel, by decide +kernel⟩
abbrev scSpots_N : List Str := ["_law_here", "_law_sort", "_law_found", "_law_at", "_law_plank", "_law_row"]
abbrev scSpots_P : List Str := ["_law_here", "_law_sort"]
abbrev scSpots_S : Scope := defScope lSpots
theorem scSpots : FnScope scSpots_N scSpots_P (defScope lSpots) := ⟨rfl, rfl, rfl, by decide +kernel, rfl, by decide +kernel, by decide +kernel⟩
abbrev scAllSpots2_N : List Str := ["_law_here", "_law_found", "_law_at", "_law_plank", "_law_row"]
abbrev scAllSpots2_P : List Str := ["_law_here"]
abbrev scAllSpots2_S : Scope := defScope lAllSpots
theorem scAllSpots2 : FnScope scAllSpots2_N scAllSpots2_P (defScope lAllSpots) := ⟨rfl, rfl, rfl, by decide +kernel, rfl, by decide +kernel, by decide +kernel⟩
abbrev scWith_N : List Str := ["_law_here", "_law_more", "_law_found", "_law_at", "_law_plank", "_law_rows", "_law_row", "_law_sort", "_law_size"]
abbrev scWith_P : List Str := ["_law_here", "_law_more"]
abbrev scWith_S : Scope := defScope lWith
theorem scWith : FnScope scWith_N scWith_P (defScope lWith) := ⟨rfl, rfl, rfl, by decide +kernel, rfl, by decide +kernel, by decide +kernel⟩
def sumsL (st : Std) : List Run := st.flatten.foldl (fun l r => putR l r.1 (look l r.1 + r.2)) []
theorem keys_putR {l : List Run} {k : Str} {v : Int} (x : Str) : x ∈ keys (putR l k v) ↔ x = k ∨ x ∈ keys l := by
  unfold putR
  split
  · rename_i h
    rw [map_keys]
    have hk := any_keys.mp h
    constructor
    · exact .inr
    · rintro (rfl | h)
      · exact hk
      · exact h
  · unfold keys
    rw [List.map_append]
    simp [or_comm]
theorem putR_len (l : List Run) (k : Str) (v : Int) : (putR l k v).length ≤ l.length + 1 := by
  unfold putR
  split
  · rw [List.length_map]; omega
  · rw [List.length_append]; simp
theorem sums_keys : ∀ (rs l : List Run) (x : Str), x ∈ keys (rs.foldl (fun l r => putR l r.1 (look l r.1 + r.2)) l) ↔ x ∈ keys l ∨ x ∈ keys rs
  | [], l, x => by simp [keys]
  | r :: rs, l, x => by
    rw [List.foldl_cons, sums_keys rs, keys_putR]
    unfold keys
    rw [List.map_cons, List.mem_cons]
    constructor
    · rintro ((h | h) | h)
      · exact .inr (.inl h)
      · exact .inl h
      · exact .inr (.inr h)
    · rintro (h | h | h)
      · exact .inl (.inr h)
      · exact .inl (.inl h)
      · exact .inr h
theorem sums_len : ∀ (rs l : List Run), (rs.foldl (fun l r => putR l r.1 (look l r.1 + r.2)) l).length ≤ l.length + rs.length
  | [], l => by simp
  | r :: rs, l => by
    have h1 := sums_len rs (putR l r.1 (look l r.1 + r.2))
    have h2 := putR_len l r.1 (look l r.1 + r.2)
    rw [List.foldl_cons, List.length_cons]
    omega
theorem sums_has (st : Std) (k : Str) : k ∈ keys (sumsL st) ↔ Has st k := by
  unfold sumsL
  rw [sums_keys]
  unfold keys Has
  simp only [List.map_nil, List.not_mem_nil, false_or, List.mem_map, List.mem_flatten]
  constructor
  · rintro ⟨r, ⟨sh, h1, h2⟩, rfl⟩
    exact ⟨sh, h1, r, h2, rfl⟩
  · rintro ⟨sh, h1, r, h2, rfl⟩
    exact ⟨r, ⟨sh, h1, h2⟩, rfl⟩
def spSums (K : PySem.W.Frag) : Sp := fun vs H Q _ => ∃ (v : V) (st : Std), vs = [v] ∧ StV H v st ∧ Small st ∧ ∀ H' D, Ex H H' → H D = none → H' D = some (.dK ((sumsL st).map kvR)) → Q (.ref D) H'
def spSpots (K : PySem.W.Frag) : Sp := fun vs H Q _ => ∃ (v : V) (st : Std) (k : Str), vs = [v, .str k] ∧ StV H v st ∧ Small st ∧ ∀ H' D xs l, Ex H H' → H D = none → H' D = some (.lst xs) → Paired (SpotV H') xs l → l.length ≤ 1000 → Q (.ref D) H'
def spWith (K : PySem.W.Frag) : Sp := fun vs H Q _ => ∃ (v : V) (st : Std) (d : Addr) (p q dd : Int), vs = [v, .ref d] ∧ StV H v st ∧ Small st ∧ H d = some (.dT [([Sum.inl p, Sum.inl q], .int dd)]) ∧ ∀ H' u, Ex H H' → StV H' u (chg st p q dd) → Q u H'
section
variable {P : Program} {w : World} {K : PySem.W.Frag} {mg : Str → Option Value} {base : Heap}
theorem d__law_sums (hT : Txt w K mg) : Def P w K mg base CX0 1 "_law_sums" scSums_P (spSums K) := by
  refine Def.of hT (st := lSums) (by simp [fn]) (by decide +kernel) scSums (fun _ _ _ _ _ _ us hl => match us, hl with | [_], _ => rfl) (fun vs H Q E h => by obtain ⟨v, st, rfl, _⟩ := h; rfl) fun cdv A outer s H vs Q E hr h => ?_
  have hu := hu_of hr
  refine' ⟨_, PSs.nox ?walk, ?read⟩
  case walk => exact (
    (pss_cons (ps_set (i := 1) scSums.nd rfl (Or.inl rfl) pe_dnewK)
    (pss_cons (ps_for PassesOwn.never rfl (pi_tup (pv 0)) (pg_name (i := 2) scSums.nd rfl (Or.inl rfl))
    (pss_one (ps_for PassesOwn.never rfl (pi_tup (pv 2)) (pg_tup rfl (pgs_cons (pg_name (i := 3) scSums.nd rfl (Or.inl rfl)) (pgs_cons (pg_name (i := 4) scSums.nd rfl (Or.inl rfl)) pgs_nil)))
    (pss_one (ps_dput hu (pv 1) (pv 3) (pe_op op_add (pe_dget2 hu (pv 1) (pv 3) pe_int ⟨rfl, rfl, rfl, rfl⟩) (pv 4)) rfl)))))
    (pss_one (ps_ret (pv 1)))))
    )
  case read =>
    obtain ⟨v, st, rfl, ⟨a, vs, rfl, rd, hp⟩, hz, q⟩ := h
    have hlen := plen hp
    have hzf := hz.flat
    intro F nF
    refine ⟨_, rfl, a, rfl, ⟨_, rd_sq ((tk_new nF).rd rd)⟩, for_it (walk_tup (xs := vs)) (fun i σ H' => ∃ pl so si, σ = [some (.ref a), some (.ref F), pl, so, si] ∧ Ex H H' ∧ H' F = some (.dK ((sumsL (st.take i)).map kvR)))
      ⟨none, none, none, rfl, Ex.new nF, upd_same⟩ (fun i σ H' _ h => by obtain ⟨_, _, _, _, ex, _⟩ := h; exact rd_sq ((tk_ex ex).rd rd)) (fun i x σ H' H2 hi h y => ?_) (fun σ H' h => ?_)⟩
    · obtain ⟨rfl, hx⟩ := y
      obtain ⟨pl, so, si, rfl, ex, hF⟩ := h
      obtain ⟨sh, hsh, b, ws, rfl, rd2, hp2⟩ := pgetL hp hx
      have hl2 := plen hp2
      have hfl := flat_len_take st i
      have es : ∀ j, sumsL (st.take i ++ [sh.take j]) = (sh.take j).foldl (fun l r => putR l r.1 (look l r.1 + r.2)) (sumsL (st.take i)) := fun j => by
        unfold sumsL
        rw [List.flatten_append, List.foldl_append]
        simp
      refine ⟨_, rfl, b, rfl, ⟨_, rd_sq ((tk_ex ex).rd rd2)⟩, for_it (walk_tup (xs := ws)) (fun j σ H' => ∃ so si, σ = [some (.ref a), some (.ref F), some (.ref b), so, si] ∧ Ex H H' ∧ H' F = some (.dK ((sumsL (st.take i ++ [sh.take j])).map kvR)))
        ⟨so, si, rfl, ex, by rw [es]; exact hF⟩ (fun j σ H' _ h => by obtain ⟨_, _, _, ex, _⟩ := h; exact rd_sq ((tk_ex ex).rd rd2)) (fun j x σ H' H2 hj h y => ?_) (fun σ H' h => ?_)⟩
      · obtain ⟨rfl, hx2⟩ := y
        obtain ⟨so, si, rfl, ex, hF⟩ := h
        obtain ⟨r, hr2, c, rfl, rc⟩ := pgetL hp2 hx2
        have hpart := flat_len_part (j := j + 1) hsh
        have hln : (sumsL (st.take i ++ [sh.take j])).length ≤ 1000 := by
          have h1 := sums_len (st.take i ++ [sh.take j]).flatten []
          have h2 : (st.take i ++ [sh.take j]).flatten.length = (st.take i).flatten.length + (sh.take j).length := by rw [List.flatten_append, List.length_append]; simp
          rw [List.length_append] at hpart
          rw [List.length_take] at h2 hpart
          rw [h2, List.length_nil] at h1
          unfold sumsL
          exact Nat.le_trans h1 (by omega)
        generalize hm : sumsL (st.take i ++ [sh.take j]) = l at *
        refine ⟨c, _, rfl, rd_sq ((tk_ex ex).rd rc), rfl, _, _, rfl, _, _, rfl, rfl, ?_⟩
        refine ⟨_, rfl, F, rfl, .inl ⟨_, .inl hF⟩, _, rfl, _, DGet.k (k := Sum.inr r.1) hF, _, rfl, _, _, val_kvR l r.1, rfl, _, rfl, _, rfl, F, _, rfl, DPut.k (k := Sum.inr r.1) hF (small' (by rw [List.length_map]; omega)), ?_⟩
        rw [put_kvR]
        refine ⟨_, _, rfl, ex.mut nF, ?_⟩
        rw [upd_same, es, take_more hr2, List.foldl_append, ← es, hm]
        rfl
      · obtain ⟨so, si, rfl, ex, hF⟩ := h
        rw [hl2, List.take_length] at hF
        exact ⟨_, _, _, rfl, ex, by rw [take_more hsh]; exact hF⟩
    · obtain ⟨pl, so, si, rfl, ex, hF⟩ := h
      rw [hlen, List.take_length] at hF
      exact ⟨_, rfl, q _ _ ex nF hF⟩
theorem d__law_spots (hT : Txt w K mg) : Def P w K mg base CX0 1 "_law_spots" scSpots_P (spSpots K) := by
  refine Def.of hT (st := lSpots) (by simp [fn]) (by decide +kernel) scSpots (fun _ _ _ _ _ _ us hl => match us, hl with | [_, _], _ => rfl) (fun vs H Q E h => by obtain ⟨v, st, k, rfl, _⟩ := h; rfl) fun cdv A outer s H vs Q E hr h => ?_
  refine' ⟨_, PSs.nox ?walk, ?read⟩
  case walk => exact (
    (pss_cons (ps_set (i := 2) scSpots.nd rfl (Or.inl rfl) (pe_lst pa_nil))
    (pss_cons (ps_for PassesOwn.never rfl (pi_enumT (by rfl) (hT.free "enumerate" (by decide +kernel)) (pa_cons (pv 0) pa_nil)) (pg_tup rfl (pgs_cons (pg_name (i := 3) scSpots.nd rfl (Or.inr rfl)) (pgs_cons (pg_name (i := 4) scSpots.nd rfl (Or.inr rfl)) pgs_nil)))
    (pss_one (ps_set (i := 2) scSpots.nd rfl (Or.inl rfl) (pe_op op_cat (pv 2) (pe_lc (own := [("_law_row", 5)]) rfl scSpots.nd (pi_range1 (by rfl) (hT.free "range" (by decide +kernel)) (pa_cons (pe_callB call_len_seq (by rfl) (hT.free "len" (by decide +kernel)) boot_len (pa_cons (pv 4) pa_nil)) pa_nil)) (blkOk_by (N := scSpots_N) (sc := scSpots_S) (by decide +kernel)) (fun _ _ _ _ _ => (pg_name (i := 5) scSpots.nd rfl (Or.inl rfl))) (fun _ _ _ _ _ => pts_one (pt_cmpR op_eq (pe_ix (ix_tupK K) (pe_ix (ix_tupK K) (pv 4) (pv 5) (fun _ _ => rfl)) pe_int (fun _ _ => rfl)) (pv 1) (nomark _))) (fun _ _ _ _ _ => (pe_tup (pa_cons (pv 3) (pa_cons (pv 5) pa_nil)))))))))
    (pss_one (ps_ret (pv 2)))))
    )
  case read =>
    obtain ⟨v, st, k, rfl, ⟨a, vs, rfl, rd, hp⟩, hz, q⟩ := h
    have hlen := plen hp
    have hzf := hz.flat
    refine ⟨Nat.zero_le _, fun F0 nF0 => ?_⟩
    refine ⟨_, rfl, a, vs, rfl, rd_sq ((tk_new nF0).rd rd), for_it (walk_enumT (xs := vs)) (fun i σ H' => ∃ F at_ pl xs l, σ = [some (.ref a), some (.str k), some (.ref F), at_, pl, none] ∧ Ex H H' ∧ H F = none ∧ H' F = some (.lst xs) ∧ Paired (SpotV H') xs l ∧ l.length ≤ (st.take i).flatten.length)
      ⟨F0, none, none, [], [], rfl, Ex.new nF0, nF0, upd_same, .nil, by simp⟩ (fun i σ H' _ h => by obtain ⟨_, _, _, _, _, _, ex, _⟩ := h; exact rd_sq ((tk_ex ex).rd rd)) (fun i x σ H' H2 hi h y => ?_) (fun σ H' h => ?_)⟩
    · obtain ⟨F, at_, pl, xs, l, rfl, ex, nF, hF, hxs, hll⟩ := h
      obtain ⟨T, x1, x2, rfl, nT, rfl, e1, e2⟩ := y
      cases e1
      obtain ⟨sh, hsh, b, ws, rfl, rd2, hp2⟩ := pgetL hp e2
      have exT := Ex.new (o := .tup [V.int (i : Nat), .ref b]) nT
      have hl2 := plen hp2
      have hpart := flat_len_part (j := sh.length) hsh
      rw [List.take_length, List.length_append] at hpart
      have hfi := flat_take hsh
      refine ⟨T, _, rfl, SqT.of upd_same, rfl, _, _, rfl, _, _, rfl, rfl, ?_⟩
      have hF1 := exT _ _ hF
      have e2' := ex.trans exT
      have hxs1 := pmono mon_spot (tk_ex exT) hxs
      generalize upd H' T (.tup [V.int (i : Nat), .ref b]) = G at *
      refine ⟨_, rfl, _, rfl, b, ws, rfl, .inr (rd_sq ((tk_ex e2').rd rd2)), _, rfl, by omega, by omega, fun D nD => ?_⟩
      refine loop_walk (walk_range (lo := 0) (n := ((ws.length : Nat) : Int).toNat)) (fun j H' => Ex G H' ∧ ∃ ys m, H' D = some (.lst ys) ∧ Paired (SpotV H') ys m ∧ m.length ≤ j)
        ⟨Ex.new nD, [], [], upd_same, .nil, by simp⟩ (fun _ _ _ _ => trivial) (fun j x H3 H4 hj h y => ?_) (fun H3 h => ?_)
      · obtain ⟨rfl, rfl⟩ := y
        obtain ⟨e3, ys, m, hD, hys, hm⟩ := h
        have hyl := plen hys
        have hjl : j < ws.length := by omega
        obtain ⟨r, hr2, c, hwc, rc⟩ : ∃ r, sh[j]? = some r ∧ ∃ c, ws[j]? = some (.ref c) ∧ Rd H c (.tup (runV r)) := by
          obtain ⟨r, h1, c, h2, h3⟩ := pgetL hp2 (List.getElem?_eq_getElem hjl)
          exact ⟨r, h1, c, by rw [List.getElem?_eq_getElem hjl, h2], h3⟩
        have tk3 := tk_ex (e2'.trans e3)
        refine ⟨rfl, _, rfl, _, rfl, b, ws, 0 + (j : Int), _, rfl, rfl, rd_sq (tk3.rd rd2), by rw [Int.zero_add]; exact atI_nat hwc, c, _, _, _, rfl, rfl, rd_sq (tk3.rd rc), rfl, _, rfl, rfl, _, rfl, if_2 (fun cc => ?_) (fun cc => ?_)⟩
        · refine ⟨_, rfl, _, rfl, (by show 2 ≤ sizeLine; decide), fun t nt => ?_⟩
          obtain ⟨g1, g2, g3, g4, g5⟩ := grow (zs := [V.int (i : Nat), .int (0 + (j : Nat))]) e3 nD hD nt
          have ee : (0 : Int) + ((j : Nat) : Int) = ((j : Nat) : Int) := Int.zero_add _
          refine ⟨ys, g1, small' (by omega), g2, _, m ++ [(i, j)], g4, psnoc (pmono mon_spot g3 hys) ⟨t, rfl, .inl (g5.trans (by rw [ee]))⟩, by rw [List.length_append]; simp; omega⟩
        · exact ⟨e3, ys, m, hD, hys, by omega⟩
      · obtain ⟨e3, ys, m, hD, hys, hm⟩ := h
        have hyl := plen hys
        have hxl := plen hxs
        have hF3 := e3 _ _ hF1
        refine ⟨F, D, xs, ys, rfl, rfl, hF3, hD, small (by omega), fun p np => ?_⟩
        have e4 := Ex.new (o := .lst (xs ++ ys)) np
        have e5 := (e2'.trans e3).trans e4
        refine ⟨p, _, _, _, l ++ m, rfl, e5, (e2'.trans e3).nn np, upd_same, papp (pmono mon_spot (tk_ex (e3.trans e4)) hxs1) (pmono mon_spot (tk_ex e4) hys), ?_⟩
        rw [hfi, List.length_append, List.length_append]
        omega
    · obtain ⟨F, at_, pl, xs, l, rfl, ex, nF, hF, hxs, hll⟩ := h
      rw [hlen, List.take_length] at hll
      exact ⟨_, rfl, q _ _ _ l ex nF hF hxs (by omega)⟩
theorem d__law_all_spots (hT : Txt w K mg) : Def P w K mg base CX0 1 "_law_all_spots" scAllSpots2_P (spAllSpots K) := by
  refine Def.of hT (st := lAllSpots) (by simp [fn]) (by decide +kernel) scAllSpots2 (fun _ _ _ _ _ _ us hl => match us, hl with | [_], _ => rfl) (fun vs H Q E h => by obtain ⟨v, st, rfl, _⟩ := h; rfl) fun cdv A outer s H vs Q E hr h => ?_
  refine' ⟨_, PSs.nox ?walk, ?read⟩
  case walk => exact (
    (pss_cons (ps_set (i := 1) scAllSpots2.nd rfl (Or.inl rfl) (pe_lst pa_nil))
    (pss_cons (ps_for PassesOwn.never rfl (pi_enumT (by rfl) (hT.free "enumerate" (by decide +kernel)) (pa_cons (pv 0) pa_nil)) (pg_tup rfl (pgs_cons (pg_name (i := 2) scAllSpots2.nd rfl (Or.inr rfl)) (pgs_cons (pg_name (i := 3) scAllSpots2.nd rfl (Or.inl rfl)) pgs_nil)))
    (pss_one (ps_set (i := 1) scAllSpots2.nd rfl (Or.inl rfl) (pe_op op_cat (pv 1) (pe_lc (own := [("_law_row", 4)]) rfl scAllSpots2.nd (pi_range1 (by rfl) (hT.free "range" (by decide +kernel)) (pa_cons (pe_callB call_len_seq (by rfl) (hT.free "len" (by decide +kernel)) boot_len (pa_cons (pv 3) pa_nil)) pa_nil)) (blkOk_by (N := scAllSpots2_N) (sc := scAllSpots2_S) (by decide +kernel)) (fun _ _ _ _ _ => (pg_name (i := 4) scAllSpots2.nd rfl (Or.inl rfl))) (fun _ _ _ _ _ => pts_nil) (fun _ _ _ _ _ => (pe_tup (pa_cons (pv 2) (pa_cons (pv 4) pa_nil)))))))))
    (pss_one (ps_ret (pv 1)))))
    )
  case read =>
    obtain ⟨v, st, rfl, ⟨a, vs, rfl, rd, hp⟩, hz, q⟩ := h
    have hlen := plen hp
    have hzf := hz.flat
    refine ⟨Nat.zero_le _, fun F0 nF0 => ?_⟩
    refine ⟨_, rfl, a, vs, rfl, rd_sq ((tk_new nF0).rd rd), for_it (walk_enumT (xs := vs)) (fun i σ H' => ∃ F at_ pl xs, σ = [some (.ref a), some (.ref F), at_, pl, none] ∧ Ex H H' ∧ H F = none ∧ H' F = some (.lst xs) ∧ Paired (SpotV H') xs (allTo st i))
      ⟨F0, none, none, [], rfl, Ex.new nF0, nF0, upd_same, .nil⟩ (fun i σ H' _ h => by obtain ⟨_, _, _, _, _, ex, _⟩ := h; exact rd_sq ((tk_ex ex).rd rd)) (fun i x σ H' H2 hi h y => ?_) (fun σ H' h => ?_)⟩
    · obtain ⟨F, at_, pl, xs, rfl, ex, nF, hF, hxs⟩ := h
      obtain ⟨T, x1, x2, rfl, nT, rfl, e1, e2⟩ := y
      cases e1
      obtain ⟨sh, hsh, b, ws, rfl, rd2, hp2⟩ := pgetL hp e2
      have exT := Ex.new (o := .tup [V.int (i : Nat), .ref b]) nT
      have hl2 := plen hp2
      have hpart := flat_len_part (j := sh.length) hsh
      rw [List.take_length, List.length_append] at hpart
      refine ⟨T, _, rfl, SqT.of upd_same, rfl, _, _, rfl, _, _, rfl, rfl, ?_⟩
      have hF1 := exT _ _ hF
      have e2' := ex.trans exT
      have hxs1 := pmono mon_spot (tk_ex exT) hxs
      generalize upd H' T (.tup [V.int (i : Nat), .ref b]) = G at *
      refine ⟨_, rfl, _, rfl, b, ws, rfl, .inr (rd_sq ((tk_ex e2').rd rd2)), _, rfl, by omega, by omega, fun D nD => ?_⟩
      refine loop_walk (walk_range (lo := 0) (n := ((ws.length : Nat) : Int).toNat)) (fun j H' => Ex G H' ∧ ∃ ys, H' D = some (.lst ys) ∧ Paired (SpotV H') ys ((List.range j).map fun b => (i, b)))
        ⟨Ex.new nD, [], upd_same, .nil⟩ (fun _ _ _ _ => trivial) (fun j x H3 H4 hj h y => ?_) (fun H3 h => ?_)
      · obtain ⟨rfl, rfl⟩ := y
        obtain ⟨e3, ys, hD, hys⟩ := h
        have hyl := plen hys
        rw [List.length_map, List.length_range] at hyl
        refine ⟨rfl, _, rfl, _, rfl, (by show 2 ≤ sizeLine; decide), fun t nt => ?_⟩
        obtain ⟨g1, g2, g3, g4, g5⟩ := grow (zs := [V.int (i : Nat), .int (0 + (j : Nat))]) e3 nD hD nt
        have ee : (0 : Int) + ((j : Nat) : Int) = ((j : Nat) : Int) := Int.zero_add _
        refine ⟨ys, g1, small' (by omega), g2, _, g4, ?_⟩
        rw [List.range_succ, List.map_append]
        exact psnoc (pmono mon_spot g3 hys) ⟨t, rfl, .inl (g5.trans (by rw [ee]))⟩
      · obtain ⟨e3, ys, hD, hys⟩ := h
        have en : ((ws.length : Nat) : Int).toNat = sh.length := by omega
        rw [en] at hys
        have hyl := plen hys
        rw [List.length_map, List.length_range] at hyl
        have hxl := plen hxs
        rw [allTo_len] at hxl
        rw [List.length_flatten] at hpart
        have hF3 := e3 _ _ hF1
        refine ⟨F, D, xs, ys, rfl, rfl, hF3, hD, small (by first | omega | (rw [List.length_take] at *; omega)), fun p np => ?_⟩
        have e4 := Ex.new (o := .lst (xs ++ ys)) np
        have e5 := (e2'.trans e3).trans e4
        refine ⟨p, _, _, _, rfl, e5, (e2'.trans e3).nn np, upd_same, ?_⟩
        have et : allTo st (i + 1) = allTo st i ++ (List.range sh.length).map fun b => (i, b) := by
          show allTo st i ++ (List.range (st[i]?.getD []).length).map (fun b => (i, b)) = _
          rw [hsh]
          rfl
        rw [et]
        exact papp (pmono mon_spot (tk_ex (e3.trans e4)) hxs1) (pmono mon_spot (tk_ex e4) hys)
    · obtain ⟨F, at_, pl, xs, rfl, ex, nF, hF, hxs⟩ := h
      rw [hlen] at hxs
      exact ⟨_, rfl, q _ _ _ ex nF hF hxs⟩
theorem d__law_with (hT : Txt w K mg) : Def P w K mg base CX0 2 "_law_with" scWith_P (spWith K) := by
  have d__law_put_together := d__law_put_together (P := P) (base := base) hT
  refine Def.of hT (st := lWith) (by simp [fn]) (by decide +kernel) scWith (fun _ _ _ _ _ _ us hl => match us, hl with | [_, _], _ => rfl) (fun vs H Q E h => by obtain ⟨v, st, d, p, q, dd, rfl, _⟩ := h; rfl) fun cdv A outer s H vs Q E hr h => ?_
  have hu := hu_of hr
  refine' ⟨_, PSs.nox ?walk, ?read⟩
  case walk => exact (
    (pss_cons (ps_set (i := 2) scWith.nd rfl (Or.inl rfl) (pe_lst pa_nil))
    (pss_cons (ps_for PassesOwn.never rfl (pi_enumT (by rfl) (hT.free "enumerate" (by decide +kernel)) (pa_cons (pv 0) pa_nil)) (pg_tup rfl (pgs_cons (pg_name (i := 3) scWith.nd rfl (Or.inr rfl)) (pgs_cons (pg_name (i := 4) scWith.nd rfl (Or.inl rfl)) pgs_nil)))
    (pss_cons (ps_setLc (i := 5) (own := [("_law_row", 6), ("_law_sort", 7), ("_law_size", 8)]) rfl scWith.nd rfl rfl (sw_true rfl rfl rfl (by decide +kernel)) (pi_enumT (by rfl) (hT.free "enumerate" (by decide +kernel)) (pa_cons (pv 4) pa_nil)) (blkOk_by (N := scWith_N) (sc := scWith_S) (by decide +kernel)) (fun _ _ _ _ _ => (pg_tupK (n := 2) K rfl (pgs_cons (pg_name (i := 6) scWith.nd rfl (Or.inl rfl)) (pgs_cons (pg_tupK (n := 2) K rfl (pgs_cons (pg_name (i := 7) scWith.nd rfl (Or.inl rfl)) (pgs_cons (pg_name (i := 8) scWith.nd rfl (Or.inl rfl)) pgs_nil))) pgs_nil)))) (fun _ _ _ _ _ => pts_nil) (fun _ _ _ _ _ => (pe_tup (pa_cons (pv 7) (pa_cons (pe_op op_add (pv 8) (pe_dget2 hu (pv 1) (pe_tup (pa_cons (pv 3) (pa_cons (pv 6) pa_nil))) pe_int ⟨rfl, rfl, rfl, rfl⟩)) pa_nil)))))
    (pss_one (ps_expr (pe_bm PySem.F.plainAttrs_list PySem.F.slot_list_append PySem.F.type_list_append mt_append (pv 2) (pa_cons (pe_fn d__law_put_together hr (pa_cons (pv 5) pa_nil)) pa_nil))))))
    (pss_one (ps_ret (pe_callTy cr_tupN (by rfl) (hT.free "tuple" (by decide +kernel)) (by decide +kernel) (pa_cons (pv 2) pa_nil))))))
    )
  case read =>
    obtain ⟨v, st, d, p, q, dd, rfl, ⟨a, vs, rfl, rd, hp⟩, hz, hd, qq⟩ := h
    have hlen := plen hp
    have hzl := hz.len
    have hzf := hz.flat
    refine ⟨Nat.zero_le _, fun F nF => ?_⟩
    refine ⟨_, rfl, a, vs, rfl, rd_sq ((tk_new nF).rd rd), for_it (walk_enumT (xs := vs)) (fun i σ H' => ∃ n s r, σ = [some (.ref a), some (.ref d), some (.ref F), n, s, r, none, none, none] ∧ Ex H H' ∧ ∃ xs, H' F = some (.lst xs) ∧ Paired (ShV H') xs ((st.take i).mapIdx (chgSh p q dd)))
      ⟨none, none, none, rfl, Ex.new nF, [], upd_same, .nil⟩ (fun i σ H' _ h => by obtain ⟨_, _, _, _, ex, _⟩ := h; exact rd_sq ((tk_ex ex).rd rd)) (fun i x σ H' H2 hi h y => ?_) (fun σ H' h => ?_)⟩
    · obtain ⟨n0, s0, r0, rfl, ex, xs, hF, hxs⟩ := h
      obtain ⟨T, x1, x2, rfl, nT, rfl, e1, e2⟩ := y
      cases e1
      obtain ⟨sh, hsh, b, ws, rfl, rd2, hp2⟩ := pgetL hp e2
      have exT := Ex.new (o := .tup [V.int (i : Nat), .ref b]) nT
      have hFT : F ≠ T := ne_of_none hF nT
      have hl2 := plen hp2
      have hfl := flat_get hsh
      have hxl := plen hxs
      rw [List.length_mapIdx, List.length_take] at hxl
      have ex2 := ex.trans exT
      refine ⟨T, _, rfl, SqT.of upd_same, rfl, _, _, rfl, _, _, rfl, rfl, ?_⟩
      have exG : Ex H' (upd H' T (.tup [V.int (i : Nat), .ref b])) := exT
      generalize upd H' T (.tup [V.int (i : Nat), .ref b]) = G at *
      refine ⟨_, rfl, b, ws, rfl, rd_sq ((tk_ex ex2).rd rd2), fun D nD => ?_⟩
      have hFG : G F = some (.lst xs) := exG _ _ hF
      refine loop_walk (walk_enumT (xs := ws)) (fun j H2 => Ex G H2 ∧ ∃ ys, H2 D = some (.lst ys) ∧ Paired (RunV H2) ys ((sh.take j).mapIdx fun b r => (r.1, r.2 + more p q dd i b)))
        ⟨Ex.new nD, [], upd_same, .nil⟩ (fun j H2 _ h => rd_sq ((tk_ex (ex2.trans h.1)).rd rd2)) (fun j x H1 H2 hj h y => ?_) (fun H2 h => ?_)
      · obtain ⟨exj, ys, hD, hys⟩ := h
        obtain ⟨T2, y1, y2, rfl, nT2, rfl, f1, f2⟩ := y
        cases f1
        obtain ⟨r, hr2, c, rfl, rc⟩ := pgetL hp2 f2
        have exT2 := Ex.new (o := .tup [V.int (j : Nat), .ref c]) nT2
        have hDT : D ≠ T2 := ne_of_none hD nT2
        have hyl := plen hys
        rw [List.length_mapIdx, List.length_take] at hyl
        have ex3 := (ex2.trans exj).trans exT2
        refine ⟨T2, _, rfl, SqT.of upd_same, rfl, _, _, rfl, _, _, rfl, c, _, rfl, rd_sq ((tk_ex ex3).rd rc), rfl, _, _, rfl, _, _, rfl, rfl, rfl, rfl, ?_⟩
        generalize upd H1 T2 (.tup [V.int (j : Nat), .ref c]) = G2 at *
        have hD2 : G2 D = some (.lst ys) := exT2 _ _ hD
        refine ⟨_, rfl, _, rfl, _, rfl, d, rfl, .inr ⟨_, .inl (ex3 _ _ hd)⟩, _, rfl, _, rfl, (by show 2 ≤ sizeLine; decide), fun t nt => ?_⟩
        refine ⟨_, DGet.t (k := [Sum.inl (i : Int), Sum.inl (j : Int)]) (Ex.new nt _ _ (ex3 _ _ hd)) upd_same, _, _, rfl, val_more p q dd i j, (by show 2 ≤ sizeLine; decide), fun t2 nt2 => ?_⟩
        have ext := (Ex.new (o := .tup [V.int (i : Nat), V.int (j : Nat)]) nt)
        have ext2 := ext.trans (Ex.new (o := .tup [V.str r.1, V.int (r.2 + more p q dd i j)]) nt2)
        refine ⟨ys, ext2 _ _ hD2, small' (by omega), ((exj.trans exT2).trans ext2).mut nD, _, upd_same, ?_⟩
        rw [mapIdx_more hr2]
        have hDt2 : D ≠ t2 := ne_of_none (ext _ _ hD2) nt2
        have tk2 : Tk H1 (upd (upd (upd G2 t (.tup [V.int (i : Nat), V.int (j : Nat)])) t2 (.tup [V.str r.1, V.int (r.2 + more p q dd i j)])) D (.lst (ys ++ [.ref t2]))) := (tk_ex (exT2.trans ext2)).mut (ext2 _ _ hD2) rfl
        exact psnoc (pmono mon_run tk2 hys) ⟨t2, rfl, .inl (by rw [upd_ne (Ne.symm hDt2), upd_same]; rfl)⟩
      · obtain ⟨exj, ys, hD, hys⟩ := h
        rw [hl2, List.take_length] at hys
        refine ⟨_, rfl, .inl ⟨rfl, _, SqL.of (exj _ _ hFG)⟩, _, rfl, D, ys, _, rfl, SqL.of hD, hys, by rw [List.length_mapIdx]; omega, fun H3 u ex4 hu3 => ?_⟩
        have ex5 : Ex G H3 := exj.trans ex4
        refine ⟨F, xs, u, rfl, rfl, ex5 _ _ hFG, small' (by omega), _, _, _, rfl, (ex2.trans ex5).mut nF, _, upd_same, ?_⟩
        rw [mapIdx_more hsh]
        have tk2 : Tk H' (upd H3 F (.lst (xs ++ [u]))) := (tk_ex (exG.trans ex5)).mut (ex5 _ _ hFG) rfl
        exact psnoc (pmono mon_sh tk2 hxs) (mon_sh _ _ _ _ (tk_upd (ex5 _ _ hFG) rfl) hu3)
    · obtain ⟨n0, s0, r0, rfl, ex, xs, hF, hxs⟩ := h
      rw [hlen, List.take_length] at hxs
      refine ⟨_, rfl, F, xs, rfl, .inl ⟨SqL.of hF, fun t o nt ho => ?_⟩⟩
      exact qq _ _ (ex.trans (Ex.new nt)) ⟨t, xs, rfl, .inr ⟨o, upd_same⟩, pmono mon_sh (tk_new nt) hxs⟩
end
end Sh
/-! A deed of the law's choice. -/
namespace Sh
open PySem PySem.Spec PyProof.Rows L2
abbrev scDeedsOf_N : List Str := ["_law_box_here", "_law_here", "_law_away", "_law_loan", "_law_spots_here", "_law_sorts", "_law_way", "_law_spot", "_law_sort", "_law_likes"]
abbrev scDeedsOf_P : List Str := ["_law_box_here", "_law_here", "_law_away", "_law_loan"]
abbrev scDeedsOf_S : Scope := defScope lDeedsOf
theorem scDeedsOf : FnScope scDeedsOf_N scDeedsOf_P (defScope lDeedsOf) := ⟨rfl, rfl, rfl, by decide +kernel, rfl, by decide +kernel, by decide +kernel⟩
/-! ### two roads that meet -/
theorem ifE_cap {c : Bool} {tA tB : TE} {σ : L2.St} {H : Hp} {Q : VK} (R : V → Hp → Prop) (key : ∀ v H', R v H' → Q v H') (hA : c = true → (∀ v H', R v H' → Q v H') → tA σ H Q) (hB : c = false → (∀ v H', R v H' → Q v H') → tB σ H Q) :
    if c = true then tA σ H Q else tB σ H Q := by
  cases c
  · exact if_f rfl (hB rfl key)
  · exact if_t rfl (hA rfl key)
theorem ifT_cap {c : Bool} {u : TT} {σ : L2.St} {H : Hp} {Q : Bool → Hp → Prop} (R : Bool → Hp → Prop) (key : ∀ b H', R b H' → Q b H') (hA : c = true → (∀ b H', R b H' → Q b H') → u σ H Q) (hB : c = false → R false H) :
    if c = true then u σ H Q else Q false H := by
  cases c
  · exact if_f rfl (key _ _ (hB rfl))
  · exact if_t rfl (hA rfl key)
theorem ifO_cap {c : Bool} {u : TT} {σ : L2.St} {H : Hp} {Q : Bool → Hp → Prop} (R : Bool → Hp → Prop) (key : ∀ b H', R b H' → Q b H') (hA : c = true → R true H) (hB : c = false → (∀ b H', R b H' → Q b H') → u σ H Q) :
    if c = true then Q true H else u σ H Q := by
  cases c
  · exact if_f rfl (hB rfl key)
  · exact if_t rfl (key _ _ (hA rfl))
theorem ifS_cap {c : Bool} {t u : TS} {D : Ends} {σ : L2.St} {H : Hp} (R : L2.St → Hp → Prop) (key : ∀ σ' H', R σ' H' → D.nx σ' H') (hA : c = true → (∀ σ' H', R σ' H' → D.nx σ' H') → t D σ H) (hB : c = false → (∀ σ' H', R σ' H' → D.nx σ' H') → u D σ H) :
    if c = true then t D σ H else u D σ H := by
  cases c
  · exact if_f rfl (hB rfl key)
  · exact if_t rfl (hA rfl key)
/-- nothing but the box was touched -/
structure Bx (b : Addr) (H H' : Hp) (m : Nat) : Prop where
  ch : Ch [b] H H'
  tk : Tk H H'
  box : BoxAt H' b m
theorem Bx.ex {b : Addr} {H H1 H2 : Hp} {m : Nat} (x : Bx b H H1 m) (e : Ex H1 H2) : Bx b H H2 m := ⟨x.ch.trans (Ch.of e), x.tk.trans (tk_ex e), x.box.ex e⟩
theorem Bx.step {b : Addr} {H H1 H2 : Hp} {m n : Nat} (x : Bx b H H1 m) (c : Ch [b] H1 H2) (k : Tk H1 H2) (h : BoxAt H2 b n) : Bx b H H2 n := ⟨x.ch.trans c, x.tk.trans k, h⟩
theorem Bx.mono {b : Addr} {H H1 : Hp} {m n : Nat} (x : Bx b H H1 m) (h : m ≤ n) : Bx b H H1 n := ⟨x.ch, x.tk, x.box.mono h⟩
theorem Bx.refl {b : Addr} {H : Hp} {m : Nat} (h : BoxAt H b m) : Bx b H H m := ⟨Ch.refl _ _, Tk.refl _, h⟩
theorem BoxAt.nb {H : Hp} {b p : Addr} {m : Nat} (h : BoxAt H b m) (hp : H p = none) : p ≠ b := fun z => by obtain ⟨_, _, _, e, _⟩ := h; rw [z, e] at hp; cases hp
theorem aw_sq {K : PySem.W.Frag} {H : Hp} {v : V} {aw : List Str} (h : AwV H v aw) : ∃ a, v = .ref a ∧ DN H a (aw.map V.str) := by
  obtain ⟨a, vs, rfl, dn, hp⟩ := h
  exact ⟨a, rfl, by rw [← pstr hp]; exact dn⟩
def spDeedsOf (K : PySem.W.Frag) : Sp := fun vs H Q _ => ∃ (b : Addr) (v1 v2 : V) (ln : Int) (st : Std) (aw : List Str) (m : Nat), vs = [.ref b, v1, v2, .int ln] ∧ BoxAt H b m ∧ m + 100 ≤ zz ∧ StV H v1 st ∧ Small st ∧ st.flatten.length ≤ 60 ∧ AwV H v2 aw ∧ aw.length ≤ 60 ∧
  ∀ H' v d, Bx b H H' (m + 20) → DeedV H' v d → Q v H'
section
variable {P : Program} {w : World} {K : PySem.W.Frag} {mg : Str → Option Value} {base : Heap}
theorem d__law_deeds_of (hT : Txt w K mg) : Def P w K mg base CX0 3 "_law_deeds_of" scDeedsOf_P (spDeedsOf K) := by
  have d__law_take := d__law_take (P := P) (base := base) hT
  have d__law_pick := d__law_pick (P := P) (base := base) hT
  have d__law_all_spots := d__law_all_spots (P := P) (base := base) hT
  have d__law_sums := d__law_sums (P := P) (base := base) hT
  have d__law_spots := d__law_spots (P := P) (base := base) hT
  refine Def.of hT (st := lDeedsOf) (by simp [fn]) (by decide +kernel) scDeedsOf (fun _ _ _ _ _ _ us hl => match us, hl with | [_, _, _, _], _ => rfl) (fun vs H Q E h => by obtain ⟨b, v1, v2, ln, st, aw, m, rfl, _⟩ := h; rfl) fun cdv A outer s H vs Q E hr h => ?_
  refine' ⟨_, PSs.nox ?walk, ?read⟩
  case walk => exact (
    (pss_cons (ps_par (i := 4) (j := 5) rfl scDeedsOf.nd rfl rfl (by decide) rfl rfl (pa_cons (pe_fn d__law_all_spots hr (pa_cons (pv 1) pa_nil)) (pa_cons (pe_op op_cat (pe_callB (call_sortedD rfl) (by rfl) (hT.free "sorted" (by decide +kernel)) (by decide +kernel) (pa_cons (pe_fn d__law_sums hr (pa_cons (pv 1) pa_nil)) pa_nil)) (pe_lst (pa_cons pe_str pa_nil))) pa_nil)) (by rfl))
    (pss_cons (ps_set (i := 5) scDeedsOf.nd rfl (Or.inl rfl) (pe_op op_cat (pv 5) (pe_callB (cr_sortSetX rfl hr.units) (by rfl) (hT.free "sorted" (by decide +kernel)) (by decide +kernel) (pa_cons (pe_callTy (cr_setTup rfl) (by rfl) (hT.free "set" (by decide +kernel)) (by decide +kernel) (pa_cons (pv 2) pa_nil)) pa_nil))))
    (pss_cons (ps_par (i := 6) (j := 7) rfl scDeedsOf.nd rfl rfl (by decide) rfl rfl (pa_cons (pe_fn d__law_take hr (pa_cons (pv 0) (pa_cons pe_int pa_nil))) (pa_cons (pe_ifExp (pt_cmpR (op_ne0 K hr.units0) (pv 4) (pe_lst pa_nil) (nomark _)) (pe_fn d__law_pick hr (pa_cons (pv 0) (pa_cons (pv 4) pa_nil))) (pe_tup (pa_cons pe_int (pa_cons pe_int pa_nil)))) pa_nil)) (by rfl))
    (pss_cons (ps_if (pt_cmpR op_eq (pe_fn d__law_take hr (pa_cons (pv 0) (pa_cons pe_int pa_nil))) pe_int (nomark _))
    (pss_one (ps_set (i := 7) scDeedsOf.nd rfl (Or.inl rfl) (pe_tup (pa_cons (pe_op op_sub (pe_fn d__law_take hr (pa_cons (pv 0) (pa_cons (pe_op op_add (pe_callB call_len_seq (by rfl) (hT.free "len" (by decide +kernel)) boot_len (pa_cons (pv 1) pa_nil)) pe_int) pa_nil))) pe_int) (pa_cons (pe_op op_sub (pe_fn d__law_take hr (pa_cons (pv 0) (pa_cons pe_int pa_nil))) pe_int) pa_nil)))))
    pss_nil)
    (pss_cons (ps_set (i := 8) scDeedsOf.nd rfl (Or.inl rfl) (pe_ifExp (PW.pt (pw_and (pt_cmpR (op_ne0 K hr.units0) (pv 2) (pe_tup pa_nil) (nomark _)) (pw_and1 (pt_cmpR op_gt (pe_fn d__law_take hr (pa_cons (pv 0) (pa_cons pe_int pa_nil))) pe_int (nomark _))))) (pe_fn d__law_pick hr (pa_cons (pv 0) (pa_cons (pe_callTy call_list_of (by rfl) (hT.free "list" (by decide +kernel)) (by decide +kernel) (pa_cons (pv 2) pa_nil)) pa_nil))) (pe_fn d__law_pick hr (pa_cons (pv 0) (pa_cons (pv 5) pa_nil)))))
    (pss_cons (ps_if (PW.pt (pw_or (PW.pt (pw_and (pt_cmpR op_lt (pv 6) pe_int (nomark _)) (pw_and1 (pt_cmpR op_lt (pe_callB call_len_seq (by rfl) (hT.free "len" (by decide +kernel)) boot_len (pa_cons (pv 2) pa_nil)) (pv 3) (nomark _))))) (pw_or1 (pt_cmpR op_eq (pv 6) pe_int (nomark _)))))
    (pss_one (ps_ret (pe_tup (pa_cons pe_str (pa_cons (pe_ix ix_tup (pv 7) pe_int (fun _ _ => rfl)) (pa_cons (pe_ix ix_tup (pv 7) pe_int (fun _ _ => rfl)) pa_nil))))))
    pss_nil)
    (pss_cons (ps_set (i := 9) scDeedsOf.nd rfl (Or.inl rfl) (pe_fn d__law_spots hr (pa_cons (pv 1) (pa_cons (pv 8) pa_nil))))
    (pss_cons (ps_if (pt_cmpR op_lt (pv 6) pe_int (nomark _))
    (pss_cons (ps_if (PW.pt (pw_and (pt_cmpR (op_ne0 K hr.units0) (pv 9) (pe_lst pa_nil) (nomark _)) (pw_and1 (pt_cmpR op_gt (pe_fn d__law_take hr (pa_cons (pv 0) (pa_cons pe_int pa_nil))) pe_int (nomark _)))))
    (pss_one (ps_set (i := 7) scDeedsOf.nd rfl (Or.inl rfl) (pe_fn d__law_pick hr (pa_cons (pv 0) (pa_cons (pv 9) pa_nil)))))
    pss_nil)
    (pss_one (ps_ret (pe_tup (pa_cons pe_str (pa_cons (pv 8) (pa_cons (pe_ix ix_tup (pv 7) pe_int (fun _ _ => rfl)) (pa_cons (pe_ix ix_tup (pv 7) pe_int (fun _ _ => rfl)) pa_nil))))))))
    pss_nil)
    (pss_cons (ps_if (PW.pt (pw_or (pt_cmpR op_eq (pv 6) pe_int (nomark _)) (pw_or1 (pt_cmpR (op_eq0 K hr.units0) (pv 9) (pe_lst pa_nil) (nomark _)))))
    (pss_one (ps_ret (pe_tup (pa_cons pe_str (pa_cons (pv 8) (pa_cons (pe_op op_sub (pe_fn d__law_take hr (pa_cons (pv 0) (pa_cons (pe_op op_add (pe_callB call_len_seq (by rfl) (hT.free "len" (by decide +kernel)) boot_len (pa_cons (pv 1) pa_nil)) pe_int) pa_nil))) pe_int) pa_nil))))))
    pss_nil)
    (pss_one (ps_ret (pe_tup (pa_cons pe_str (pa_cons (pe_op op_add pe_int (pe_fn d__law_take hr (pa_cons (pv 0) (pa_cons pe_int pa_nil)))) pa_nil))))))))))))))
    )
  case read =>
    obtain ⟨b, v1, v2, ln, st, aw, m, rfl, hb, hm, hst, hsm, hfl, haw, hal, q⟩ := h
    have hzz : zz = 1099511627776 := rfl
    obtain ⟨a2, rfl, dn⟩ := aw_sq (K := K) haw
    have hsu : (sumsL st).length ≤ 60 := by
      have := sums_len st.flatten []
      rw [List.length_nil] at this
      unfold sumsL
      exact Nat.le_trans this (by omega)
    have hks : ((sumsL st).map kvR).map (·.1) = (keys (sumsL st)).map Sum.inr := by
      unfold keys
      rw [List.map_map, List.map_map]
      rfl
    have hkl : (keys (sumsL st)).length ≤ 60 := by unfold keys; rw [List.length_map]; exact hsu
    refine ⟨_, rfl, v1, st, rfl, hst, hsm, fun H1 S xs e1 nS hS hxs => ⟨_, rfl, v1, st, rfl, mon_st _ _ _ _ (tk_ex e1) hst, hsm, fun H2 D e2 nD hD => ⟨D, _, keys (sumsL st), rfl, .inl hD, hks, by omega, fun ys p hperm _ np => ⟨(by show 1 ≤ sizeLine; decide), fun z nz => ?_⟩⟩⟩⟩
    have hyl : ys.length ≤ 60 := by rw [hperm.length_eq]; exact hkl
    have e3 := Ex.new (o := .lst (ys.map V.str)) np
    have hp : upd H2 p (.lst (ys.map V.str)) p = some (.lst (ys.map V.str)) := upd_same
    generalize upd H2 p (.lst (ys.map V.str)) = G3 at *
    have e4 := Ex.new (o := .lst [V.str "zzz"]) nz
    have hz : upd G3 z (.lst [V.str "zzz"]) z = some (.lst [V.str "zzz"]) := upd_same
    have hp4 := e4 _ _ hp
    generalize upd G3 z (.lst [V.str "zzz"]) = G4 at *
    refine ⟨p, z, _, _, rfl, rfl, hp4, hz, small (by rw [List.length_map]; show ys.length + 1 ≤ _; omega), fun r nr => ⟨_, _, rfl, ?_⟩⟩
    have e5 := Ex.new (o := .lst (ys.map V.str ++ [V.str "zzz"])) nr
    have hr5 : upd G4 r (.lst (ys.map V.str ++ [V.str "zzz"])) r = some (.lst (ys.map V.str ++ [V.str "zzz"])) := upd_same
    generalize upd G4 r (.lst (ys.map V.str ++ [V.str "zzz"])) = G5 at *
    have eH5 := e1.trans (e2.trans (e3.trans (e4.trans e5)))
    have hS5 := (e2.trans (e3.trans (e4.trans e5))) _ _ hS
    refine ⟨_, rfl, _, rfl, a2, aw, rfl, ((tk_ex eH5).dn dn).sq, by omega, fun p6 np6 => ⟨p6, _, rfl, upd_same, by omega, fun ys2 p7 hl7 np7 => ?_⟩⟩
    have e6 := Ex.new (o := SetXO w p6 aw.length) np6
    have np7 : upd G5 p6 (SetXO w p6 aw.length) p7 = none := np7
    have e7 := Ex.new (o := .lst (ys2.map V.str)) np7
    have hp7 : upd (upd G5 p6 (SetXO w p6 aw.length)) p7 (.lst (ys2.map V.str)) p7 = some (.lst (ys2.map V.str)) := upd_same
    have hr7 := (e6.trans e7) _ _ hr5
    refine ⟨r, p7, _, _, rfl, rfl, hr7, hp7, small (by rw [List.length_append, List.length_map, List.length_map]; show ys.length + 1 + _ ≤ _; omega), fun R5 nR5 => ?_⟩
    have nR5 : upd (upd G5 p6 (SetXO w p6 aw.length)) p7 (.lst (ys2.map V.str)) R5 = none := nR5
    have e8 := Ex.new (o := .lst (ys.map V.str ++ [V.str "zzz"] ++ ys2.map V.str)) nR5
    obtain ⟨zs, hzs, hzn, hzl⟩ : ∃ zs : List Str, ys.map V.str ++ [V.str "zzz"] ++ ys2.map V.str = zs.map V.str ∧ zs ≠ [] ∧ zs.length ≤ 1000 := ⟨ys ++ [("zzz" : Str)] ++ ys2, by simp, by simp, by simp; omega⟩
    have hR5 : upd (upd (upd G5 p6 (SetXO w p6 aw.length)) p7 (.lst (ys2.map V.str))) R5 (.lst (ys.map V.str ++ [V.str "zzz"] ++ ys2.map V.str)) R5 = some (.lst (zs.map V.str)) := by rw [upd_same, hzs]
    have eG := (eH5.trans (e6.trans e7)).trans e8
    have hS8 := (e6.trans (e7.trans e8)) _ _ hS5
    have nS' : S ≠ b := hb.nb nS
    have nR' : R5 ≠ b := ((hb.ex eH5).ex (e6.trans e7)).nb nR5
    have hxs8 := pmono mon_spot (tk_ex ((e2.trans (e3.trans (e4.trans e5))).trans (e6.trans (e7.trans e8)))) hxs
    have hxl := plen hxs
    rw [allSp_len] at hxl
    have B0 := (Bx.refl hb).ex eG
    clear hp7 hr7 hp4 hz hp hD hr5 hS5
    refine ⟨_, rfl, b, 9, m, rfl, by decide, by decide, B0.box, by omega, fun H1 wy c1 k1 hb1 w0 w1 => ⟨_, rfl, Nat.zero_le _, fun e ne => ?_⟩⟩
    have x1 := Ex.new (o := .lst []) ne
    have he : upd H1 e (.lst []) e = some (.lst []) := upd_same
    have B1 := (B0.step c1 k1 hb1).ex x1
    have hS1 := x1 _ _ (c1 _ _ (by simp [nS']) hS8)
    have hR1 := x1 _ _ (c1 _ _ (by simp [nR']) hR5)
    have hxs1 := pmono mon_spot (k1.trans (tk_ex x1)) hxs8
    generalize upd H1 e (.lst []) = G1 at *
    refine ⟨S, e, xs, rfl, rfl, .inr ⟨SqL.of hS1, SqL.of he⟩, _, rfl, ifE_cap (fun v H' => ∃ a p q, v = .ref a ∧ Rd H' a (.tup [.int p, .int q]) ∧ Bx b H H' (m + 2) ∧ H' R5 = some (.lst (zs.map V.str))) (fun v H' hR => ?_) (fun cc key => ?_) (fun cc key => ?_)⟩
    · obtain ⟨a, p, q0, rfl, rda, B2, hR2⟩ := hR
      refine ⟨_, _, rfl, _, rfl, b, 9, _, rfl, by decide, by decide, B2.box, by omega, fun H2 r2 c2 k2 hb2 _ _ => ⟨rfl, _, rfl, ?_⟩⟩
      have B3 := B2.step c2 k2 hb2
      have hR3 := c2 _ _ (by simp [nR']) hR2
      have rda3 := k2.rd rda
      refine ifS_cap (fun σ' H' => ∃ a p q, σ' = [some (.ref b), some v1, some (.ref a2), some (.int ln), some (.ref S), some (.ref R5), some (.int wy), some (.ref a), none, none] ∧ Rd H' a (.tup [.int p, .int q]) ∧ Bx b H H' (m + 6) ∧ H' R5 = some (.lst (zs.map V.str))) (fun σ' H' hR => ?_) (fun cc key => ?_) (fun cc key => ?_)
      · obtain ⟨a, p, q0, rfl, rda, B4, hR4⟩ := hR
        refine ⟨_, rfl, Nat.zero_le _, fun e ne => ?_⟩
        have x5 := Ex.new (o := .tup []) ne
        have he : SqT K (upd H' e (.tup [])) e [] := SqT.of upd_same
        have B5 := B4.ex x5
        have hR5' := x5 _ _ hR4
        have rda5 := (tk_ex x5).rd rda
        generalize upd H' e (.tup []) = G5 at *
        refine ⟨a2, e, _, rfl, rfl, .inl ⟨(B5.tk.dn dn).sq, he⟩, _, rfl, ifT_cap (fun c H' => (c = true → aw ≠ []) ∧ Rd H' a (.tup [.int p, .int q0]) ∧ Bx b H H' (m + 7) ∧ H' R5 = some (.lst (zs.map V.str))) (fun c H' hR => ?_) (fun cc key => ?_) (fun cc => ⟨(fun z => by cases z), rda5, B5.mono (by omega), hR5'⟩)⟩
        · obtain ⟨hne, rda6, B6, hR6⟩ := hR
          refine ifE_cap (fun v H' => ∃ k, v = .str k ∧ Rd H' a (.tup [.int p, .int q0]) ∧ Bx b H H' (m + 8)) (fun v H' hR => ?_) (fun cc key => ?_) (fun cc key => ?_)
          · obtain ⟨k, rfl, rda7, B7⟩ := hR
            have fin : ∀ {H'} {t : Addr} {d : Deed}, Bx b H H' (m + 20) → H' t = some (.tup (deedV d)) → Q (.ref t) H' := fun B h => q _ _ _ B ⟨_, rfl, .inl h⟩
            refine ⟨_, rfl, _, _, rfl, rfl, _, rfl, ifT_cap (fun _ H2 => H2 = H') (fun c1 H2 hR => ?_) (fun cc key => ?_) (fun cc => rfl)⟩
            · subst hR
              refine ifO_cap (fun _ H3 => H3 = H2) (fun c2 H3 hR => ?_) (fun cc => rfl) (fun cc key => ?_)
              · subst hR
                refine if_2 (fun cc => ?_) (fun cc => ?_)
                · refine ⟨_, rfl, a, _, 0, _, rfl, rfl, rd_sq rda7, rfl, _, rfl, a, _, 1, _, rfl, rfl, rd_sq rda7, rfl, (by show 3 ≤ sizeLine; decide), fun t nt => ?_⟩
                  exact fin (d := .take p q0) ((B7.ex (Ex.new nt)).mono (by omega)) upd_same
                · refine ⟨_, rfl, _, rfl, v1, st, k, rfl, mon_st _ _ _ _ B7.tk hst, hsm, fun H4 L ls l e4 nL hL hls hll => ?_⟩
                  have B8 := B7.ex e4
                  have rda8 := (tk_ex e4).rd rda7
                  have nLb := B7.box.nb nL
                  have hlsl := plen hls
                  refine ⟨_, rfl, _, _, rfl, rfl, _, rfl, if_2 (fun cc => ?_) (fun cc => ?_)⟩
                  · refine ⟨_, rfl, Nat.zero_le _, fun e ne => ?_⟩
                    have x5 := Ex.new (o := .lst []) ne
                    have he : upd H4 e (.lst []) e = some (.lst []) := upd_same
                    have B9 := B8.ex x5
                    have hL9 := x5 _ _ hL
                    have rda9 := (tk_ex x5).rd rda8
                    have hls9 := pmono mon_spot (tk_ex x5) hls
                    generalize upd H4 e (.lst []) = G9 at *
                    refine ⟨L, e, ls, rfl, rfl, .inr ⟨SqL.of hL9, SqL.of he⟩, _, rfl, ifT_cap (fun c H' => (c = true → ls ≠ []) ∧ Rd H' a (.tup [.int p, .int q0]) ∧ Bx b H H' (m + 10) ∧ H' L = some (.lst ls) ∧ Paired (SpotV H') ls l) (fun c H' hR => ?_) (fun cc key => ?_) (fun cc => ⟨(fun z => by cases z), rda9, B9.mono (by omega), hL9, hls9⟩)⟩
                    · obtain ⟨hne, rda10, B10, hL10, hls10⟩ := hR
                      refine ifS_cap (fun σ' H' => ∃ a p q, σ' = [some (.ref b), some v1, some (.ref a2), some (.int ln), some (.ref S), some (.ref R5), some (.int wy), some (.ref a), some (.str k), some (.ref L)] ∧ Rd H' a (.tup [.int p, .int q]) ∧ Bx b H H' (m + 12)) (fun σ' H' hR => ?_) (fun cc key => ?_) (fun cc key => ?_)
                      · obtain ⟨a, p, q0, rfl, rda11, B11⟩ := hR
                        refine ⟨_, rfl, _, rfl, a, _, 0, _, rfl, rfl, rd_sq rda11, rfl, _, rfl, a, _, 1, _, rfl, rfl, rd_sq rda11, rfl, (by show 4 ≤ sizeLine; decide), fun t nt => ?_⟩
                        exact fin (d := .put k p q0) ((B11.ex (Ex.new nt)).mono (by omega)) upd_same
                      · refine ⟨_, rfl, _, rfl, b, L, ls, _, rfl, hL10, nLb, hne cc, by omega, B10.box, by omega, fun H5 x c5 k5 hb5 hx => ?_⟩
                        obtain ⟨j, hj⟩ := List.getElem?_of_mem hx
                        obtain ⟨pq, _, c, rfl, rc⟩ := pgetL hls10 hj
                        exact key _ _ ⟨c, _, _, rfl, k5.rd rc, (B10.step c5 k5 hb5).mono (by omega)⟩
                      · exact key _ _ ⟨a, p, q0, rfl, rda10, B10.mono (by omega)⟩
                    · refine ⟨_, rfl, b, 5, _, rfl, by decide, by decide, B9.box, by omega, fun H5 r5 c5 k5 hb5 _ _ => ⟨_, _, rfl, rfl, _, rfl, key _ _ ⟨fun _ z => ?_, k5.rd rda9, (B9.step c5 k5 hb5).mono (by omega), c5 _ _ (by simp [nLb]) hL9, pmono mon_spot k5 hls9⟩⟩⟩
                      rw [z] at cc
                      cases cc
                  · refine ⟨_, rfl, rfl, _, rfl, ifO_cap (fun _ H3 => Bx b H H3 (m + 8)) (fun c2 H3 B9 => ?_) (fun cc => B8) (fun cc key => ?_)⟩
                    · refine if_2 (fun cc => ?_) (fun cc => ?_)
                      · obtain ⟨a1, ws, rfl, rd1, hws⟩ := hst
                        have hwl := plen hws
                        have hzl' := hsm.len
                        refine ⟨_, rfl, _, rfl, _, rfl, a1, ws, rfl, .inr (rd_sq (B9.tk.rd rd1)), _, _, rfl, rfl, b, _, _, rfl, by omega, by omega, B9.box, by omega, fun H5 r5 c5 k5 hb5 _ _ => ⟨_, _, rfl, rfl, (by show 3 ≤ sizeLine; decide), fun t nt => ?_⟩⟩
                        exact fin (d := .fin k (r5 - 1)) (((B9.step c5 k5 hb5).ex (Ex.new nt)).mono (by omega)) upd_same
                      · refine ⟨_, rfl, b, 4, _, rfl, by decide, by decide, B9.box, by omega, fun H5 r5 c5 k5 hb5 _ _ => ⟨_, _, rfl, rfl, (by show 2 ≤ sizeLine; decide), fun t nt => ?_⟩⟩
                        exact fin (d := .lend (1 + r5)) (((B9.step c5 k5 hb5).ex (Ex.new nt)).mono (by omega)) upd_same
                    · refine ⟨_, rfl, Nat.zero_le _, fun e ne => ⟨L, e, ls, rfl, rfl, SqL.of (Ex.new ne _ _ hL), SqL.of upd_same, _, rfl, key _ _ (B8.ex (Ex.new ne))⟩⟩
              · exact ⟨_, rfl, rfl, _, rfl, key _ _ rfl⟩
            · exact ⟨_, rfl, a2, _, rfl, .inr (B7.tk.dn dn).sq, _, rfl, _, _, rfl, rfl, _, rfl, key _ _ rfl⟩
          · refine ⟨_, rfl, _, rfl, a2, _, rfl, .inr (B6.tk.dn dn).sq, fun l nl => ⟨b, l, _, _, rfl, upd_same, B6.box.nb nl, by simpa using hne cc, by rw [List.length_map]; omega, (B6.ex (Ex.new nl)).box, by omega, fun H5 x c5 k5 hb5 hx => ?_⟩⟩
            obtain ⟨k, _, rfl⟩ := List.mem_map.mp hx
            exact key _ _ ⟨k, rfl, k5.rd ((tk_new nl).rd rda6), ((B6.ex (Ex.new nl)).step c5 k5 hb5).mono (by omega)⟩
          · refine ⟨_, rfl, _, rfl, b, R5, _, _, rfl, hR6, nR', by simpa using hzn, by rw [List.length_map]; omega, B6.box, by omega, fun H5 x c5 k5 hb5 hx => ?_⟩
            obtain ⟨k, _, rfl⟩ := List.mem_map.mp hx
            exact key _ _ ⟨k, rfl, k5.rd rda6, (B6.step c5 k5 hb5).mono (by omega)⟩
        · refine ⟨_, rfl, b, 5, _, rfl, by decide, by decide, B5.box, by omega, fun H5 r5 c5 k5 hb5 _ _ => ⟨_, _, rfl, rfl, _, rfl, key _ _ ⟨fun _ z => ?_, k5.rd rda5, (B5.step c5 k5 hb5).mono (by omega), c5 _ _ (by simp [nR']) hR5'⟩⟩⟩
          rw [z] at cc
          cases cc
      · obtain ⟨a1, ws, rfl, rd1, hws⟩ := hst
        have hwl := plen hws
        have hzl' := hsm.len
        refine ⟨_, rfl, _, rfl, a1, ws, rfl, .inr (rd_sq (B3.tk.rd rd1)), _, _, rfl, rfl, b, _, _, rfl, by omega, by omega, B3.box, by omega, fun H5 r5 c5 k5 hb5 _ _ => ⟨_, _, rfl, rfl, _, rfl, b, 9, _, rfl, by decide, by decide, hb5, by omega, fun H6 r6 c6 k6 hb6 _ _ => ⟨_, _, rfl, rfl, (by show 2 ≤ sizeLine; decide), fun t nt => ?_⟩⟩⟩
        have B6 := (B3.step c5 k5 hb5).step c6 k6 hb6
        exact key _ _ ⟨t, _, _, rfl, .inl upd_same, (B6.ex (Ex.new nt)).mono (by omega), Ex.new nt _ _ (c6 _ _ (by simp [nR']) (c5 _ _ (by simp [nR']) hR3))⟩
      · exact key _ _ ⟨a, p, q0, rfl, rda3, B3.mono (by omega), hR3⟩
    · have hne : xs ≠ [] := fun z => by rw [z] at cc; cases cc
      refine ⟨_, rfl, _, rfl, b, S, xs, _, rfl, hS1, nS', hne, by omega, B1.box, by omega, fun H5 x c5 k5 hb5 hx => ?_⟩
      obtain ⟨j, hj⟩ := List.getElem?_of_mem hx
      obtain ⟨pq, _, c, rfl, rc⟩ := pgetL hxs1 hj
      exact key _ _ ⟨c, _, _, rfl, k5.rd rc, (B1.step c5 k5 hb5).mono (by omega), c5 _ _ (by simp [nR']) hR1⟩
    · refine ⟨(by show 2 ≤ sizeLine; decide), fun t nt => key _ _ ⟨t, _, _, rfl, .inl upd_same, (B1.ex (Ex.new nt)).mono (by omega), Ex.new nt _ _ hR1⟩⟩
end
end Sh
/-! What is due. -/
namespace Sh
open PySem PySem.Spec PyProof.Rows L2
abbrev scDue_N : List Str := ["_law_state", "_law_deed", "_law_here", "_law_away", "_law_loan", "_law_taken_so", "_law_word", "_law_spot", "_law_sort", "_law_k", "_law_left", "_law_at"]
abbrev scDue_P : List Str := ["_law_state", "_law_deed"]
abbrev scDue_S : Scope := defScope lDue
theorem scDue : FnScope scDue_N scDue_P (defScope lDue) := ⟨rfl, rfl, rfl, by decide +kernel, rfl, by decide +kernel, by decide +kernel⟩
/-! ### slices and sums of tuples -/
theorem cut_lo (xs : List V) (n : Nat) (h : n ≤ xs.length) : cutV xs none (some (n : Int)) = xs.take n := by
  unfold cutV
  rw [HT.sIx_none, HT.sIx_nat]
  simp
theorem cut_hi (xs : List V) (n : Nat) (h : n ≤ xs.length) : cutV xs (some (n : Int)) none = xs.drop n := by
  unfold cutV
  rw [HT.sIx_none, HT.sIx_nat, Nat.min_eq_left h]
  exact List.take_of_length_le (by rw [List.length_drop]; omega)
theorem cut_all {xs : List V} {lo hi : Option Int} (h : HT.sIx xs.length 0 lo = 0 ∧ HT.sIx xs.length xs.length hi = xs.length) : cutV xs lo hi = xs := by
  unfold cutV
  rw [h.1, h.2]
  simp
theorem slN_any {K : PySem.W.Frag} {H : Hp} {Q : VK} {a : Addr} {xs : List V} {lo hi : Option Int} (ha : Rd H a (.tup xs)) (q : ∀ p H', Ex H H' → Rd H' p (.tup (cutV xs lo hi)) → Q (.ref p) H') : rSlN K (.ref a) lo hi H Q :=
  ⟨a, xs, rfl, rd_sq ha, fun w => q a H (Ex.refl H) (by rw [cut_all w]; exact ha), fun _ p o np _ => q p _ (Ex.new np) (.inr ⟨o, upd_same⟩)⟩
theorem slD_any {K : PySem.W.Frag} {H : Hp} {Q : VK} {a : Addr} {xs : List V} {lo hi : Option Int} (ha : DN H a xs) (q : ∀ p H', Ex H H' → DN H' p (cutV xs lo hi) → Q (.ref p) H') : rSlN K (.ref a) lo hi H Q :=
  ⟨a, xs, rfl, ha.sq, fun w => q a H (Ex.refl H) (by rw [cut_all w]; exact ha), fun _ p o np ho => q p _ (Ex.new np) (DN.new ho)⟩
theorem catN_any {K : PySem.W.Frag} {H : Hp} {Q : VK} {a b : Addr} {xs ys : List V} (ha : Rd H a (.tup xs)) (hb : Rd H b (.tup ys)) (hz : xs.length + ys.length ≤ 1000000) (q : ∀ p H', Ex H H' → Rd H' p (.tup (xs ++ ys)) → Q (.ref p) H') : rCatN K (.ref a) (.ref b) H Q :=
  ⟨a, b, xs, ys, rfl, rfl, rd_sq ha, rd_sq hb, small hz, fun e => q b H (Ex.refl H) (by subst e; exact hb), fun _ e => q a H (Ex.refl H) (by subst e; rw [List.append_nil]; exact ha), fun _ _ p o np _ => q p _ (Ex.new np) (.inr ⟨o, upd_same⟩)⟩
theorem catD_any {K : PySem.W.Frag} {H : Hp} {Q : VK} {a b : Addr} {xs ys : List V} (ha : DN H a xs) (hb : DN H b ys) (hz : xs.length + ys.length ≤ 1000000) (q : ∀ p H', Ex H H' → DN H' p (xs ++ ys) → Q (.ref p) H') : rCatN K (.ref a) (.ref b) H Q :=
  ⟨a, b, xs, ys, rfl, rfl, ha.sq, hb.sq, small hz, fun e => q b H (Ex.refl H) (by subst e; exact hb), fun _ e => q a H (Ex.refl H) (by subst e; rw [List.append_nil]; exact ha), fun _ _ p o np ho => q p _ (Ex.new np) (DN.new ho)⟩
theorem first_at : ∀ {ys : List Str} {z : Str}, z ∈ ys → ∃ j, j < ys.length ∧ ys[j]? = some z ∧ (∀ m, m < j → ys[m]? ≠ some z) ∧ ys.take j ++ ys.drop (j + 1) = ys.erase z
  | y :: ys, z, h => by
    by_cases e : y = z
    · subst e
      exact ⟨0, by simp, rfl, fun m hm => absurd hm (Nat.not_lt_zero m), by simp⟩
    · have h2 : z ∈ ys := by
        rcases List.mem_cons.mp h with q | q
        · exact absurd q.symm e
        · exact q
      obtain ⟨j, h0, h3, h4, h5⟩ := first_at h2
      refine ⟨j + 1, by rw [List.length_cons]; omega, by rw [List.getElem?_cons_succ]; exact h3, fun m hm => ?_, ?_⟩
      · cases m with
        | zero => simpa using e
        | succ m => rw [List.getElem?_cons_succ]; exact h4 m (by omega)
      · rw [List.erase_cons_tail (by simpa using e), List.take_succ_cons, List.drop_succ_cons, List.cons_append, h5]
theorem modify_cut {α : Type} {f : α → α} : ∀ {l : List α} {i : Nat} {x : α}, l[i]? = some x → l.take i ++ [f x] ++ l.drop (i + 1) = l.modify i f
  | [], i, x, h => by simp at h
  | a :: l, 0, x, h => by
    have e : a = x := Option.some.inj h
    subst e
    simp
  | a :: l, i + 1, x, h => by
    have ih := modify_cut (f := f) (l := l) (i := i) (x := x) (by simpa using h)
    simp only [List.take_succ_cons, List.drop_succ_cons, List.cons_append, List.modify_succ_cons]
    rw [ih]
/-! ### the law's state in the heap -/
def LStV (H : Hp) (v : V) (s : LSt) : Prop := ∃ a v1 v2, v = .ref a ∧ Rd H a (.tup [v1, v2, .int s.ln, .int s.tk]) ∧ StV H v1 s.st ∧ AwV H v2 s.aw
theorem mon_lst : Mon LStV := fun _ _ _ _ t h => let ⟨a, v1, v2, e, r, h1, h2⟩ := h; ⟨a, v1, v2, e, t.rd r, mon_st _ _ _ _ t h1, mon_aw _ _ _ _ t h2⟩
def encSp (p : Nat × Nat) : PyData := .tuple [.int (p.1 : Nat), .int (p.2 : Nat)]
theorem dp_two {K : PySem.W.Frag} {H : Hp} {a : Addr} {i j : Int} (h : Rd H a (.tup [.int i, .int j])) : Dp K H (.ref a) (.tuple [.int i, .int j]) := .tup (rd_sq h) (.cons (.int i) (.cons (.int j) .nil))
theorem dp_spots {K : PySem.W.Frag} {H : Hp} : ∀ {xs : List V} {l : List (Nat × Nat)}, Paired (SpotV H) xs l → DpAll K H xs (l.map encSp)
  | _, _, .nil => .nil
  | _, _, .cons ⟨a, e, r⟩ t => by subst e; exact .cons (dp_two r) (dp_spots t)
theorem lay_spots : ∀ l : List (Nat × Nat), PyData.canLayAll0 (l.map encSp) = true
  | [] => by simp [PyData.canLayAll0]
  | p :: l => by
    rw [List.map_cons, PyData.canLayAll0, lay_spots l]
    simp [encSp, PyData.canLay0, PyData.canLayAll0]
theorem dep_spots : ∀ l : List (Nat × Nat), PyData.depthAll (l.map encSp) ≤ 1
  | [] => by simp [PyData.depthAll]
  | p :: l => by
    have ih := dep_spots l
    rw [List.map_cons, PyData.depthAll]
    simp [encSp, PyData.depth, PyData.depthAll]
    exact Nat.max_le.mpr ⟨Nat.le_refl _, ih⟩
theorem shaped_spots (l : List (Nat × Nat)) : SeqAt.shaped (.list (l.map encSp)) = true := by
  unfold SeqAt.shaped
  rw [PyData.canLay0, lay_spots, PyData.depth]
  have := dep_spots l
  simp
  omega
theorem shaped_two (i j : Int) : SeqAt.shaped (.tuple [.int i, .int j]) = true := by
  unfold SeqAt.shaped
  simp [PyData.canLay0, PyData.canLayAll0, PyData.depth, PyData.depthAll]
theorem any_spot (st : Std) (i j : Int) : ((allSp st).map encSp).any (fun z => PyData.eqv z (.tuple [.int i, .int j])) = (runAt st i j).isSome := by
  rw [Bool.eq_iff_iff, List.any_eq_true]
  unfold runAt
  constructor
  · rintro ⟨z, hz, he⟩
    obtain ⟨p, hp, rfl⟩ := List.mem_map.mp hz
    have h2 : (p.1 : Int) = i ∧ (p.2 : Int) = j := by simpa [encSp, PyData.eqv, PyData.eqvAll] using he
    rw [if_pos ⟨by omega, by omega⟩]
    have h3 := mem_allSp.mp hp
    unfold runN at h3
    rw [← h2.1, ← h2.2]
    simpa using h3
  · intro h
    by_cases hc : 0 ≤ i ∧ 0 ≤ j
    · rw [if_pos hc] at h
      refine ⟨_, List.mem_map.mpr ⟨(i.toNat, j.toNat), mem_allSp.mpr (by unfold runN; exact h), rfl⟩, ?_⟩
      have h1 : ((i.toNat : Nat) : Int) = i := Int.toNat_of_nonneg hc.1
      have h2 : ((j.toNat : Nat) : Int) = j := Int.toNat_of_nonneg hc.2
      simp [encSp, PyData.eqv, PyData.eqvAll, h1, h2]
    · rw [if_neg hc] at h
      cases h
def spDue (K : PySem.W.Frag) : Sp := fun vs H Q _ => ∃ (sv dv : V) (s : LSt) (d : Deed), vs = [sv, dv] ∧ LStV H sv s ∧ DeedV H dv d ∧ Small s.st ∧ s.aw.length ≤ 1000 ∧
  (¬ LOk s d → ∀ H' r x, Ex H H' → Rd H' r (.tup [x, .non]) → Q (.ref r) H') ∧ (∀ s', LStep s d s' → ∀ H' r x y, Ex H H' → Rd H' r (.tup [x, y]) → LStV H' y s' → Q (.ref r) H')
section
variable {P : Program} {w : World} {K : PySem.W.Frag} {mg : Str → Option Value} {base : Heap}
theorem runAt_get {H : Hp} {ws : List V} {st : Std} {i j : Int} {r : Run} (hp : Paired (ShV H) ws st) (h : runAt st i j = some r) : 0 ≤ i ∧ 0 ≤ j ∧ ∃ b rs c, ws[i.toNat]? = some (.ref b) ∧ Rd H b (.tup rs) ∧ rs[j.toNat]? = some (.ref c) ∧ Rd H c (.tup (runV r)) := by
  unfold runAt at h
  by_cases hc : 0 ≤ i ∧ 0 ≤ j
  · rw [if_pos hc] at h
    obtain ⟨sh, h1, h2⟩ := Option.bind_eq_some_iff.mp h
    obtain ⟨x, hx, b, rs, rfl, rdb, hrs⟩ := pget hp h1
    obtain ⟨y, hy, c, rfl, rdc⟩ := pget hrs h2
    exact ⟨hc.1, hc.2, b, rs, c, hx, rdb, hy, rdc⟩
  · rw [if_neg hc] at h
    cases h
theorem hu65 {k : Nat} {A : Around} (hr : Room k A) : A.units + 65 < cLine := by have := hr.un; omega
theorem d__law_due (hT : Txt w K mg) : Def P w K mg base CX0 3 "_law_due" scDue_P (spDue K) := by
  have d__law_all_spots := d__law_all_spots (P := P) (base := base) hT
  have d__law_sums := d__law_sums (P := P) (base := base) hT
  have d__law_with := d__law_with (P := P) (base := base) hT
  refine Def.of hT (st := lDue) (by simp [fn]) (by decide +kernel) scDue (fun _ _ _ _ _ _ us hl => match us, hl with | [_, _], _ => rfl) (fun vs H Q E h => by obtain ⟨sv, dv, s, d, rfl, _⟩ := h; rfl) fun cdv A outer s H vs Q E hr h => ?_
  have hu := hu_of hr
  refine' ⟨_, PSs.nox ?walk, ?read⟩
  case walk => exact (
    (pss_cons (ps_asg (pv 0) (pg_tup rfl (pgs_cons (pg_name (i := 2) scDue.nd rfl (Or.inl rfl)) (pgs_cons (pg_name (i := 3) scDue.nd rfl (Or.inl rfl)) (pgs_cons (pg_name (i := 4) scDue.nd rfl (Or.inl rfl)) (pgs_cons (pg_name (i := 5) scDue.nd rfl (Or.inl rfl)) pgs_nil))))))
    (pss_cons (ps_set (i := 6) scDue.nd rfl (Or.inl rfl) (pe_ix ix_tup (pv 1) pe_int (fun _ _ => rfl)))
    (pss_cons (ps_if (pt_cmpR op_eq (pv 6) pe_str (nomark _))
    (pss_cons (ps_if (pt_cmpR op_gt (pe_callB call_len_seq (by rfl) (hT.free "len" (by decide +kernel)) boot_len (pa_cons (pv 3) pa_nil)) (pe_ix ix_tup (pv 1) pe_int (fun _ _ => rfl)) (nomark _))
    (pss_one (ps_ret (pe_tup (pa_cons (pe_lst (pa_cons pe_str (pa_cons (pe_callB call_len_seq (by rfl) (hT.free "len" (by decide +kernel)) boot_len (pa_cons (pv 3) pa_nil)) pa_nil))) (pa_cons pe_non pa_nil)))))
    pss_nil)
    (pss_one (ps_ret (pe_tup (pa_cons pe_non (pa_cons (pe_tup (pa_cons (pv 2) (pa_cons (pv 3) (pa_cons (pe_ix ix_tup (pv 1) pe_int (fun _ _ => rfl)) (pa_cons (pv 5) pa_nil))))) pa_nil))))))
    pss_nil)
    (pss_cons (ps_if (PW.pt (pw_and (pt_cmpR op_ne (pv 6) pe_str (nomark _)) (pw_and1 (pt_cmpR op_notIn_seq (pe_ix ix_tup (pv 1) pe_int (fun _ _ => rfl)) (pv 3) (by with_unfolding_all rfl)))))
    (pss_one (ps_ret (pe_tup (pa_cons (pe_lst (pa_cons pe_str (pa_cons (pe_ix ix_tup (pv 1) pe_int (fun _ _ => rfl)) pa_nil))) (pa_cons pe_non pa_nil)))))
    pss_nil)
    (pss_cons (ps_if (pt_cmpR op_eq (pv 6) pe_str (nomark _))
    (pss_cons (ps_if (pt_not (pt_chain op_le op_lt pe_int (pe_ix ix_tup (pv 1) pe_int (fun _ _ => rfl)) (pe_callB call_len_seq (by rfl) (hT.free "len" (by decide +kernel)) boot_len (pa_cons (pv 2) pa_nil))))
    (pss_one (ps_ret (pe_tup (pa_cons (pe_lst (pa_cons pe_str (pa_cons (pe_ix ix_tup (pv 1) pe_int (fun _ _ => rfl)) pa_nil))) (pa_cons pe_non pa_nil)))))
    pss_nil)
    (pss_one (ps_if (pt_cmp (pc_din hu (pe_ix ix_tup (pv 1) pe_int (fun _ _ => rfl)) (pe_fn d__law_sums hr (pa_cons (pv 2) pa_nil))))
    (pss_one (ps_ret (pe_tup (pa_cons (pe_lst (pa_cons pe_str (pa_cons (pe_ix ix_tup (pv 1) pe_int (fun _ _ => rfl)) pa_nil))) (pa_cons pe_non pa_nil)))))
    pss_nil)))
    (pss_cons (ps_set (i := 7) scDue.nd rfl (Or.inl rfl) (pe_slice sl_tupA (pv 1) (po_some (pe_un un_neg pe_int)) po_none))
    (pss_cons (ps_if (pt_cmpR (op_notInD (hu65 hr)) (pv 7) (pe_fn d__law_all_spots hr (pa_cons (pv 2) pa_nil)) (by with_unfolding_all rfl))
    (pss_one (ps_ret (pe_tup (pa_cons (pe_lst (pa_cons pe_str (pa_cons (pv 7) pa_nil))) (pa_cons pe_non pa_nil)))))
    pss_nil)
    (pss_cons (ps_set (i := 8) scDue.nd rfl (Or.inl rfl) (pe_ix ix_tup (pe_ix ix_tup (pe_ix ix_tup (pv 2) (pe_ix ix_tup (pv 7) pe_int (fun _ _ => rfl)) (fun _ _ => rfl)) (pe_ix ix_tup (pv 7) pe_int (fun _ _ => rfl)) (fun _ _ => rfl)) pe_int (fun _ _ => rfl)))
    (pss_cons (ps_if (pt_cmpR op_eq (pv 6) pe_str (nomark _))
    (pss_cons (ps_if (pt_cmpR op_ge (pe_callB call_len_seq (by rfl) (hT.free "len" (by decide +kernel)) boot_len (pa_cons (pv 3) pa_nil)) (pv 4) (nomark _))
    (pss_one (ps_ret (pe_tup (pa_cons (pe_lst (pa_cons pe_str (pa_cons (pe_callB call_len_seq (by rfl) (hT.free "len" (by decide +kernel)) boot_len (pa_cons (pv 3) pa_nil)) pa_nil))) (pa_cons pe_non pa_nil)))))
    pss_nil)
    (pss_one (ps_ret (pe_tup (pa_cons (pv 8) (pa_cons (pe_tup (pa_cons (pe_fn d__law_with hr (pa_cons (pv 2) (pa_cons (pe_disp1 hr.units0 (pv 7) (pe_un un_neg pe_int)) pa_nil))) (pa_cons (pe_callTy cr_tupN (by rfl) (hT.free "tuple" (by decide +kernel)) (by decide +kernel) (pa_cons (pe_callB (cr_sortTup hr.units) (by rfl) (hT.free "sorted" (by decide +kernel)) (by decide +kernel) (pa_cons (pe_op op_catN (pv 3) (pe_tup (pa_cons (pv 8) pa_nil))) pa_nil)) pa_nil)) (pa_cons (pv 4) (pa_cons (pe_op op_add (pv 5) pe_int) pa_nil))))) pa_nil))))))
    pss_nil)
    (pss_one (ps_if (pt_cmpR op_ne (pv 8) (pe_ix ix_tup (pv 1) pe_int (fun _ _ => rfl)) (nomark _))
    (pss_one (ps_ret (pe_tup (pa_cons (pe_lst (pa_cons pe_str (pa_cons (pv 7) pa_nil))) (pa_cons pe_non pa_nil)))))
    pss_nil)))))))
    (pss_cons (ps_set (i := 9) scDue.nd rfl (Or.inl rfl) (pe_tupM PySem.F.slot_tuple_index PySem.F.type_tuple_index mt_tup_index (pv 3) (pa_cons (pe_ix ix_tup (pv 1) pe_int (fun _ _ => rfl)) pa_nil)))
    (pss_cons (ps_set (i := 10) scDue.nd rfl (Or.inl rfl) (pe_op op_catN (pe_slice sl_tupN (pv 3) po_none (po_some (pv 9))) (pe_slice sl_tupN (pv 3) (po_some (pe_op op_add (pv 9) pe_int)) po_none)))
    (pss_cons (ps_if (pt_cmpR op_eq (pv 6) pe_str (nomark _))
    (pss_one (ps_ret (pe_tup (pa_cons pe_non (pa_cons (pe_tup (pa_cons (pe_fn d__law_with hr (pa_cons (pv 2) (pa_cons (pe_disp1 hr.units0 (pe_slice sl_tupA (pv 1) (po_some pe_int) po_none) pe_int) pa_nil))) (pa_cons (pv 10) (pa_cons (pv 4) (pa_cons (pv 5) pa_nil))))) pa_nil)))))
    pss_nil)
    (pss_cons (ps_set (i := 11) scDue.nd rfl (Or.inl rfl) (pe_ix ix_tup (pv 1) pe_int (fun _ _ => rfl)))
    (pss_one (ps_ret (pe_tup (pa_cons pe_non (pa_cons (pe_tup (pa_cons (pe_op op_catN (pe_op op_catN (pe_slice sl_tupN (pv 2) po_none (po_some (pv 11))) (pe_tup (pa_cons (pe_op op_catN (pe_ix ix_tup (pv 2) (pv 11) (fun _ _ => rfl)) (pe_tup (pa_cons (pe_tup (pa_cons (pe_ix ix_tup (pv 1) pe_int (fun _ _ => rfl)) (pa_cons pe_int pa_nil))) pa_nil))) pa_nil))) (pe_slice sl_tupN (pv 2) (po_some (pe_op op_add (pv 11) pe_int)) po_none)) (pa_cons (pv 10) (pa_cons (pv 4) (pa_cons (pv 5) pa_nil))))) pa_nil))))))))))))))
    )
  case read =>
    obtain ⟨sv, dv, s, d, rfl, ⟨a, v1, v2, rfl, rda, hst, haw⟩, ⟨da, rfl, rdd⟩, hsm, hal, q1, q2⟩ := h
    obtain ⟨a2, rfl, dn⟩ := aw_sq (K := K) haw
    obtain ⟨a1, ws, rfl, rd1, hws⟩ := id hst
    have hwl := plen hws
    have hzl := hsm.len
    have refuse : ∀ {H1 : Hp} {us : List V}, ¬ LOk s d → Ex H H1 → us.length = 2 → ∀ l, H1 l = none → ∀ t, upd H1 l (.lst us) t = none → Q (.ref t) (upd (upd H1 l (.lst us)) t (.tup [.ref l, .non])) := fun hn e _ l nl t nt =>
      q1 hn _ t _ (e.trans ((Ex.new nl).trans (Ex.new nt))) (.inl upd_same)
    refine ⟨_, rfl, a, _, rfl, rd_sq rda, rfl, _, _, rfl, _, _, rfl, _, _, rfl, _, _, rfl, rfl, ?_⟩
    refine ⟨_, rfl, da, _, 0, _, rfl, rfl, rd_sq rdd, deed0 d, _, rfl, rfl, _, rfl, ?_⟩
    cases d with
    | lend n =>
      refine if_t rfl ?_
      refine ⟨_, rfl, a2, _, rfl, .inr dn.sq, _, rfl, da, _, 1, _, rfl, rfl, rd_sq rdd, rfl, _, _, rfl, rfl, _, rfl, if_2 (fun cc => ?_) (fun cc => ?_)⟩
      · have c1 := of_decide_eq_true cc
        rw [List.length_map] at c1
        refine ⟨_, rfl, a2, _, rfl, .inr dn.sq, (by show 2 ≤ sizeLine; decide), fun l nl => ⟨(by show 2 ≤ sizeLine; decide), fun t nt => refuse (fun z => ?_) (Ex.refl H) rfl l nl t nt⟩⟩
        have z2 : (s.aw.length : Int) ≤ n := z
        omega
      · have c1 := of_decide_eq_false cc
        rw [List.length_map] at c1
        refine ⟨_, rfl, _, rfl, _, rfl, da, _, 1, _, rfl, rfl, rd_sq rdd, rfl, _, rfl, (by show 4 ≤ sizeLine; decide), fun t nt => ⟨(by show 2 ≤ sizeLine; decide), fun t2 nt2 => ?_⟩⟩
        have e1 := Ex.new (o := .tup [V.ref a1, .ref a2, .int n, .int s.tk]) nt
        have e2 := Ex.new (o := .tup [V.non, .ref t]) nt2
        exact q2 _ (.lend (by omega)) _ t2 _ _ (e1.trans e2) (.inl upd_same) ⟨t, _, _, rfl, .inl (e2 _ _ upd_same), mon_st _ _ _ _ (tk_ex (e1.trans e2)) hst, mon_aw _ _ _ _ (tk_ex (e1.trans e2)) haw⟩
    | take i j =>
      refine if_f (by show decide (V.str "take" = V.str "lend") = false; decide +kernel) ?_
      refine ⟨_, rfl, rfl, _, rfl, if_f (by show (!decide (V.str "take" = V.str "take")) = false; decide +kernel) (if_f rfl ?_)⟩
      refine ⟨_, rfl, rfl, _, rfl, if_f (by show decide (V.str "take" = V.str "end") = false; decide +kernel) ?_⟩
      refine ⟨_, rfl, _, rfl, _, rfl, da, _, rfl, rd_sq rdd, fun z => absurd z.1 (by show ¬ HT.sIx 3 0 (some (-2)) = 0; decide), fun _ p7 np7 => ?_⟩
      have e7 := Ex.new (o := .tup [V.int i, .int j]) np7
      have h7 : upd H p7 (.tup [V.int i, .int j]) p7 = some (.tup [V.int i, .int j]) := upd_same
      show _
      have ecut : cutV (deedV (.take i j)) (some (-2)) none = [V.int i, .int j] := rfl
      rw [ecut]
      generalize upd H p7 (.tup [V.int i, .int j]) = G at *
      have hst1 := mon_st _ _ _ _ (tk_ex e7) hst
      refine ⟨_, rfl, _, rfl, .ref a1, s.st, rfl, hst1, hsm, fun H2 S xs e2 nS hxS hxs => ⟨_, _, dp_two (.inl (e2 _ _ h7)), .lst (SqL.of hxS) (dp_spots hxs), shaped_two i j, shaped_spots _, _, rfl, ?_⟩⟩
      rw [any_spot]
      have eH := e7.trans e2
      cases hr' : runAt s.st i j with
      | none =>
        refine if_t rfl ⟨_, rfl, (by show 2 ≤ sizeLine; decide), fun l nl => ⟨(by show 2 ≤ sizeLine; decide), fun t nt => refuse (fun z => ?_) eH rfl l nl t nt⟩⟩
        obtain ⟨⟨r, z⟩, _⟩ := z
        rw [hr'] at z
        cases z
      | some r =>
        refine if_f rfl ?_
        obtain ⟨hi0, hj0, b, rs, c, hb, rdb, hc, rdc⟩ := runAt_get hws hr'
        refine ⟨_, rfl, _, rfl, p7, _, 0, _, rfl, rfl, .inl (.inl (e2 _ _ h7)), rfl, a1, ws, i, _, rfl, rfl, rd_sq ((tk_ex eH).rd rd1), atI_pos hi0 hb, _, rfl, p7, _, 1, _, rfl, rfl, .inl (.inl (e2 _ _ h7)), rfl, b, rs, j, _, rfl, rfl, rd_sq ((tk_ex eH).rd rdb), atI_pos hj0 hc, c, _, 0, _, rfl, rfl, rd_sq ((tk_ex eH).rd rdc), rfl, ?_⟩
        refine ⟨_, rfl, rfl, _, rfl, if_t rfl ?_⟩
        refine ⟨_, rfl, a2, _, rfl, .inr ((tk_ex eH).dn dn).sq, _, rfl, _, _, rfl, rfl, _, rfl, if_2 (fun cc => ?_) (fun cc => ?_)⟩
        · have c1 := of_decide_eq_true cc
          rw [List.length_map] at c1
          refine ⟨_, rfl, a2, _, rfl, .inr ((tk_ex eH).dn dn).sq, (by show 2 ≤ sizeLine; decide), fun l nl => ⟨(by show 2 ≤ sizeLine; decide), fun t nt => refuse (fun z => ?_) eH rfl l nl t nt⟩⟩
          have z2 := z.2
          omega
        · have c1 := of_decide_eq_false cc
          rw [List.length_map] at c1
          refine ⟨_, rfl, _, rfl, fun pd npd => ⟨_, rfl, _, rfl, upd_same, p7, [Sum.inl i, Sum.inl j], .int (-1), rfl, Ex.new npd _ _ (e2 _ _ h7), ?_⟩⟩
          rw [upd_upd]
          have e3 := Ex.new (o := .dT [([Sum.inl i, Sum.inl j], V.int (-1))]) npd
          have hpd : upd H2 pd (.dT [([Sum.inl i, Sum.inl j], V.int (-1))]) pd = some (.dT [([Sum.inl i, Sum.inl j], V.int (-1))]) := upd_same
          generalize upd H2 pd (.dT [([Sum.inl i, Sum.inl j], V.int (-1))]) = G3 at *
          have eH3 := eH.trans e3
          refine ⟨.ref a1, s.st, pd, i, j, -1, rfl, mon_st _ _ _ _ (tk_ex eH3) hst, hsm, hpd, fun H4 u e4 hu4 => ⟨_, rfl, _, rfl, (by show 1 ≤ sizeLine; decide), fun t nt => ?_⟩⟩
          have e5 := Ex.new (o := .tup [V.str r.1]) nt
          have ht : upd H4 t (.tup [V.str r.1]) t = some (.tup [V.str r.1]) := upd_same
          have hu5 := mon_st _ _ _ _ (tk_ex e5) hu4
          have eH5 := eH3.trans (e4.trans e5)
          generalize upd H4 t (.tup [V.str r.1]) = G5 at *
          refine catN_any (xs := s.aw.map V.str) (ys := [V.str r.1]) ((tk_ex eH5).rd dn.rd) (.inl ht) (by rw [List.length_map]; show _ + 1 ≤ _; omega) (fun p H6 e6 rdp => ⟨p, s.aw ++ [r.1], rfl, by rw [List.map_append]; exact rd_sq rdp, fun ys p8 hperm np8 => ⟨p8, _, rfl, .inl ⟨SqL.of upd_same, fun p9 o np9 ho => ?_⟩⟩⟩)
          have e8 := Ex.new (o := .lst (ys.map V.str)) np8
          have e9 := Ex.new (o := HO.frz o (.tup (ys.map V.str))) np9
          have hd9 : DN (upd (upd H6 p8 (.lst (ys.map V.str))) p9 (HO.frz o (.tup (ys.map V.str)))) p9 (ys.map V.str) := DN.new ho
          have e69 := e6.trans (e8.trans e9)
          generalize upd (upd H6 p8 (.lst (ys.map V.str))) p9 (HO.frz o (.tup (ys.map V.str))) = G9 at *
          refine ⟨_, rfl, _, rfl, _, _, rfl, rfl, (by show 4 ≤ sizeLine; decide), fun t2 nt2 => ⟨(by show 2 ≤ sizeLine; decide), fun t3 nt3 => ?_⟩⟩
          have y2 := Ex.new (o := .tup [u, V.ref p9, .int s.ln, .int (s.tk + 1)]) nt2
          have y3 := Ex.new (o := .tup [V.str r.1, .ref t2]) nt3
          have y := y2.trans y3
          exact q2 ⟨chg s.st i j (-1), ys, s.ln, s.tk + 1⟩ (.take hr' (by omega) hperm) _ t3 _ _ ((eH5.trans e69).trans y) (.inl upd_same) ⟨t2, _, _, rfl, .inl (y3 _ _ upd_same), mon_st _ _ _ _ (tk_ex (e69.trans y)) hu5, ⟨p9, _, rfl, (tk_ex y).dn hd9, pstr' _⟩⟩
    | put k i j =>
      refine if_f (by show decide (V.str "put" = V.str "lend") = false; decide +kernel) ?_
      refine ⟨_, rfl, rfl, _, rfl, if_t (by show (!decide (V.str "put" = V.str "take")) = true; decide +kernel) ?_⟩
      refine ⟨_, rfl, da, _, 1, .str k, rfl, rfl, rd_sq rdd, rfl, _, rfl, a2, _, rfl, .inr dn.sq, rfl, flat_strs _, _, rfl, ?_⟩
      rw [inV_str]
      by_cases hk : k ∈ s.aw
      · rw [decide_eq_true hk]
        refine if_f rfl ?_
        refine ⟨_, rfl, rfl, _, rfl, if_f (by show decide (V.str "put" = V.str "end") = false; decide +kernel) ?_⟩
        refine ⟨_, rfl, _, rfl, _, rfl, da, _, rfl, rd_sq rdd, fun z => absurd z.1 (by show ¬ HT.sIx 4 0 (some (-2)) = 0; decide), fun _ p7 np7 => ?_⟩
        have e7 := Ex.new (o := .tup [V.int i, .int j]) np7
        have h7 : upd H p7 (.tup [V.int i, .int j]) p7 = some (.tup [V.int i, .int j]) := upd_same
        have ecut : cutV (deedV (.put k i j)) (some (-2)) none = [V.int i, .int j] := rfl
        rw [ecut]
        generalize upd H p7 (.tup [V.int i, .int j]) = G at *
        have hst1 := mon_st _ _ _ _ (tk_ex e7) hst
        refine ⟨_, rfl, _, rfl, .ref a1, s.st, rfl, hst1, hsm, fun H2 S xs e2 nS hxS hxs => ⟨_, _, dp_two (.inl (e2 _ _ h7)), .lst (SqL.of hxS) (dp_spots hxs), shaped_two i j, shaped_spots _, _, rfl, ?_⟩⟩
        rw [any_spot]
        have eH := e7.trans e2
        have rdd2 := (tk_ex eH).rd rdd
        cases hr' : runAt s.st i j with
        | none =>
          refine if_t rfl ⟨_, rfl, (by show 2 ≤ sizeLine; decide), fun l nl => ⟨(by show 2 ≤ sizeLine; decide), fun t nt => refuse (fun z => ?_) eH rfl l nl t nt⟩⟩
          obtain ⟨_, r, z, _⟩ := z
          rw [hr'] at z
          cases z
        | some r =>
          refine if_f rfl ?_
          obtain ⟨hi0, hj0, b, rs, c, hb, rdb, hc, rdc⟩ := runAt_get hws hr'
          refine ⟨_, rfl, _, rfl, p7, _, 0, _, rfl, rfl, .inl (.inl (e2 _ _ h7)), rfl, a1, ws, i, _, rfl, rfl, rd_sq ((tk_ex eH).rd rd1), atI_pos hi0 hb, _, rfl, p7, _, 1, _, rfl, rfl, .inl (.inl (e2 _ _ h7)), rfl, b, rs, j, _, rfl, rfl, rd_sq ((tk_ex eH).rd rdb), atI_pos hj0 hc, c, _, 0, _, rfl, rfl, rd_sq ((tk_ex eH).rd rdc), rfl, ?_⟩
          refine ⟨_, rfl, rfl, _, rfl, if_f (by show decide (V.str "put" = V.str "take") = false; decide +kernel) ?_⟩
          refine ⟨_, rfl, _, rfl, da, _, 1, .str k, rfl, rfl, rd_sq rdd2, rfl, rfl, _, rfl, if_2 (fun cc => ?_) (fun cc => ?_)⟩
          · refine ⟨_, rfl, (by show 2 ≤ sizeLine; decide), fun l nl => ⟨(by show 2 ≤ sizeLine; decide), fun t nt => refuse (fun z => ?_) eH rfl l nl t nt⟩⟩
            obtain ⟨_, r2, z, zk⟩ := z
            rw [hr'] at z
            cases z
            rw [zk] at cc
            simp at cc
          · have ek : r.1 = k := by
              have c2 : (!decide (V.str r.1 = V.str k)) = false := cc
              have c3 : V.str r.1 = V.str k := by simpa using c2
              injection c3
            obtain ⟨x, hx, hx1, hx2, hx3⟩ := first_at hk
            have dn2 := (tk_ex eH).dn dn
            refine ⟨_, rfl, ⟨a2, _, rfl, dn2⟩, _, rfl, da, _, 1, .str k, rfl, rfl, rd_sq rdd2, rfl, a2, s.aw, k, x, rfl, rfl, dn2.sq, hx1, hx2, ?_⟩
            refine ⟨_, rfl, _, rfl, _, rfl, slD_any dn2 fun p3 H3 e3 d3 => ⟨_, rfl, _, rfl, _, _, rfl, rfl, _, rfl, ?_⟩⟩
            show tNoPart _ _ _
            unfold tNoPart
            refine slD_any (K := K) (lo := some ((x : Int) + 1)) (hi := none) ((tk_ex e3).dn dn2) fun p4 H4 e4 d4 => ?_
            rw [cut_lo _ _ (by rw [List.length_map]; omega)] at d3
            have ex1 : ((x : Int) + 1) = ((x + 1 : Nat) : Int) := by omega
            rw [ex1, cut_hi _ _ (by rw [List.length_map]; omega)] at d4
            refine catD_any ((tk_ex e4).dn d3) d4 (by rw [List.length_take, List.length_drop, List.length_map]; omega) fun p5 H5 e5 d5 => ?_
            have d5' : DN H5 p5 ((s.aw.erase k).map V.str) := by
              rw [← hx3, List.map_append, List.map_take, List.map_drop]
              exact d5
            have eH5 := eH.trans (e3.trans (e4.trans e5))
            refine ⟨_, rfl, rfl, _, rfl, if_t rfl ?_⟩
            have rdd5 := (tk_ex eH5).rd rdd
            refine ⟨_, rfl, fun pd npd => ⟨_, rfl, _, rfl, da, _, rfl, rd_sq ((tk_new npd).rd rdd5), fun z => absurd z.1 (by show ¬ HT.sIx 4 0 (some 2) = 0; decide), fun _ p8 np8 => ?_⟩⟩
            have ecut2 : cutV (deedV (.put k i j)) (some 2) none = [V.int i, .int j] := rfl
            rw [ecut2]
            have f1 := Ex.new (o := .dT []) npd
            have f2 := Ex.new (o := .tup [V.int i, .int j]) np8
            have hpd : upd (upd H5 pd (.dT [])) p8 (.tup [V.int i, .int j]) pd = some (.dT []) := f2 _ _ upd_same
            have hp8 : upd (upd H5 pd (.dT [])) p8 (.tup [V.int i, .int j]) p8 = some (.tup [V.int i, .int j]) := upd_same
            refine ⟨hpd, p8, [Sum.inl i, Sum.inl j], .int 1, rfl, hp8, ?_⟩
            have f3 : Ex H5 (upd (upd (upd H5 pd (.dT [])) p8 (.tup [V.int i, .int j])) pd (.dT [([Sum.inl i, Sum.inl j], .int 1)])) := (f1.trans f2).mut npd
            have hpd3 : upd (upd (upd H5 pd (.dT [])) p8 (.tup [V.int i, .int j])) pd (.dT [([Sum.inl i, Sum.inl j], .int 1)]) pd = some (.dT [([Sum.inl i, Sum.inl j], .int 1)]) := upd_same
            generalize upd (upd (upd H5 pd (.dT [])) p8 (.tup [V.int i, .int j])) pd (.dT [([Sum.inl i, Sum.inl j], .int 1)]) = G6 at *
            have eH6 := eH5.trans f3
            refine ⟨.ref a1, s.st, pd, i, j, 1, rfl, mon_st _ _ _ _ (tk_ex eH6) hst, hsm, hpd3, fun H7 u e7' hu7 => ⟨_, rfl, _, rfl, _, rfl, (by show 4 ≤ sizeLine; decide), fun t2 nt2 => ⟨(by show 2 ≤ sizeLine; decide), fun t3 nt3 => ?_⟩⟩⟩
            have y2 := Ex.new (o := .tup [u, V.ref p5, .int s.ln, .int s.tk]) nt2
            have y3 := Ex.new (o := .tup [V.non, .ref t2]) nt3
            have y := y2.trans y3
            exact q2 ⟨chg s.st i j 1, s.aw.erase k, s.ln, s.tk⟩ (.put hk hr' ek) _ t3 _ _ ((eH6.trans e7').trans y) (.inl upd_same) ⟨t2, _, _, rfl, .inl (y3 _ _ upd_same), mon_st _ _ _ _ (tk_ex y) hu7, ⟨p5, _, rfl, (tk_ex (f3.trans (e7'.trans y))).dn d5', pstr' _⟩⟩
      · rw [decide_eq_false hk]
        refine if_t rfl ?_
        exact ⟨_, rfl, da, _, 1, .str k, rfl, rfl, rd_sq rdd, rfl, (by show 2 ≤ sizeLine; decide), fun l nl => ⟨(by show 2 ≤ sizeLine; decide), fun t nt => refuse (fun z => hk z.1) (Ex.refl H) rfl l nl t nt⟩⟩
    | fin k i =>
      refine if_f (by show decide (V.str "end" = V.str "lend") = false; decide +kernel) ?_
      refine ⟨_, rfl, rfl, _, rfl, if_t (by show (!decide (V.str "end" = V.str "take")) = true; decide +kernel) ?_⟩
      refine ⟨_, rfl, da, _, 1, .str k, rfl, rfl, rd_sq rdd, rfl, _, rfl, a2, _, rfl, .inr dn.sq, rfl, flat_strs _, _, rfl, ?_⟩
      rw [inV_str]
      by_cases hk : k ∈ s.aw
      · rw [decide_eq_true hk]
        refine if_f rfl ?_
        refine ⟨_, rfl, rfl, _, rfl, if_t rfl ?_⟩
        refine ⟨_, rfl, da, _, 2, .int i, rfl, rfl, rd_sq rdd, rfl, _, _, rfl, rfl, _, rfl, if_2 (fun c1 => ?_) (fun c1 => ?_)⟩
        · have p0 : 0 ≤ i := of_decide_eq_true c1
          refine ⟨_, rfl, a1, ws, rfl, .inr (rd_sq rd1), _, _, rfl, rfl, _, rfl, ?_⟩
          by_cases p1 : i < (ws.length : Int)
          · refine if_f (by simpa using p1) ?_
            refine ⟨_, rfl, da, _, 1, .str k, rfl, rfl, rd_sq rdd, rfl, _, rfl, .ref a1, s.st, rfl, hst, hsm, fun H2 D e2 nD hD => ⟨D, _, rfl, DGet.k (k := Sum.inr k) hD, _, rfl, ?_⟩⟩
            rw [is_kvR]
            have rdd2 := (tk_ex e2).rd rdd
            by_cases hh : Has s.st k
            · rw [decide_eq_true ((sums_has _ _).mpr hh)]
              refine if_t rfl ⟨_, rfl, da, _, 1, .str k, rfl, rfl, rd_sq rdd2, rfl, (by show 2 ≤ sizeLine; decide), fun l nl => ⟨(by show 2 ≤ sizeLine; decide), fun t nt => refuse (fun z => z.2.2 hh) e2 rfl l nl t nt⟩⟩
            · rw [decide_eq_false (fun z => hh ((sums_has _ _).mp z))]
              refine if_f rfl ?_
              obtain ⟨x, hx, hx1, hx2, hx3⟩ := first_at hk
              have dn2 := (tk_ex e2).dn dn
              refine ⟨_, rfl, ⟨a2, _, rfl, dn2⟩, _, rfl, da, _, 1, .str k, rfl, rfl, rd_sq rdd2, rfl, a2, s.aw, k, x, rfl, rfl, dn2.sq, hx1, hx2, ?_⟩
              refine ⟨_, rfl, _, rfl, _, rfl, slD_any dn2 fun p3 H3 e3 d3 => ⟨_, rfl, _, rfl, _, _, rfl, rfl, _, rfl, ?_⟩⟩
              show tNoPart _ _ _
              unfold tNoPart
              refine slD_any (K := K) (lo := some ((x : Int) + 1)) (hi := none) ((tk_ex e3).dn dn2) fun p4 H4 e4 d4 => ?_
              rw [cut_lo _ _ (by rw [List.length_map]; omega)] at d3
              have ex1 : ((x : Int) + 1) = ((x + 1 : Nat) : Int) := by omega
              rw [ex1, cut_hi _ _ (by rw [List.length_map]; omega)] at d4
              refine catD_any ((tk_ex e4).dn d3) d4 (by rw [List.length_take, List.length_drop, List.length_map]; omega) fun p5 H5 e5 d5 => ?_
              have d5' : DN H5 p5 ((s.aw.erase k).map V.str) := by
                rw [← hx3, List.map_append, List.map_take, List.map_drop]
                exact d5
              have eH5 := e2.trans (e3.trans (e4.trans e5))
              have rdd5 := (tk_ex eH5).rd rdd
              refine ⟨_, rfl, rfl, _, rfl, if_f (by show decide (V.str "end" = V.str "put") = false; decide +kernel) ?_⟩
              refine ⟨_, rfl, da, _, 2, .int i, rfl, rfl, rd_sq rdd5, rfl, ?_⟩
              obtain ⟨n, rfl⟩ : ∃ n : Nat, i = (n : Int) := ⟨i.toNat, by omega⟩
              have hn : n < ws.length := by omega
              have hn2 : n < s.st.length := by omega
              have hsh : s.st[n]? = some s.st[n] := List.getElem?_eq_getElem hn2
              generalize s.st[n] = sh at hsh
              obtain ⟨y0, hy0, b, ys, rfl, rdb, hys⟩ := pget hws hsh
              have hyl := plen hys
              have hfl := flat_get hsh
              have hzf := hsm.flat
              have k5 := tk_ex eH5
              have rd15 := k5.rd rd1
              refine ⟨_, rfl, _, rfl, _, rfl, slN_any rd15 fun p6 H6 e6 r6 => ⟨_, rfl, _, rfl, a1, ws, (n : Int), _, rfl, rfl, rd_sq ((tk_ex e6).rd rd15), atI_nat hy0, _, rfl, da, _, 1, .str k, rfl, rfl, rd_sq ((tk_ex e6).rd rdd5), rfl, (by show 2 ≤ sizeLine; decide), fun t nt => ⟨(by show 1 ≤ sizeLine; decide), fun t2 nt2 => ?_⟩⟩⟩
              rw [cut_lo _ _ (by omega)] at r6
              have y1 := Ex.new (o := .tup [V.str k, .int 1]) nt
              have y2 := Ex.new (o := .tup [V.ref t]) nt2
              have ht : upd (upd H6 t (.tup [V.str k, .int 1])) t2 (.tup [V.ref t]) t = some (.tup [V.str k, .int 1]) := y2 _ _ upd_same
              have ht2 : upd (upd H6 t (.tup [V.str k, .int 1])) t2 (.tup [V.ref t]) t2 = some (.tup [V.ref t]) := upd_same
              have y3 := y1.trans y2
              generalize upd (upd H6 t (.tup [V.str k, .int 1])) t2 (.tup [V.ref t]) = G7 at *
              have eH7 := eH5.trans (e6.trans y3)
              refine catN_any ((tk_ex eH7).rd rdb) (.inl ht2) (by show _ + 1 ≤ _; omega) fun p8 H8 e8 r8 => ⟨(by show 1 ≤ sizeLine; decide), fun t9 nt9 => ?_⟩
              have y9 := Ex.new (o := .tup [V.ref p8]) nt9
              have ht9 : upd H8 t9 (.tup [V.ref p8]) t9 = some (.tup [V.ref p8]) := upd_same
              generalize upd H8 t9 (.tup [V.ref p8]) = G9 at *
              have e69 := y3.trans (e8.trans y9)
              refine catN_any ((tk_ex e69).rd r6) (.inl ht9) (by rw [List.length_take]; show _ + 1 ≤ _; omega) fun p10 H10 e10 r10 => ⟨_, rfl, _, rfl, _, _, rfl, rfl, _, rfl, ?_⟩
              refine slN_any (K := K) (lo := some ((n : Int) + 1)) (hi := none) ((tk_ex (e6.trans (e69.trans e10))).rd rd15) fun p11 H11 e11 r11 => ?_
              have ex2 : ((n : Int) + 1) = ((n + 1 : Nat) : Int) := by omega
              rw [ex2, cut_hi _ _ (by omega)] at r11
              refine catN_any ((tk_ex e11).rd r10) r11 (by rw [List.length_append, List.length_take, List.length_drop]; show _ + 1 + _ ≤ _; omega) fun p12 H12 e12 r12 => ⟨_, rfl, _, rfl, _, rfl, (by show 4 ≤ sizeLine; decide), fun t13 nt13 => ⟨(by show 2 ≤ sizeLine; decide), fun t14 nt14 => ?_⟩⟩
              have w1 := Ex.new (o := .tup [V.ref p12, V.ref p5, .int s.ln, .int s.tk]) nt13
              have w2 := Ex.new (o := .tup [V.non, .ref t13]) nt14
              have ww := w1.trans w2
              have e9z := e10.trans (e11.trans (e12.trans ww))
              have e8z := y9.trans e9z
              have e7z := e8.trans e8z
              have eHz := eH7.trans e7z
              have e5z := e6.trans (y3.trans e7z)
              have hst' : Paired (ShV (upd (upd H12 t13 (.tup [V.ref p12, V.ref p5, .int s.ln, .int s.tk])) t14 (.tup [V.non, .ref t13]))) (ws.take n ++ [V.ref p8] ++ ws.drop (n + 1)) (addAt s.st (n : Int) k) := by
                have em : addAt s.st (n : Int) k = s.st.take n ++ [sh ++ [(k, 1)]] ++ s.st.drop (n + 1) := by
                  unfold addAt
                  rw [Int.toNat_natCast]
                  exact (modify_cut hsh).symm
                rw [em]
                have hz := pmono mon_sh (tk_ex eHz) hws
                refine papp (papp (ptake n hz) (.cons ⟨p8, _, rfl, (tk_ex e8z).rd r8, psnoc (pmono mon_run (tk_ex eHz) hys) ⟨t, rfl, .inl (e7z _ _ ht)⟩⟩ .nil)) (pdrop (n + 1) hz)
              exact q2 ⟨addAt s.st (n : Int) k, s.aw.erase k, s.ln, s.tk⟩ (.fin hk ⟨p0, by omega⟩ hh) _ t14 _ _ eHz (.inl upd_same) ⟨t13, _, _, rfl, .inl (w2 _ _ upd_same), ⟨p12, _, rfl, (tk_ex ww).rd r12, hst'⟩, ⟨p5, _, rfl, (tk_ex e5z).dn d5', pstr' _⟩⟩
          · refine if_t (by simpa using p1) ⟨_, rfl, da, _, 2, .int i, rfl, rfl, rd_sq rdd, rfl, (by show 2 ≤ sizeLine; decide), fun l nl => ⟨(by show 2 ≤ sizeLine; decide), fun t nt => refuse (fun z => ?_) (Ex.refl H) rfl l nl t nt⟩⟩
            have z2 := z.2.1.2
            omega
        · have p0 : ¬ 0 ≤ i := of_decide_eq_false c1
          refine ⟨_, rfl, if_t rfl ⟨_, rfl, da, _, 2, .int i, rfl, rfl, rd_sq rdd, rfl, (by show 2 ≤ sizeLine; decide), fun l nl => ⟨(by show 2 ≤ sizeLine; decide), fun t nt => refuse (fun z => p0 z.2.1.1) (Ex.refl H) rfl l nl t nt⟩⟩⟩
      · rw [decide_eq_false hk]
        refine if_t rfl ?_
        exact ⟨_, rfl, da, _, 1, .str k, rfl, rfl, rd_sq rdd, rfl, (by show 2 ≤ sizeLine; decide), fun l nl => ⟨(by show 2 ≤ sizeLine; decide), fun t nt => refuse (fun z => hk z.1) (Ex.refl H) rfl l nl t nt⟩⟩
end
end Sh
/-! except (six classes) as name: an exception of one of them. -/
namespace PySem.W
open PySem PySem.Spec PySem.Calls PyProof.Rows
section
variable {M : Model} {K : Frag}
theorem sh_exm6 {c1 c2 c3 c4 c5 c6 cls : Value} {tp e : Addr} {h : Heap} (X : K.In h) (LT : Looks M h (typeOf (.ref e)) cls) (hp : h.get? tp = some { cls := .type "tuple", data := .seq [c1, c2, c3, c4, c5, c6].toArray }) (hx : exmAny K cls [c1, c2, c3, c4, c5, c6] = some true) :
    Looks M h (excMatches (.ref e) (.ref tp)) true := by
  intro A Q E s k₀ q
  obtain ⟨hh, g, d, tk, os⟩ := s
  have k : ∀ b o, h.get? b = some o → hh.get? b = some o := k₀
  have LT0 : Looks M h (isInstance (.ref tp) (.type "tuple")) true := ((Looks.ld hp).andThen .now).andThen (Looks.of_pure isSubtype_tuple_tuple)
  obtain ⟨b1, d1, x1, y1, z1⟩ := exmAny_cons hx
  obtain ⟨e1, S1⟩ := exm_cls (M := M) X x1
  have e1 := e1.keeps k
  have S1 := S1.keeps k
  obtain ⟨b2, d2, x2, y2, z2⟩ := exmAny_cons y1
  obtain ⟨e2, S2⟩ := exm_cls (M := M) X x2
  have e2 := e2.keeps k
  have S2 := S2.keeps k
  obtain ⟨b3, d3, x3, y3, z3⟩ := exmAny_cons y2
  obtain ⟨e3, S3⟩ := exm_cls (M := M) X x3
  have e3 := e3.keeps k
  have S3 := S3.keeps k
  obtain ⟨b4, d4, x4, y4, z4⟩ := exmAny_cons y3
  obtain ⟨e4, S4⟩ := exm_cls (M := M) X x4
  have e4 := e4.keeps k
  have S4 := S4.keeps k
  obtain ⟨b5, d5, x5, y5, z5⟩ := exmAny_cons y4
  obtain ⟨e5, S5⟩ := exm_cls (M := M) X x5
  have e5 := e5.keeps k
  have S5 := S5.keeps k
  obtain ⟨b6, d6, x6, y6, z6⟩ := exmAny_cons y5
  obtain ⟨e6, S6⟩ := exm_cls (M := M) X x6
  have e6 := e6.keeps k
  have S6 := S6.keeps k
  have w6 : some false = some d6 := y6
  cases w6
  have LT := LT.keeps k
  have LT0 := LT0.keeps k
  have hp' := k _ _ hp
  unfold excMatches
  refine wpAny_bind (LT0.at ?_)
  dsimp only
  rw [if_pos rfl]
  first
    | refine wpAny_bind (wpAny_seqItems hp' rfl ?_)
    | refine wpAny_bind (wpAny_bind (wpAny_seqItems hp' rfl (wpAny_pure ?_)))
  dsimp only [Option.getD_some, Option.getD]
  cases b1
  case true => ((repeat (first | simp only [List.forIn_cons, List.forIn_nil, Bool.not_true, Bool.false_eq_true, if_false, if_true] | lk)); exact q)
  cases b2
  case true => ((repeat (first | simp only [List.forIn_cons, List.forIn_nil, Bool.not_true, Bool.false_eq_true, if_false, if_true] | lk)); exact q)
  cases b3
  case true => ((repeat (first | simp only [List.forIn_cons, List.forIn_nil, Bool.not_true, Bool.false_eq_true, if_false, if_true] | lk)); exact q)
  cases b4
  case true => ((repeat (first | simp only [List.forIn_cons, List.forIn_nil, Bool.not_true, Bool.false_eq_true, if_false, if_true] | lk)); exact q)
  cases b5
  case true => ((repeat (first | simp only [List.forIn_cons, List.forIn_nil, Bool.not_true, Bool.false_eq_true, if_false, if_true] | lk)); exact q)
  cases b6
  case true => ((repeat (first | simp only [List.forIn_cons, List.forIn_nil, Bool.not_true, Bool.false_eq_true, if_false, if_true] | lk)); exact q)
  subst z6 z5 z4 z3 z2
  simp at z1
end
end PySem.W
namespace Sh
open PySem PySem.Spec PyProof.Rows L2
theorem fly_grow {base h h' : Heap} {l : List Env} {e : Addr} {Z : Obj → Prop} (x : HandSPX.FlyingZ base l e Z h) (k : ∀ b o, h.get? b = some o → h'.get? b = some o) : HandSPX.FlyingZ base l e Z h' := by
  obtain ⟨x1, x2, x3, oe, vs, T, oT, ts, h1, h2, h3, h4, h5, h6, h7, h8, h9⟩ := x
  exact ⟨fun b o q => k _ _ (x1 b o q), x2, x3.of_keeps fun b o q _ => ⟨o, k _ _ q, rfl⟩, oe, vs, T, oT, ts, k _ _ h1, h2, h3, h4, h5, h6, k _ _ h7, h8, h9⟩
/-- what such a clause wishes of an exception: that it is of the six; the suite goes on -/
def wSix (K : PySem.W.Frag) (cs : List Value) (i : Nat) (ts : Addr → Value → Option Addr → TS) (D : Ends) : WX := fun cls d σ H =>
  PySem.W.exmAny K cls cs = some true ∧ ∀ a, H a = none → ts a cls d { nx := fun σ' H' => D.nx (σ'.set i none) H', rt := D.rt, bk := fun σ' H' => D.bk (σ'.set i none) H', ct := fun σ' H' => D.ct (σ'.set i none) H' } (σ.set i (some (.ref a))) H
section
variable {X : Cx} {n : Str} {c1 c2 c3 c4 c5 c6 : Value} {i : Nat} {body suite : List Stmt} {b₀ : Stmt} {es : List Expr} {kk : Nat} {np pos pos' : Pos} {tb : WX → TS} {ts : Addr → Value → Option Addr → TS}
theorem ps_try_six (hs : X.stack = X.env :: X.outer) (hf : X.env.frame = some X.env.locals) (hN : X.N.Nodup) (hi : X.N[i]? = some n) (hln : X.env.kindOf n = some .local)
    (hev : ∀ (a : Addr) (pn pins : List (Addr × Obj)) (σ : L2.St) (H : Hp) (s : Shared) (Q : List Value → Shared → Prop) (E : Value → Shared → Prop), L2.Inv (X.suite a pn) pins σ H s → Q [c1, c2, c3, c4, c5, c6] s → wpAny (model X.prog X.w) (X.suite a pn).A (spliced (backTo np (starEach es X.env))) Q E s)
    (hb : ∀ (W : WX) (pn : List (Addr × Obj)) (xe : Value → Shared → Prop), L2.Takes (X.tr pn xe) W → PassesOwn (model X.prog X.w) X.A X.env xe → PSs (X.tr pn xe) body (tb W))
    (hsu : ∀ (a : Addr) (oe : Obj) (cls : Value) (d : Option Addr) (pn : List (Addr × Obj)), Zc cls d oe → (∃ vs, oe.data = .fields vs) → PSs (X.suite a ((a, oe) :: pn)) (b₀ :: suite) (ts a cls d)) :
    PS X (.Try body [.ExceptHandler (some (.Tuple es kk np)) (some n) (b₀ :: suite) pos'] [] [] pos) (fun D σ H => tb (wSix X.K [c1, c2, c3, c4, c5, c6] i ts D) D σ H) := by
  refine ⟨fun pins s σ H D I h => ?_⟩
  have ok := I.ok
  have hfr : X.A.frames = some (X.env :: X.outer) := by rw [ok.frames, hs]
  have hloc : Loc X.env.scope n := .inl hln
  refine wpAny_Try_except ?_
  refine wpAny_mono ((hb (wSix X.K [c1, c2, c3, c4, c5, c6] i ts D) (X.pn ++ pins) (fun e s₁ => wpAny (model X.prog X.w) X.A (noteFrame e X.env) (fun _ s₂ => wpAny (model X.prog X.w) X.A (setFlight e none) (fun _ s₃ =>
    wpAny (model X.prog X.w) X.A (handleBy e X.env [.ExceptHandler (some (.Tuple es kk np)) (some n) (b₀ :: suite) pos']) (SP X pins D) X.xe s₃) X.xe s₂) X.xe s₁) (fun u s' xx => ?_) PassesOwn.looking).run [] s σ H D (I.toTry _) h) (fun f s1 hsp => ?_) (fun e s1 he => he)
  · -- the catch
    obtain ⟨a, B, sI, pins', σ', H', cls, d, rfl, J', nb, up, sky, na, os, ag, hb1, hyes⟩ := xx
    have J : L2.Inv X pins σ' H' sI := J'.ofTry ok
    have sky' : Sky B (X.env :: X.outer) a (Zc cls d) X.env.locals s'.heap := by rw [← hs]; exact sky
    show wpAny (model X.prog X.w) X.A (noteFrame (.ref a) X.env) _ _ _
    refine Sky.land Zc.steady hfr hf sky' fun h3 fl3 up3 => ?_
    have J3 : L2.Inv X pins σ' H' { s' with heap := h3 } := J.landed nb fl3.1 (up.trans up3) os ag
    obtain ⟨oe3, vs3, he3, hz3, hd3⟩ := fl3.there
    have notFr : ∀ {h : Heap} {o : Obj} {vs : Array Value}, h.FunFrames B (X.env :: X.outer) → h.get? a = some o → o.data = .fields vs → a ∉ frs (X.env :: X.outer) := fun {h o vs} ff e dd hm => by
      obtain ⟨_, o', e', hnf⟩ := ff.mem hm
      rw [e] at e'; cases e'
      exact hnf _ dd
    have nfr := notFr fl3.2.2.1 he3 hd3
    have nL : a ≠ X.env.locals := fun z => nfr (List.mem_filterMap.mpr ⟨X.env, List.mem_cons_self, by rw [hf, z]⟩)
    have nF : a ∉ X.fs := fun hm => by
      obtain ⟨e, he, q⟩ := List.mem_filterMap.mp hm
      exact nfr (List.mem_filterMap.mpr ⟨e, List.mem_cons_of_mem _ he, q⟩)
    have S3 := J3.suite he3 hd3 na nL nF
    refine wpAny_handleBy_cons (codeAny_handlers_test ?_) (by intro q; cases q)
    refine wpAny_Tuple_spliced (hev a _ _ _ _ _ _ _ S3 ⟨by show 6 ≤ sizeLine; decide, ?_⟩)
    -- the tuple is laid
    have kp : ∀ b o, h3.get? b = some o → (h3.push { cls := .type "tuple", data := .seq [c1, c2, c3, c4, c5, c6].toArray }).get? b = some o := fun b o q => Heap.get?_push_of_some _ q
    have hg : (h3.push { cls := .type "tuple", data := .seq [c1, c2, c3, c4, c5, c6].toArray }).get? h3.objs.size = some { cls := .type "tuple", data := .seq [c1, c2, c3, c4, c5, c6].toArray } := Heap.get?_push_size _ rfl
    have flT := fly_grow fl3 kp
    have upT : h3.UpToSlots (h3.push { cls := .type "tuple", data := .seq [c1, c2, c3, c4, c5, c6].toArray }) := .of_keeps kp
    have JT : L2.Inv X pins σ' H' { s' with heap := h3.push { cls := .type "tuple", data := .seq [c1, c2, c3, c4, c5, c6].toArray } } := J3.kept (t' := s'.toks) kp
    have LT : PySem.W.Looks (model X.prog X.w) (h3.push { cls := .type "tuple", data := .seq [c1, c2, c3, c4, c5, c6].toArray }) (typeOf (.ref a)) cls := fun A Q E s k q => wpAny_typeOf_ref (k _ _ (kp _ _ he3)) (by rw [hz3.1]; exact q)
    have LM := PySem.W.sh_exm6 (M := model X.prog X.w) (JT.kIn) LT hg hb1
    refine LM.here ?_
    refine codeAny_handlers_suite_as ?_
    refine HandSPX.lands_againZ flT fun h4 fl4 up4 => ?_
    have J4 : L2.Inv X pins σ' H' { s' with heap := h4 } := J.landed nb fl4.1 (((up.trans up3).trans upT).trans up4) os ag
    obtain ⟨oe4, vs4, he4, hz4, hd4⟩ := fl4.there
    have S4 := J4.suite he4 hd4 na nL nF
    refine store_ok (X := X.suite a ((a, oe4) :: (X.pn ++ pins))) (v := .ref a) S4 hN hi hloc rfl (fun s5 S5 => ?_) (.inr hln)
    refine wpAny_mono ((hsu a oe4 cls d (X.pn ++ pins) hz4 ⟨_, hd4⟩).run [] s5 _ H' _ S5 (hyes a na)) (fun f s6 hsp => ?_) (fun _ _ z => False.elim z)
    have end_ : ∀ {σ6 : L2.St} {H6 : Hp} {Q : Shared → Prop}, L2.Inv (X.suite a ((a, oe4) :: (X.pn ++ pins))) [] σ6 H6 s6 → (∀ s7, L2.Inv X pins (σ6.set i none) H6 s7 → Q s7) →
        wpAny (model X.prog X.w) X.A (do bindName X.env n .none; unbindBehindTheSuite X.env n pos') (fun _ s7 => Q s7) X.xe s6 := fun {σ6 H6 Q} S6 hq => gone_ok (S6.unsuite ok) hN hi hln hq
    cases f with
    | next =>
      obtain ⟨σ6, H6, S6, q6⟩ := hsp
      exact end_ S6 fun s7 J7 => ⟨_, _, J7, q6⟩
    | brk =>
      obtain ⟨σ6, H6, S6, q6⟩ := hsp
      exact end_ S6 fun s7 J7 => ⟨_, _, J7, q6⟩
    | cont =>
      obtain ⟨σ6, H6, S6, q6⟩ := hsp
      exact end_ S6 fun s7 J7 => ⟨_, _, J7, q6⟩
    | ret u =>
      obtain ⟨v6, σ6, H6, S6, r6, q6⟩ := hsp
      exact end_ S6 fun s7 J7 => ⟨_, _, _, J7, r6, q6⟩
  · cases f with
    | next =>
      obtain ⟨σ', H', J', q⟩ := hsp
      exact wpAny_execs_nil ⟨σ', H', J'.ofTry ok, q⟩
    | brk =>
      obtain ⟨σ', H', J', q⟩ := hsp
      exact ⟨σ', H', J'.ofTry ok, q⟩
    | cont =>
      obtain ⟨σ', H', J', q⟩ := hsp
      exact ⟨σ', H', J'.ofTry ok, q⟩
    | ret u =>
      obtain ⟨v, σ', H', J', r, q⟩ := hsp
      exact ⟨v, σ', H', J'.ofTry ok, r, q⟩
end
end Sh
/-! A deed done; a row of deeds chosen. -/
namespace Sh
open PySem PySem.Spec PyProof.Rows L2
abbrev scLawDone_N : List Str := ["_law_lot", "_law_deed", "_law_found", "_law_caught", "_law_word", "error"]
abbrev scLawDone_P : List Str := ["_law_lot", "_law_deed"]
abbrev scLawDone_S : Scope := defScope lDone
theorem scLawDone : FnScope scLawDone_N scLawDone_P (defScope lDone) := ⟨rfl, rfl, rfl, by decide +kernel, rfl, by decide +kernel, by decide +kernel⟩
abbrev scRowOf_N : List Str := ["_law_box_here", "_law_state", "_law_acts", "_law_turn", "_law_deed", "_law_later"]
abbrev scRowOf_P : List Str := ["_law_box_here", "_law_state"]
abbrev scRowOf_S : Scope := defScope lRowOf
theorem scRowOf : FnScope scRowOf_N scRowOf_P (defScope lRowOf) := ⟨rfl, rfl, rfl, by decide +kernel, rfl, by decide +kernel, by decide +kernel⟩
abbrev scTold_N : List Str := ["_law_lot"]
abbrev scTold_P : List Str := ["_law_lot"]
abbrev scTold_S : Scope := defScope lTold
theorem scTold : FnScope scTold_N scTold_P (defScope lTold) := ⟨rfl, rfl, rfl, by decide +kernel, rfl, by decide +kernel, by decide +kernel⟩
def spLawDone (K : PySem.W.Frag) : Sp := fun vs H Q _ => ∃ (L dx ls lg : Addr) (xs : List V) (v : V) (p p' : PSt) (d : Deed) (dv : V), vs = [.ref L, dv] ∧ DeedV H dv d ∧ Cur K H L dx ls lg xs v p ∧ xs.length ≤ 1000 ∧ PInv p ∧ pstep p d = some p' ∧
  ∀ H' u w, Ch [ls] H H' → Tk H H' → H' ls = some (.lst (xs ++ [u])) → PStV H' u p' → Q w H'
def spRowOf (K : PySem.W.Frag) : Sp := fun vs H Q _ => ∃ (b : Addr) (sv : V) (s : LSt) (m : Nat), vs = [.ref b, sv] ∧ LStV H sv s ∧ Wf s ∧ BoxAt H b m ∧ m + 200 ≤ zz ∧
  ∀ H' A dls ds, Bx b H H' (m + 90) → H A = none → H' A = some (.lst dls) → Paired (DeedV H') dls ds → ds.length ≤ 3 → Q (.ref A) H'
/-- what a library tells of itself -/
def ToldV (H : Hp) (t : Addr) (p : PSt) (n : Int) : Prop := ∃ u o mm us ys, H t = some (.lst [u, .ref o, .int p.ln, .int p.tk, .int n, .ref mm]) ∧ StV H u p.st ∧ H o = some (.lst us) ∧ Paired (RunV H) us p.out ∧ H mm = some (.lst ys) ∧ Paired (DeedV H) ys (mayOf p)
def spTold (K : PySem.W.Frag) : Sp := fun vs H Q _ => ∃ (L dx ls lg : Addr) (xs : List V) (v : V) (p : PSt), vs = [.ref L] ∧ Cur K H L dx ls lg xs v p ∧ PInv p ∧ ∀ H' t, Ex H H' → H t = none → ToldV H' t p ((xs.length : Nat) - 1) → Q (.ref t) H'
theorem takesF {X : Cx} : L2.Takes X (fun _ _ _ _ => False) := fun u s' ⟨a, B, sI, pins, σ, H, cls, d, e, I, nb, up, sky, na, os, ag, w⟩ => False.elim w
theorem Wf.sizes {s : LSt} (W : Wf s) : Small s.st ∧ s.st.flatten.length ≤ 60 ∧ s.aw.length ≤ 60 := by
  have h1 := flat_total W.pos
  have h2 := W.bd
  have h3 := W.len
  have h6 := total_nonneg W.pos
  unfold Sh.bd at h2
  exact ⟨⟨by omega, by omega⟩, by omega, by omega⟩
section
variable {P : Program} {w : World} {K : PySem.W.Frag} {mg : Str → Option Value} {base : Heap}
theorem d__law_done (hT : Txt w K mg) : Def P w K mg base CX0 6 "_law_done" scLawDone_P (spLawDone K) := by
  have d_take := d_take (P := P) (base := base) hT
  have d_put := d_put (P := P) (base := base) hT
  have d_end := d_end (P := P) (base := base) hT
  have d_lend := d_lend (P := P) (base := base) hT
  refine Def.of hT (st := lDone) (by simp [fn]) (by decide +kernel) scLawDone (fun _ _ _ _ _ _ us hl => match us, hl with | [_, _], _ => rfl) (fun vs H Q E h => by obtain ⟨L, dx, ls, lg, xs, v, p, p', d, dv, rfl, _⟩ := h; rfl) fun cdv A outer s H vs Q E hr h => ?_
  refine' ⟨_, PSs.nox ?walk, ?read⟩
  case walk => exact (
    (pss_cons (ps_par3 (i := 2) (j := 3) (l := 4) rfl scLawDone.nd rfl rfl rfl (by decide) (by decide) (by decide) rfl rfl rfl (pa_cons pe_non (pa_cons pe_non (pa_cons (pe_ix ix_tup (pv 1) pe_int (fun _ _ => rfl)) pa_nil))) (by rfl))
    (pss_cons (ps_try_thru0 (pss_one (ps_if (pt_cmpR op_eq (pv 4) pe_str (nomark _))
    (pss_one (ps_set (i := 2) scLawDone.nd rfl (Or.inl rfl) (pe_meS d_take hr hT.cl takesF (pv 0) (pa_cons (pe_ix ix_tup (pv 1) pe_int (fun _ _ => rfl)) (pa_cons (pe_ix ix_tup (pv 1) pe_int (fun _ _ => rfl)) pa_nil)))))
    (pss_one (ps_if (pt_cmpR op_eq (pv 4) pe_str (nomark _))
    (pss_one (ps_set (i := 2) scLawDone.nd rfl (Or.inl rfl) (pe_meS d_put hr hT.cl takesF (pv 0) (pa_cons (pe_ix ix_tup (pv 1) pe_int (fun _ _ => rfl)) (pa_cons (pe_ix ix_tup (pv 1) pe_int (fun _ _ => rfl)) (pa_cons (pe_ix ix_tup (pv 1) pe_int (fun _ _ => rfl)) pa_nil))))))
    (pss_one (ps_if (pt_cmpR op_eq (pv 4) pe_str (nomark _))
    (pss_one (ps_set (i := 2) scLawDone.nd rfl (Or.inl rfl) (pe_meS d_end hr hT.cl takesF (pv 0) (pa_cons (pe_ix ix_tup (pv 1) pe_int (fun _ _ => rfl)) (pa_cons (pe_ix ix_tup (pv 1) pe_int (fun _ _ => rfl)) pa_nil)))))
    (pss_one (ps_set (i := 2) scLawDone.nd rfl (Or.inl rfl) (pe_meS d_lend hr hT.cl takesF (pv 0) (pa_cons (pe_ix ix_tup (pv 1) pe_int (fun _ _ => rfl)) pa_nil)))))))))))
    (pss_one (ps_ret (pe_ifExp (pt_cmp (pc_isN (pv 3))) (pv 2) pe_never)))))
    )
  case read =>
    obtain ⟨L, dx, ls, lg, xs, v, p, p', d, dv, rfl, ⟨a, rfl, rd⟩, c, hz, hi, hp, q⟩ := h
    refine ⟨_, rfl, a, _, 0, .str (word d), rfl, rfl, rd_sq rd, deed0 d, _, _, _, rfl, ?_⟩
    cases d with
    | take i j =>
      refine ⟨_, rfl, rfl, _, rfl, if_t rfl ?_⟩
      refine ⟨_, rfl, L, dx, _, rfl, c.ins, lF_m, _, rfl, a, _, 1, .int i, rfl, rfl, rd_sq rd, rfl, _, rfl, a, _, 2, .int j, rfl, rfl, rd_sq rd, rfl, L, dx, ls, lg, xs, v, p, _, ⟨i, j, rfl⟩, rfl, c, hz, hi, fun p2 hp2 H' u w c1 k1 h1 h2 => ?_, fun hn => absurd (hn.symm.trans hp) (by simp)⟩
      rw [hp] at hp2
      cases hp2
      exact ⟨_, rfl, _, rfl, if_t rfl ⟨_, rfl, q _ _ _ c1 k1 h1 h2⟩⟩
    | put k i j =>
      refine ⟨_, rfl, rfl, _, rfl, if_f (by show decide (V.str "put" = V.str "take") = false; decide +kernel) ?_⟩
      refine ⟨_, rfl, rfl, _, rfl, if_t rfl ?_⟩
      refine ⟨_, rfl, L, dx, _, rfl, c.ins, lF_m, _, rfl, a, _, 1, .str k, rfl, rfl, rd_sq rd, rfl, _, rfl, a, _, 2, .int i, rfl, rfl, rd_sq rd, rfl, _, rfl, a, _, 3, .int j, rfl, rfl, rd_sq rd, rfl, L, dx, ls, lg, xs, v, p, _, ⟨k, i, j, rfl⟩, rfl, c, hz, hi, fun p2 hp2 H' u w c1 k1 h1 h2 => ?_, fun hn => absurd (hn.symm.trans hp) (by simp)⟩
      rw [hp] at hp2
      cases hp2
      exact ⟨_, rfl, _, rfl, if_t rfl ⟨_, rfl, q _ _ _ c1 k1 h1 h2⟩⟩
    | fin k i =>
      refine ⟨_, rfl, rfl, _, rfl, if_f (by show decide (V.str "end" = V.str "take") = false; decide +kernel) ?_⟩
      refine ⟨_, rfl, rfl, _, rfl, if_f (by show decide (V.str "end" = V.str "put") = false; decide +kernel) ?_⟩
      refine ⟨_, rfl, rfl, _, rfl, if_t rfl ?_⟩
      refine ⟨_, rfl, L, dx, _, rfl, c.ins, lF_m, _, rfl, a, _, 1, .str k, rfl, rfl, rd_sq rd, rfl, _, rfl, a, _, 2, .int i, rfl, rfl, rd_sq rd, rfl, L, dx, ls, lg, xs, v, p, _, ⟨k, i, rfl⟩, rfl, c, hz, hi, fun p2 hp2 H' u w c1 k1 h1 h2 => ?_, fun hn => absurd (hn.symm.trans hp) (by simp)⟩
      rw [hp] at hp2
      cases hp2
      exact ⟨_, rfl, _, rfl, if_t rfl ⟨_, rfl, q _ _ _ c1 k1 h1 h2⟩⟩
    | lend n =>
      refine ⟨_, rfl, rfl, _, rfl, if_f (by show decide (V.str "lend" = V.str "take") = false; decide +kernel) ?_⟩
      refine ⟨_, rfl, rfl, _, rfl, if_f (by show decide (V.str "lend" = V.str "put") = false; decide +kernel) ?_⟩
      refine ⟨_, rfl, rfl, _, rfl, if_f (by show decide (V.str "lend" = V.str "end") = false; decide +kernel) ?_⟩
      refine ⟨_, rfl, L, dx, _, rfl, c.ins, lF_m, _, rfl, a, _, 1, .int n, rfl, rfl, rd_sq rd, rfl, L, dx, ls, lg, xs, v, p, _, ⟨n, rfl⟩, rfl, c, hz, hi, fun p2 hp2 H' u w c1 k1 h1 h2 => ?_, fun hn => absurd (hn.symm.trans hp) (by simp)⟩
      rw [hp] at hp2
      cases hp2
      exact ⟨_, rfl, _, rfl, if_t rfl ⟨_, rfl, q _ _ _ c1 k1 h1 h2⟩⟩
theorem d__law_row_of (hT : Txt w K mg) : Def P w K mg base CX0 4 "_law_row_of" scRowOf_P (spRowOf K) := by
  have d__law_take := d__law_take (P := P) (base := base) hT
  have d__law_deeds_of := d__law_deeds_of (P := P) (base := base) hT
  have d__law_due := d__law_due (P := P) (base := base) hT
  refine Def.of hT (st := lRowOf) (by simp [fn]) (by decide +kernel) scRowOf (fun _ _ _ _ _ _ us hl => match us, hl with | [_, _], _ => rfl) (fun vs H Q E h => by obtain ⟨b, sv, s, m, rfl, _⟩ := h; rfl) fun cdv A outer s H vs Q E hr h => ?_
  refine' ⟨_, PSs.nox ?walk, ?read⟩
  case walk => exact (
    (pss_cons (ps_set (i := 2) scRowOf.nd rfl (Or.inl rfl) (pe_lst pa_nil))
    (pss_cons (ps_for PassesOwn.never rfl (pi_range1 (by rfl) (hT.free "range" (by decide +kernel)) (pa_cons pe_int pa_nil)) (pg_name (i := 3) scRowOf.nd rfl (Or.inl rfl))
    (pss_cons (ps_set (i := 4) scRowOf.nd rfl (Or.inl rfl) (pe_fn d__law_deeds_of hr (pa_cons (pv 0) (pa_cons (pe_ix ix_tup (pv 1) pe_int (fun _ _ => rfl)) (pa_cons (pe_ix ix_tup (pv 1) pe_int (fun _ _ => rfl)) (pa_cons (pe_ix ix_tup (pv 1) pe_int (fun _ _ => rfl)) pa_nil))))))
    (pss_cons (ps_set (i := 5) scRowOf.nd rfl (Or.inl rfl) (pe_ix ix_tup (pe_fn d__law_due hr (pa_cons (pv 1) (pa_cons (pv 4) pa_nil))) pe_int (fun _ _ => rfl)))
    (pss_one (ps_if (PW.pt (pw_or (pt_cmp (pc_notN (pv 5))) (pw_or1 (pt_cmpR op_eq (pe_fn d__law_take hr (pa_cons (pv 0) (pa_cons pe_int pa_nil))) pe_int (nomark _)))))
    (pss_cons (ps_expr (pe_bm PySem.F.plainAttrs_list PySem.F.slot_list_append PySem.F.type_list_append mt_append (pv 2) (pa_cons (pv 4) pa_nil)))
    (pss_one (ps_set (i := 1) scRowOf.nd rfl (Or.inl rfl) (pe_ifExp (pt_cmp (pc_isN (pv 5))) (pv 1) (pv 5)))))
    pss_nil)))))
    (pss_one (ps_ret (pv 2)))))
    )
  case read =>
    obtain ⟨b, sv, s, m, rfl, hs, W, hb, hm, q⟩ := h
    have hzz : zz = 1099511627776 := rfl
    refine ⟨Nat.zero_le _, fun A nA => ?_⟩
    have nAb := hb.nb nA
    refine ⟨3, rfl, by decide, by decide, for_it (walk_range (lo := 0) (n := (3 : Int).toNat)) (fun i σ H' => ∃ tu de la sv s dls ds, σ = [some (.ref b), some sv, some (.ref A), tu, de, la] ∧ Bx b H H' (m + 30 * i) ∧ LStV H' sv s ∧ Wf s ∧ H' A = some (.lst dls) ∧ Paired (DeedV H') dls ds ∧ ds.length ≤ i)
      ⟨none, none, none, sv, s, [], [], rfl, (Bx.refl hb).ex (Ex.new nA), mon_lst _ _ _ _ (tk_new nA) hs, W, upd_same, .nil, by simp⟩ (fun _ _ _ _ _ => trivial) (fun i x σ H' H'' hi h y => ?_) (fun σ H' h => ?_)⟩
    · obtain ⟨rfl, rfl⟩ := y
      obtain ⟨tu, de, la, sv, s, dls, ds, rfl, B, hs, W, hA, hds, hdl⟩ := h
      have hi3 : i < 3 := hi
      obtain ⟨sm, hfl, hal⟩ := W.sizes
      obtain ⟨a, v1, v2, rfl, rda, h1, h2⟩ := id hs
      refine ⟨_, rfl, _, rfl, a, _, 0, v1, rfl, rfl, rd_sq rda, rfl, _, rfl, a, _, 1, v2, rfl, rfl, rd_sq rda, rfl, _, rfl, a, _, 2, .int s.ln, rfl, rfl, rd_sq rda, rfl, b, v1, v2, s.ln, s.st, s.aw, _, rfl, B.box, by omega, h1, sm, hfl, h2, hal, fun H2 dv d B2 hd => ?_⟩
      have BH := B.step B2.ch B2.tk B2.box
      have hA2 := B2.ch _ _ (by simp [nAb]) hA
      have hs2 := mon_lst _ _ _ _ B2.tk hs
      have hds2 := pmono mon_deed B2.tk hds
      have hdl' := plen hds
      refine ⟨_, rfl, _, rfl, .ref a, dv, s, d, rfl, hs2, hd, sm, by omega, fun hn H3 r x e3 hr => ?_, fun s' t H3 r x y e3 hr hy => ?_⟩
      · refine ⟨r, _, 1, .non, rfl, rfl, rd_sq hr, rfl, ?_⟩
        have B3 := BH.ex e3
        have hA3 := e3 _ _ hA2
        refine ⟨_, rfl, _, rfl, if_f rfl ?_⟩
        refine ⟨_, rfl, b, 3, _, rfl, by decide, by decide, B3.box, by omega, fun H4 r4 c4 k4 hb4 _ _ => ⟨rfl, _, rfl, if_2 (fun cc => ?_) (fun cc => ?_)⟩⟩
        · have hA4 := c4 _ _ (by simp [nAb]) hA3
          refine ⟨_, rfl, .inl ⟨rfl, _, SqL.of hA4⟩, _, rfl, A, dls, dv, rfl, rfl, hA4, small' (by omega), ?_⟩
          have k5 : Tk H4 (upd H4 A (.lst (dls ++ [dv]))) := tk_upd hA4 rfl
          have k35 := ((tk_ex e3).trans k4).trans k5
          have B4 := B3.step c4 k4 hb4
          refine ⟨_, rfl, _, rfl, if_t rfl ⟨_, rfl, ?_⟩⟩
          refine ⟨_, _, _, _, s, _, ds ++ [d], rfl, ⟨B4.ch.mut nA, B4.tk.trans k5, (B4.box.ch (ex := [A]) (Ch.upd (by simp)) (by simp [Ne.symm nAb])).mono (by omega)⟩, mon_lst _ _ _ _ k35 hs2, W, upd_same, psnoc (pmono mon_deed k35 hds2) (mon_deed _ _ _ _ k35 hd), by rw [List.length_append]; simp; omega⟩
        · exact ⟨_, _, _, _, s, dls, ds, rfl, (B3.step c4 k4 hb4).mono (by omega), mon_lst _ _ _ _ ((tk_ex e3).trans k4) hs2, W, c4 _ _ (by simp [nAb]) hA3, pmono mon_deed ((tk_ex e3).trans k4) hds2, by omega⟩
      · refine ⟨r, _, 1, y, rfl, rfl, rd_sq hr, rfl, ?_⟩
        have B3 := BH.ex e3
        have hA3 := e3 _ _ hA2
        obtain ⟨a', w1, w2, rfl, rda', g1, g2⟩ := id hy
        refine ⟨_, rfl, _, rfl, if_t rfl (if_t rfl ?_)⟩
        refine ⟨_, rfl, .inl ⟨rfl, _, SqL.of hA3⟩, _, rfl, A, dls, dv, rfl, rfl, hA3, small' (by omega), ?_⟩
        have k5 : Tk H3 (upd H3 A (.lst (dls ++ [dv]))) := tk_upd hA3 rfl
        have k35 := (tk_ex e3).trans k5
        refine ⟨_, rfl, _, rfl, if_f rfl ⟨_, rfl, ?_⟩⟩
        refine ⟨_, _, _, _, s', _, ds ++ [d], rfl, ⟨B3.ch.mut nA, B3.tk.trans k5, (B3.box.ch (ex := [A]) (Ch.upd (by simp)) (by simp [Ne.symm nAb])).mono (by omega)⟩, mon_lst _ _ _ _ k5 hy, W.step t, upd_same, psnoc (pmono mon_deed k35 hds2) (mon_deed _ _ _ _ k35 hd), by rw [List.length_append]; simp; omega⟩
    · obtain ⟨tu, de, la, sv, s, dls, ds, rfl, B, hs, W, hA, hds, hdl⟩ := h
      exact ⟨_, rfl, q _ A dls ds (B.mono (by show m + 30 * 3 ≤ _; omega)) nA hA hds hdl⟩
theorem d__law_told (hT : Txt w K mg) : Def P w K mg base CX0 4 "_law_told" scTold_P (spTold K) := by
  have d_standing := d_standing (P := P) (base := base) hT
  have d_out := d_out (P := P) (base := base) hT
  have d_lent := d_lent (P := P) (base := base) hT
  have d_taken := d_taken (P := P) (base := base) hT
  have d_deeds := d_deeds (P := P) (base := base) hT
  have d_may := d_may (P := P) (base := base) hT
  refine Def.of hT (st := lTold) (by simp [fn]) (by decide +kernel) scTold (fun _ _ _ _ _ _ us hl => match us, hl with | [_], _ => rfl) (fun vs H Q E h => by obtain ⟨L, dx, ls, lg, xs, v, p, rfl, _⟩ := h; rfl) fun cdv A outer s H vs Q E hr h => ?_
  refine' ⟨_, PSs.nox ?walk, ?read⟩
  case walk => exact (
    (pss_one (ps_ret (pe_lst (pa_cons (pe_me0 d_standing hr hT.cl (pv 0)) (pa_cons (pe_me0 d_out hr hT.cl (pv 0)) (pa_cons (pe_me0 d_lent hr hT.cl (pv 0)) (pa_cons (pe_me0 d_taken hr hT.cl (pv 0)) (pa_cons (pe_me0 d_deeds hr hT.cl (pv 0)) (pa_cons (pe_me0 d_may hr hT.cl (pv 0)) pa_nil)))))))))
    )
  case read =>
    obtain ⟨L, dx, ls, lg, xs, v, p, rfl, c, hi, q⟩ := h
    refine ⟨_, rfl, L, dx, _, rfl, c.ins, lF_m, L, dx, ls, lg, xs, v, p, rfl, c, fun u hu => ?_⟩
    refine ⟨_, rfl, L, dx, _, rfl, c.ins, lF_m, L, dx, ls, lg, xs, v, p, rfl, c, fun o us no hus => ?_⟩
    have e1 := Ex.new (o := .lst us) no
    have ho : upd H o (.lst us) o = some (.lst us) := upd_same
    generalize upd H o (.lst us) = G at *
    have c1 := c.ex e1
    refine ⟨_, rfl, L, dx, _, rfl, c1.ins, lF_m, L, dx, ls, lg, xs, v, p, rfl, c1, ?_⟩
    refine ⟨_, rfl, L, dx, _, rfl, c1.ins, lF_m, L, dx, ls, lg, xs, v, p, rfl, c1, ?_⟩
    refine ⟨_, rfl, L, dx, _, rfl, c1.ins, lF_m, L, dx, ls, lg, xs, rfl, c1.ins, c1.st, ?_⟩
    refine ⟨_, rfl, L, dx, _, rfl, c1.ins, lF_m, L, dx, ls, lg, xs, v, p, rfl, c1, hi, fun H2 D ys e2 nD hD hys => ⟨(by show 6 ≤ sizeLine; decide), fun t nt => ?_⟩⟩
    have e3 := Ex.new (o := .lst [u, V.ref o, .int p.ln, .int p.tk, .int ((xs.length : Nat) - 1), .ref D]) nt
    have ee := e1.trans (e2.trans e3)
    have k := tk_ex ee
    exact q _ t ee ((e1.trans e2).nn nt) ⟨u, o, D, us, ys, upd_same, mon_st _ _ _ _ k hu, (e2.trans e3) _ _ ho, pmono mon_run k hus, e3 _ _ hD, pmono mon_deed (tk_ex e3) hys⟩
end
end Sh
/-! A row handed to the library. -/
namespace Sh
open PySem PySem.Spec PyProof.Rows L2
abbrev scRowed_N : List Str := ["_law_lot", "_law_acts", "_law_is_all", "_law_caught", "error"]
abbrev scRowed_P : List Str := ["_law_lot", "_law_acts", "_law_is_all"]
abbrev scRowed_S : Scope := defScope lRowed
theorem scRowed : FnScope scRowed_N scRowed_P (defScope lRowed) := ⟨rfl, rfl, rfl, by decide +kernel, rfl, by decide +kernel, by decide +kernel⟩
theorem DoR.ex {K : PySem.W.Frag} {H H1 H2 : Hp} {L dx ls lg : Addr} {p0 : PSt} {D : List Deed} {gn n : Nat} (R : DoR K H L dx ls lg p0 D gn n H1) (e : Ex H1 H2) : DoR K H L dx ls lg p0 D gn n H2 :=
  ⟨R.ch.trans (Ch.of e), R.tk.trans (tk_ex e), let ⟨ls', xs', gs', t, h1, h2, h3, h4, h5⟩ := R.lib; ⟨ls', xs', gs', t, h1, h2.ex e, h3, h4, e _ _ h5⟩⟩
def rowM (p : PSt) (ds : List Deed) (whole : Bool) : Nat := if doN p ds = ds.length then ds.length else if whole = true then 0 else doN p ds
def spRowed (K : PySem.W.Frag) : Sp := fun vs H Q _ => ∃ (L dx ls lg da : Addr) (xs dls gs : List V) (p0 : PSt) (D ds : List Deed) (whole : Bool), vs = [.ref L, .ref da, .bl whole] ∧
  LibAt K H L dx ls lg xs (pscan p0 D) gs ∧ H da = some (.lst dls) ∧ Paired (DeedV H) dls ds ∧ da ≠ ls ∧ da ≠ lg ∧ PInv p0 ∧ D.length + ds.length ≤ 900 ∧ gs.length ≤ 900 ∧
  ∀ H', DoR K H L dx ls lg p0 (D ++ ds.take (rowM (pafter p0 D) ds whole)) gs.length (doN (pafter p0 D) ds) H' → Q (.int (rowM (pafter p0 D) ds whole : Nat)) H'
section
variable {X : Cx} {j k : Nat} {m kw : Str} {ps : List Str} {sp : Sp} {ta te tx : TE} {e o kx : Expr} {pos apos kpos : Pos}
def tMeKS (K : PySem.W.Frag) (m : Str) (sp : Sp) (W : WX) (ta te tx : TE) : TE := fun σ H Q => ta σ H fun x H1 => ∃ a dx fs, x = .ref a ∧ H1 a = some (.ins (LC K) dx fs) ∧ fs.lookup m = none ∧
      tCons te tNil σ H1 fun vs H2 => tCons tx tNil σ H2 fun zs H3 => ∃ y z, vs = [y] ∧ zs = [z] ∧ sp [x, y, z] H3 Q (WE W σ)
theorem pe_meKSK {W : WX} {pl : Sem Bool} (K : PySem.W.Frag) (d : MtK X.prog X.w K X.mg X.base (L2.CX X.prog X.w) k m kw ps sp) (hr : Room j X.A) (c : Cls K (LC K)) (tk : L2.Takes X W) (he : PE X o ta) (ha : PE X e te) (hx : PE X kx tx) (hK : X.K = K := by rfl) (hk : k ≤ j := by decide)
    (hst : starEach [e] X.env = (false, eval e X.env) :: starEach [] X.env := by rfl) (hall : (backToKw pos (keywordEach [⟨some kw, kx, kpos⟩] X.env)).all (·.1.isSome) = true := by rfl)
    (hks : (backToKw pos (keywordEach [⟨some kw, kx, kpos⟩] X.env)).filterMap (·.1) = [kw] := by rfl)
    (hpl : ((backTo pos (starEach [e] X.env)).any (·.1) || (backToKw pos (keywordEach [⟨some kw, kx, kpos⟩] X.env)).any (·.1.isNone)) = false := by rfl)
    (ht : eval (.Call (.Attribute o m apos) [e] [⟨some kw, kx, kpos⟩] pos) X.env = (do
      let ov ← eval o X.env
      standAt apos.atName
      let (f, first) ← holding [ov] (getMethod ov m pl)
      callWith pos f first (backTo pos (starEach [e] X.env)) (backToKw pos (keywordEach [⟨some kw, kx, kpos⟩] X.env))) := by rfl) :
    PE X (.Call (.Attribute o m apos) [e] [⟨some kw, kx, kpos⟩] pos) (tMeKS K m sp W ta te tx) := by
  subst hK
  exact pe_meKS d hr c tk he ha hx hk hst hall hks hpl ht
theorem sp_step {x : Str} {p np : Pos} {es : List Expr} {u : Value} {a : Addr} {pn pins : List (Addr × Obj)} {σ : L2.St} {H : Hp} {s : Shared} {Q : List Value → Shared → Prop} {E : Value → Shared → Prop} (I : L2.Inv (X.suite a pn) pins σ H s) (hg : Gl X x) (hm : X.mg x = some u)
    (h : wpAny (model X.prog X.w) (X.suite a pn).A (spliced (backTo np (starEach es X.env))) (fun vs s' => Q (u :: vs) s') E s) (hd : (x == ("__debug__" : Str)) = false := by decide)
    (hs : starEach (.Name x p :: es) X.env = (false, eval (.Name x p) X.env) :: starEach es X.env := by rfl) :
    wpAny (model X.prog X.w) (X.suite a pn).A (spliced (backTo np (starEach (.Name x p :: es) X.env))) Q E s := by
  rw [hs]
  show wpAny _ _ (spliced ((false, eval (.Name x p) X.env) :: backTo np (starEach es X.env))) _ _ s
  exact Calls.spliced_cons (ld_glob (X := X.suite a pn) I hg hm h hd)
end
section
variable {P : Program} {w : World} {K : PySem.W.Frag} {mg : Str → Option Value} {base : Heap}
theorem d__law_rowed (hT : Txt w K mg) : Def P w K mg base CX0 7 "_law_rowed" scRowed_P (spRowed K) := by
  have d_do := d_do (P := P) (base := base) hT
  have d_log := d_log (P := P) (base := base) hT
  refine Def.of hT (st := lRowed) (by simp [fn]) (by decide +kernel) scRowed (fun _ _ _ _ _ _ us hl => match us, hl with | [_, _, _], _ => rfl) (fun vs H Q E h => by obtain ⟨L, dx, ls, lg, da, xs, dls, gs, p0, D, ds, whole, rfl, _⟩ := h; rfl) fun cdv A outer s H vs Q E hr h => ?_
  refine' ⟨_, PSs.nox ?walk, ?read⟩
  case walk => exact (
    (pss_cons (ps_set (i := 3) scRowed.nd rfl (Or.inl rfl) pe_non)
    (pss_cons (ps_try_six (i := 4) rfl rfl scRowed.nd rfl rfl (fun a pn pins σ H s Q E I q => sp_step I (by rfl) (hT.glo "Full" (by decide +kernel)) (sp_step I (by rfl) (hT.glo "NoRun" (by decide +kernel)) (sp_step I (by rfl) (hT.glo "NoShelf" (by decide +kernel)) (sp_step I (by rfl) (hT.glo "NotLike" (by decide +kernel)) (sp_step I (by rfl) (hT.glo "NotOut" (by decide +kernel)) (sp_step I (by rfl) (hT.glo "Stands" (by decide +kernel)) (Calls.spliced_nil q))))))) (fun W pn xe tk own => by exact pss_one (ps_expr (pe_meKSK (W := W) K d_do hr hT.cl tk (pv 0) (pv 1) (pv 2)))) (fun a oe cls d pn hz hd => by exact pss_one (ps_set (i := 3) scRowed.nd rfl (Or.inl rfl) (pv 4))))
    (pss_one (ps_ret (pe_ifExp (PW.pt (pw_and (pt_cmp (pc_notN (pv 3))) (pw_and1 (pt_val (pv 2))))) pe_int (pe_ix ix_tup (pe_ix ix_list (pe_me0 d_log hr hT.cl (pv 0)) (pe_un un_neg pe_int) (fun _ _ => rfl)) pe_int (fun _ _ => rfl)))))))
    )
  case read =>
    obtain ⟨L, dx, ls, lg, da, xs, dls, gs, p0, D, ds, whole, rfl, A0, hda, hds, ne1, ne2, hi, hz, hg, q⟩ := h
    refine ⟨_, rfl, L, dx, _, rfl, A0.ins, lF_m, _, rfl, _, rfl, _, _, rfl, rfl, L, dx, ls, lg, da, xs, dls, gs, p0, D, ds, whole, rfl, A0, hda, hds, ne1, ne2, hi, hz, hg, fun hn w H' R => ?_, fun hn cls dd H' hx R => ?_⟩
    · have em : rowM (pafter p0 D) ds whole = ds.length := if_pos hn
      rw [em, hn, List.take_length] at q
      obtain ⟨ls', xs', gs', t, h1, h2, h3, h4, h5⟩ := R.lib
      refine ⟨_, rfl, _, rfl, if_f rfl (if_f rfl ?_)⟩
      refine ⟨_, rfl, L, dx, _, rfl, h2.ins, lF_m, L, dx, ls', lg, gs', rfl, h2.ins, h2.log, fun l nl => ⟨_, rfl, l, gs', -1, .ref t, rfl, rfl, SqL.of upd_same, atI_end h4, t, _, 1, _, rfl, rfl, SqT.of (Ex.new nl _ _ h5), rfl, ?_⟩⟩
      exact q _ (R.ex (Ex.new nl))
    · have em : rowM (pafter p0 D) ds whole = if whole = true then 0 else doN (pafter p0 D) ds := if_neg (by omega)
      rw [em] at q
      obtain ⟨ex, hex, rfl⟩ := hx
      refine ⟨(hT.ex hex).m, fun a na => ?_⟩
      refine ⟨_, rfl, ?_⟩
      cases whole with
      | true =>
        refine ⟨_, rfl, _, rfl, if_t rfl ⟨_, rfl, _, rfl, if_t rfl ?_⟩⟩
        exact q _ (by simpa using R)
      | false =>
        refine ⟨_, rfl, _, rfl, if_t rfl ⟨_, rfl, _, rfl, if_f rfl ?_⟩⟩
        obtain ⟨ls', xs', gs', t, h1, h2, h3, h4, h5⟩ := R.lib
        refine ⟨_, rfl, L, dx, _, rfl, h2.ins, lF_m, L, dx, ls', lg, gs', rfl, h2.ins, h2.log, fun l nl => ⟨_, rfl, l, gs', -1, .ref t, rfl, rfl, SqL.of upd_same, atI_end h4, t, _, 1, _, rfl, rfl, SqT.of (Ex.new nl _ _ h5), rfl, ?_⟩⟩
        exact q _ (R.ex (Ex.new nl))
end
end Sh
/-! _law_same of data that is equal. -/
namespace Sh
open PySem PySem.Spec PyProof.Rows L2
abbrev scSame_N : List Str := ["_law_found", "_law_due_here", "_law_one", "_law_two"]
abbrev scSame_P : List Str := ["_law_found", "_law_due_here"]
abbrev scSame_S : Scope := defScope lSame
theorem scSame : FnScope scSame_N scSame_P (defScope lSame) := ⟨rfl, rfl, rfl, by decide +kernel, rfl, by decide +kernel, by decide +kernel⟩
theorem walk_zipT {K : PySem.W.Frag} {a b : Addr} {xs ys : List V} {n : Nat} (hn : n = min xs.length ys.length) : Walk (RZ.ItzT K a b) n (fun H => SqT K H a xs ∧ SqT K H b ys) (YPair (fun i => xs[i]?) (fun i => ys[i]?)) := by
  subst hn
  refine ⟨fun i _ hi q => ?_, fun _ q => ⟨xs, ys, q.1, q.2, by omega⟩, fun i H v H' _ q y => ?_⟩
  · have h1 : i < xs.length := by omega
    have h2 : i < ys.length := by omega
    exact ⟨xs, ys, xs[i], ys[i], q.1, q.2, by simp [h1], by simp [h2]⟩
  · obtain ⟨T, x, z, h1, h2, h3, h4, h5⟩ := y
    exact ⟨T, x, z, h1, h2, h3, h4 xs q.1, h5 ys q.2⟩
def Al0 (u v : V) : Prop := u = v ∧ ((∃ i, u = .int i) ∨ (∃ k, u = .str k) ∨ u = .non)
/-- equal data, of nesting up to n -/
def Al : Nat → Hp → V → V → Prop
  | 0, _ => Al0
  | n + 1, H => fun u v => Al0 u v ∨ ∃ a b xs ys, u = .ref a ∧ v = .ref b ∧ ((H a = some (.lst xs) ∧ H b = some (.lst ys)) ∨ (Rd H a (.tup xs) ∧ Rd H b (.tup ys))) ∧ Paired (Al n H) xs ys ∧ xs.length ≤ 100000
theorem Al.ex : ∀ {n : Nat} {H H' : Hp} {u v : V}, Ex H H' → Al n H u v → Al n H' u v
  | 0, _, _, _, _, _, h => h
  | n + 1, _, _, _, _, e, h => by
    rcases h with h | ⟨a, b, xs, ys, h1, h2, h3, h4, h5⟩
    · exact .inl h
    · refine .inr ⟨a, b, xs, ys, h1, h2, ?_, Paired.mapP h4 fun _ _ r => Al.ex e r, h5⟩
      rcases h3 with ⟨h3, h6⟩ | ⟨h3, h6⟩
      · exact .inl ⟨e _ _ h3, e _ _ h6⟩
      · exact .inr ⟨(tk_ex e).rd h3, (tk_ex e).rd h6⟩
def spSame (K : PySem.W.Frag) (n : Nat) : Sp := fun vs H Q _ => ∃ u v, vs = [u, v] ∧ Al n H u v ∧ ∀ H', Ex H H' → Q (.bl true) H'
theorem kitLT {K : PySem.W.Frag} {t : String} {b1 b2 : Bool} (h1 : kitB t "list" = some b1) (h2 : kitB t "tuple" = some b2) : PySem.W.kitAny K (.type t) [.type "list", .type "tuple"] = some (b1 || b2) := by
  refine kitAny_cons (kit_ty h1) (fun e => ?_) (fun e => by rw [e]; rfl)
  subst e
  refine kitAny_cons (kit_ty h2) (fun e => by rw [e]; rfl) (fun e => by rw [e]; rfl)
section
variable {P : Program} {w : World} {K : PySem.W.Frag} {mg : Str → Option Value} {base : Heap}
theorem d_same0 (hT : Txt w K mg) : Def P w K mg base CX0 1 "_law_same" scSame_P (spSame K 0) := by
  refine Def.of hT (st := lSame) (by simp [fn]) (by decide +kernel) scSame (fun _ _ _ _ _ _ us hl => match us, hl with | [_, _], _ => rfl) (fun vs H Q E h => by obtain ⟨u, v, rfl, _⟩ := h; rfl) fun cdv A outer s H vs Q E hr h => ?_
  refine' ⟨_, PSs.nox ?walk, ?read⟩
  case walk => exact (
    (pss_cons (ps_if (pt_val (pe_callB call_isiT (by rfl) (hT.free "isinstance" (by decide +kernel)) (by decide +kernel) (pa_cons (pv 1) (pa_cons (pe_tup (pa_cons (pe_bltn (v := .ty "list") (u := .type "list") (by rfl) (hT.free "list" (by decide +kernel)) (by decide +kernel) rfl) (pa_cons (pe_bltn (v := .ty "tuple") (u := .type "tuple") (by rfl) (hT.free "tuple" (by decide +kernel)) (by decide +kernel) rfl) pa_nil))) pa_nil))))
    (pss_cons (ps_if (PW.pt (pw_or (pt_cmpR op_ne (pe_callB call_isi (by rfl) (hT.free "isinstance" (by decide +kernel)) (by decide +kernel) (pa_cons (pv 0) (pa_cons (pe_bltn (v := .ty "list") (u := .type "list") (by rfl) (hT.free "list" (by decide +kernel)) (by decide +kernel) rfl) pa_nil))) (pe_callB call_isi (by rfl) (hT.free "isinstance" (by decide +kernel)) (by decide +kernel) (pa_cons (pv 1) (pa_cons (pe_bltn (v := .ty "list") (u := .type "list") (by rfl) (hT.free "list" (by decide +kernel)) (by decide +kernel) rfl) pa_nil))) (nomark _)) (pw_or1 (pt_cmpR op_ne (pe_callB call_isi (by rfl) (hT.free "isinstance" (by decide +kernel)) (by decide +kernel) (pa_cons (pv 0) (pa_cons (pe_bltn (v := .ty "tuple") (u := .type "tuple") (by rfl) (hT.free "tuple" (by decide +kernel)) (by decide +kernel) rfl) pa_nil))) (pe_callB call_isi (by rfl) (hT.free "isinstance" (by decide +kernel)) (by decide +kernel) (pa_cons (pv 1) (pa_cons (pe_bltn (v := .ty "tuple") (u := .type "tuple") (by rfl) (hT.free "tuple" (by decide +kernel)) (by decide +kernel) rfl) pa_nil))) (nomark _)))))
    (pss_one (ps_ret pe_bl))
    pss_nil)
    (pss_one (ps_ret (pe_and (pe_cmpR op_eq (pe_callB call_len_seq (by rfl) (hT.free "len" (by decide +kernel)) boot_len (pa_cons (pv 0) pa_nil)) (pe_callB call_len_seq (by rfl) (hT.free "len" (by decide +kernel)) boot_len (pa_cons (pv 1) pa_nil)) (nomark _)) (pe_one (pe_callB (cr_all rfl) (by rfl) (hT.free "all" (by decide +kernel)) (by decide +kernel) (pa_cons (pe_lc (own := [("_law_one", 2), ("_law_two", 3)]) rfl scSame.nd (RZ.pi_zipA (by rfl) (hT.free "zip" (by decide +kernel)) (pa_cons (pv 0) (pa_cons (pv 1) pa_nil))) (blkOk_by (N := scSame_N) (sc := scSame_S) (by decide +kernel)) (fun _ _ _ _ _ => (pg_tupK (n := 2) K rfl (pgs_cons (pg_name (i := 2) scSame.nd rfl (Or.inl rfl)) (pgs_cons (pg_name (i := 3) scSame.nd rfl (Or.inl rfl)) pgs_nil)))) (fun _ _ _ _ _ => pts_nil) (fun _ _ _ _ _ => pe_never)) pa_nil)))))))
    pss_nil)
    (pss_cons (ps_if (PW.pt (pw_or (pt_cmp (pc_isN (pv 1))) (pw_or1 (pt_val (pe_callB call_isi (by rfl) (hT.free "isinstance" (by decide +kernel)) (by decide +kernel) (pa_cons (pv 1) (pa_cons (pe_bltn (v := .ty "str") (u := .type "str") (by rfl) (hT.free "str" (by decide +kernel)) (by decide +kernel) rfl) pa_nil)))))))
    (pss_one (ps_ret (pe_and (pe_cmpR op_eq (pv 0) (pv 1) (nomark _)) (pe_one (pe_cmpR op_eq (pe_callB call_isi (by rfl) (hT.free "isinstance" (by decide +kernel)) (by decide +kernel) (pa_cons (pv 0) (pa_cons (pe_bltn (v := .ty "str") (u := .type "str") (by rfl) (hT.free "str" (by decide +kernel)) (by decide +kernel) rfl) pa_nil))) (pe_callB call_isi (by rfl) (hT.free "isinstance" (by decide +kernel)) (by decide +kernel) (pa_cons (pv 1) (pa_cons (pe_bltn (v := .ty "str") (u := .type "str") (by rfl) (hT.free "str" (by decide +kernel)) (by decide +kernel) rfl) pa_nil))) (nomark _))))))
    pss_nil)
    (pss_one (ps_ret (pe_and (pe_callB call_isi (by rfl) (hT.free "isinstance" (by decide +kernel)) (by decide +kernel) (pa_cons (pv 0) (pa_cons (pe_bltn (v := .ty "int") (u := .type "int") (by rfl) (hT.free "int" (by decide +kernel)) (by decide +kernel) rfl) pa_nil))) (pe_and (pe_cmpR op_eq (pe_callB call_isi (by rfl) (hT.free "isinstance" (by decide +kernel)) (by decide +kernel) (pa_cons (pv 0) (pa_cons (pe_bltn (v := .ty "bool") (u := .type "bool") (by rfl) (hT.free "bool" (by decide +kernel)) (by decide +kernel) rfl) pa_nil))) (pe_callB call_isi (by rfl) (hT.free "isinstance" (by decide +kernel)) (by decide +kernel) (pa_cons (pv 1) (pa_cons (pe_bltn (v := .ty "bool") (u := .type "bool") (by rfl) (hT.free "bool" (by decide +kernel)) (by decide +kernel) rfl) pa_nil))) (nomark _)) (pe_one (pe_cmpR op_eq (pv 0) (pv 1) (nomark _)))))))))
    )
  case read =>
    obtain ⟨u, v, rfl, ⟨rfl, hu⟩, q⟩ := h
    refine ⟨_, rfl, (by show 2 ≤ sizeLine; decide), fun t nt => ?_⟩
    have e1 := Ex.new (o := .tup [V.ty "list", .ty "tuple"]) nt
    have ht : upd H t (.tup [V.ty "list", .ty "tuple"]) t = some (.tup [V.ty "list", .ty "tuple"]) := upd_same
    generalize upd H t (.tup [V.ty "list", .ty "tuple"]) = G at *
    rcases hu with ⟨i, rfl⟩ | ⟨k, rfl⟩ | rfl
    · refine ⟨_, t, _, .type "int", _, false, rfl, ht, .cons (.ty _) (.cons (.ty _) .nil), .base (.int i), kitLT (t := "int") (b1 := false) (b2 := false) (by decide +kernel) (by decide +kernel), _, rfl, if_f rfl ?_⟩
      refine ⟨_, rfl, _, rfl, if_f rfl ⟨_, rfl, _, _, _, _, false, rfl, .ty _, .base (.int i), kit_ty (by decide +kernel), _, rfl, if_f rfl ?_⟩⟩
      refine ⟨_, rfl, _, _, _, _, true, rfl, .ty _, .base (.int i), kit_ty (by decide +kernel), _, rfl, if_t rfl ?_⟩
      refine ⟨_, rfl, _, _, _, _, false, rfl, .ty _, .base (.int i), kit_ty (by decide +kernel), _, rfl, _, _, _, _, false, rfl, .ty _, .base (.int i), kit_ty (by decide +kernel), rfl, _, rfl, if_t rfl ?_⟩
      refine ⟨_, rfl, _, rfl, rfl, ?_⟩
      rw [decide_eq_true rfl]
      exact q _ e1
    · refine ⟨_, t, _, .type "str", _, false, rfl, ht, .cons (.ty _) (.cons (.ty _) .nil), .base (.str k), kitLT (t := "str") (b1 := false) (b2 := false) (by decide +kernel) (by decide +kernel), _, rfl, if_f rfl ?_⟩
      refine ⟨_, rfl, _, rfl, if_f rfl ⟨_, rfl, _, _, _, _, true, rfl, .ty _, .base (.str k), kit_ty (by decide +kernel), _, rfl, if_t rfl ?_⟩⟩
      refine ⟨_, rfl, _, rfl, rfl, _, rfl, ?_⟩
      rw [decide_eq_true rfl]
      refine if_t rfl ?_
      refine ⟨_, rfl, _, _, _, _, true, rfl, .ty _, .base (.str k), kit_ty (by decide +kernel), _, rfl, _, _, _, _, true, rfl, .ty _, .base (.str k), kit_ty (by decide +kernel), rfl, ?_⟩
      exact q _ e1
    · refine ⟨_, t, _, .type "NoneType", _, false, rfl, ht, .cons (.ty _) (.cons (.ty _) .nil), .base .non, kitLT (t := "NoneType") (b1 := false) (b2 := false) (by decide +kernel) (by decide +kernel), _, rfl, if_f rfl ?_⟩
      refine ⟨_, rfl, _, rfl, if_t rfl (if_t rfl ?_)⟩
      refine ⟨_, rfl, _, rfl, rfl, _, rfl, ?_⟩
      rw [decide_eq_true rfl]
      refine if_t rfl ?_
      refine ⟨_, rfl, _, _, _, _, false, rfl, .ty _, .base .non, kit_ty (by decide +kernel), _, rfl, _, _, _, _, false, rfl, .ty _, .base .non, kit_ty (by decide +kernel), rfl, ?_⟩
      exact q _ e1
theorem d_sameS (hT : Txt w K mg) (n : Nat) (d__law_same : Def P w K mg base CX0 (n + 1) "_law_same" scSame_P (spSame K n)) : Def P w K mg base CX0 (n + 2) "_law_same" scSame_P (spSame K (n + 1)) := by
  refine Def.of hT (st := lSame) (by simp [fn]) (by decide +kernel) scSame (fun _ _ _ _ _ _ us hl => match us, hl with | [_, _], _ => rfl) (fun vs H Q E h => by obtain ⟨u, v, rfl, _⟩ := h; rfl) fun cdv A outer s H vs Q E hr h => ?_
  refine' ⟨_, PSs.nox ?walk, ?read⟩
  case walk => exact (
    (pss_cons (ps_if (pt_val (pe_callB call_isiT (by rfl) (hT.free "isinstance" (by decide +kernel)) (by decide +kernel) (pa_cons (pv 1) (pa_cons (pe_tup (pa_cons (pe_bltn (v := .ty "list") (u := .type "list") (by rfl) (hT.free "list" (by decide +kernel)) (by decide +kernel) rfl) (pa_cons (pe_bltn (v := .ty "tuple") (u := .type "tuple") (by rfl) (hT.free "tuple" (by decide +kernel)) (by decide +kernel) rfl) pa_nil))) pa_nil))))
    (pss_cons (ps_if (PW.pt (pw_or (pt_cmpR op_ne (pe_callB call_isi (by rfl) (hT.free "isinstance" (by decide +kernel)) (by decide +kernel) (pa_cons (pv 0) (pa_cons (pe_bltn (v := .ty "list") (u := .type "list") (by rfl) (hT.free "list" (by decide +kernel)) (by decide +kernel) rfl) pa_nil))) (pe_callB call_isi (by rfl) (hT.free "isinstance" (by decide +kernel)) (by decide +kernel) (pa_cons (pv 1) (pa_cons (pe_bltn (v := .ty "list") (u := .type "list") (by rfl) (hT.free "list" (by decide +kernel)) (by decide +kernel) rfl) pa_nil))) (nomark _)) (pw_or1 (pt_cmpR op_ne (pe_callB call_isi (by rfl) (hT.free "isinstance" (by decide +kernel)) (by decide +kernel) (pa_cons (pv 0) (pa_cons (pe_bltn (v := .ty "tuple") (u := .type "tuple") (by rfl) (hT.free "tuple" (by decide +kernel)) (by decide +kernel) rfl) pa_nil))) (pe_callB call_isi (by rfl) (hT.free "isinstance" (by decide +kernel)) (by decide +kernel) (pa_cons (pv 1) (pa_cons (pe_bltn (v := .ty "tuple") (u := .type "tuple") (by rfl) (hT.free "tuple" (by decide +kernel)) (by decide +kernel) rfl) pa_nil))) (nomark _)))))
    (pss_one (ps_ret pe_bl))
    pss_nil)
    (pss_one (ps_ret (pe_and (pe_cmpR op_eq (pe_callB call_len_seq (by rfl) (hT.free "len" (by decide +kernel)) boot_len (pa_cons (pv 0) pa_nil)) (pe_callB call_len_seq (by rfl) (hT.free "len" (by decide +kernel)) boot_len (pa_cons (pv 1) pa_nil)) (nomark _)) (pe_one (pe_callB (cr_all rfl) (by rfl) (hT.free "all" (by decide +kernel)) (by decide +kernel) (pa_cons (pe_lc (own := [("_law_one", 2), ("_law_two", 3)]) rfl scSame.nd (RZ.pi_zipA (by rfl) (hT.free "zip" (by decide +kernel)) (pa_cons (pv 0) (pa_cons (pv 1) pa_nil))) (blkOk_by (N := scSame_N) (sc := scSame_S) (by decide +kernel)) (fun _ _ _ _ _ => (pg_tupK (n := 2) K rfl (pgs_cons (pg_name (i := 2) scSame.nd rfl (Or.inl rfl)) (pgs_cons (pg_name (i := 3) scSame.nd rfl (Or.inl rfl)) pgs_nil)))) (fun _ _ _ _ _ => pts_nil) (fun _ _ _ _ _ => (pe_fn d__law_same hr (pa_cons (pv 2) (pa_cons (pv 3) pa_nil)) (Nat.le_refl _)))) pa_nil)))))))
    pss_nil)
    (pss_cons (ps_if (PW.pt (pw_or (pt_cmp (pc_isN (pv 1))) (pw_or1 (pt_val (pe_callB call_isi (by rfl) (hT.free "isinstance" (by decide +kernel)) (by decide +kernel) (pa_cons (pv 1) (pa_cons (pe_bltn (v := .ty "str") (u := .type "str") (by rfl) (hT.free "str" (by decide +kernel)) (by decide +kernel) rfl) pa_nil)))))))
    (pss_one (ps_ret (pe_and (pe_cmpR op_eq (pv 0) (pv 1) (nomark _)) (pe_one (pe_cmpR op_eq (pe_callB call_isi (by rfl) (hT.free "isinstance" (by decide +kernel)) (by decide +kernel) (pa_cons (pv 0) (pa_cons (pe_bltn (v := .ty "str") (u := .type "str") (by rfl) (hT.free "str" (by decide +kernel)) (by decide +kernel) rfl) pa_nil))) (pe_callB call_isi (by rfl) (hT.free "isinstance" (by decide +kernel)) (by decide +kernel) (pa_cons (pv 1) (pa_cons (pe_bltn (v := .ty "str") (u := .type "str") (by rfl) (hT.free "str" (by decide +kernel)) (by decide +kernel) rfl) pa_nil))) (nomark _))))))
    pss_nil)
    (pss_one (ps_ret (pe_and (pe_callB call_isi (by rfl) (hT.free "isinstance" (by decide +kernel)) (by decide +kernel) (pa_cons (pv 0) (pa_cons (pe_bltn (v := .ty "int") (u := .type "int") (by rfl) (hT.free "int" (by decide +kernel)) (by decide +kernel) rfl) pa_nil))) (pe_and (pe_cmpR op_eq (pe_callB call_isi (by rfl) (hT.free "isinstance" (by decide +kernel)) (by decide +kernel) (pa_cons (pv 0) (pa_cons (pe_bltn (v := .ty "bool") (u := .type "bool") (by rfl) (hT.free "bool" (by decide +kernel)) (by decide +kernel) rfl) pa_nil))) (pe_callB call_isi (by rfl) (hT.free "isinstance" (by decide +kernel)) (by decide +kernel) (pa_cons (pv 1) (pa_cons (pe_bltn (v := .ty "bool") (u := .type "bool") (by rfl) (hT.free "bool" (by decide +kernel)) (by decide +kernel) rfl) pa_nil))) (nomark _)) (pe_one (pe_cmpR op_eq (pv 0) (pv 1) (nomark _)))))))))
    )
  case read =>
    obtain ⟨u, v, rfl, hA, q⟩ := h
    refine ⟨_, rfl, (by show 2 ≤ sizeLine; decide), fun t nt => ?_⟩
    have e1 := Ex.new (o := .tup [V.ty "list", .ty "tuple"]) nt
    have ht : upd H t (.tup [V.ty "list", .ty "tuple"]) t = some (.tup [V.ty "list", .ty "tuple"]) := upd_same
    generalize upd H t (.tup [V.ty "list", .ty "tuple"]) = G at *
    rcases hA with ⟨rfl, hu⟩ | ⟨a, b, xs, ys, rfl, rfl, h3, h4, h5⟩
    · rcases hu with ⟨i, rfl⟩ | ⟨k, rfl⟩ | rfl
      · refine ⟨_, t, _, .type "int", _, false, rfl, ht, .cons (.ty _) (.cons (.ty _) .nil), .base (.int i), kitLT (t := "int") (b1 := false) (b2 := false) (by decide +kernel) (by decide +kernel), _, rfl, if_f rfl ?_⟩
        refine ⟨_, rfl, _, rfl, if_f rfl ⟨_, rfl, _, _, _, _, false, rfl, .ty _, .base (.int i), kit_ty (by decide +kernel), _, rfl, if_f rfl ?_⟩⟩
        refine ⟨_, rfl, _, _, _, _, true, rfl, .ty _, .base (.int i), kit_ty (by decide +kernel), _, rfl, if_t rfl ?_⟩
        refine ⟨_, rfl, _, _, _, _, false, rfl, .ty _, .base (.int i), kit_ty (by decide +kernel), _, rfl, _, _, _, _, false, rfl, .ty _, .base (.int i), kit_ty (by decide +kernel), rfl, _, rfl, if_t rfl ?_⟩
        refine ⟨_, rfl, _, rfl, rfl, ?_⟩
        rw [decide_eq_true rfl]
        exact q _ e1
      · refine ⟨_, t, _, .type "str", _, false, rfl, ht, .cons (.ty _) (.cons (.ty _) .nil), .base (.str k), kitLT (t := "str") (b1 := false) (b2 := false) (by decide +kernel) (by decide +kernel), _, rfl, if_f rfl ?_⟩
        refine ⟨_, rfl, _, rfl, if_f rfl ⟨_, rfl, _, _, _, _, true, rfl, .ty _, .base (.str k), kit_ty (by decide +kernel), _, rfl, if_t rfl ?_⟩⟩
        refine ⟨_, rfl, _, rfl, rfl, _, rfl, ?_⟩
        rw [decide_eq_true rfl]
        refine if_t rfl ?_
        refine ⟨_, rfl, _, _, _, _, true, rfl, .ty _, .base (.str k), kit_ty (by decide +kernel), _, rfl, _, _, _, _, true, rfl, .ty _, .base (.str k), kit_ty (by decide +kernel), rfl, ?_⟩
        exact q _ e1
      · refine ⟨_, t, _, .type "NoneType", _, false, rfl, ht, .cons (.ty _) (.cons (.ty _) .nil), .base .non, kitLT (t := "NoneType") (b1 := false) (b2 := false) (by decide +kernel) (by decide +kernel), _, rfl, if_f rfl ?_⟩
        refine ⟨_, rfl, _, rfl, if_t rfl (if_t rfl ?_)⟩
        refine ⟨_, rfl, _, rfl, rfl, _, rfl, ?_⟩
        rw [decide_eq_true rfl]
        refine if_t rfl ?_
        refine ⟨_, rfl, _, _, _, _, false, rfl, .ty _, .base .non, kit_ty (by decide +kernel), _, rfl, _, _, _, _, false, rfl, .ty _, .base .non, kit_ty (by decide +kernel), rfl, ?_⟩
        exact q _ e1
    · have hlen := plen h4
      have h4' : Paired (Al n G) xs ys := Paired.mapP h4 fun _ _ r => Al.ex e1 r
      rcases h3 with ⟨ha, hb⟩ | ⟨ha, hb⟩
      · have ha := e1 _ _ ha
        have hb := e1 _ _ hb
        refine ⟨_, t, _, .type "list", _, true, rfl, ht, .cons (.ty _) (.cons (.ty _) .nil), .base (.lst hb), kitLT (t := "list") (b1 := true) (b2 := false) (by decide +kernel) (by decide +kernel), _, rfl, if_t rfl ?_⟩
        refine ⟨_, rfl, _, _, _, _, true, rfl, .ty _, .base (.lst ha), kit_ty (by decide +kernel), _, rfl, _, _, _, _, true, rfl, .ty _, .base (.lst hb), kit_ty (by decide +kernel), rfl, _, rfl, if_f rfl ?_⟩
        refine ⟨_, rfl, _, _, _, _, false, rfl, .ty _, .base (.lst ha), kit_ty (by decide +kernel), _, rfl, _, _, _, _, false, rfl, .ty _, .base (.lst hb), kit_ty (by decide +kernel), rfl, _, rfl, if_f rfl ?_⟩
        refine ⟨_, rfl, a, xs, rfl, .inl (SqL.of ha), _, rfl, b, ys, rfl, .inl (SqL.of hb), rfl, _, rfl, if_t (by rw [hlen]; simp) ?_⟩
        refine ⟨_, rfl, _, rfl, a, b, xs, ys, rfl, .inl ⟨SqL.of ha, SqL.of hb, fun D nD => ?_⟩⟩
        refine loop_walk (walk_zip (n := xs.length) (by omega)) (fun j H' => Ex G H' ∧ H' D = some (.lst ((List.replicate j true).map V.bl))) ⟨Ex.new nD, upd_same⟩ (fun j H' _ h => ⟨h.1.sq (SqL.of ha), h.1.sq (SqL.of hb)⟩) (fun j x H' H2 hj h y => ?_) (fun H' h => ?_)
        · obtain ⟨T, y1, y2, rfl, nT, rfl, f1, f2⟩ := y
          obtain ⟨e2, hD⟩ := h
          have eT := Ex.new (o := .tup [y1, y2]) nT
          obtain ⟨y3, f3, hal⟩ := pgetL h4' f1
          have : y3 = y2 := Option.some.inj (f3.symm.trans f2)
          subst this
          refine ⟨T, _, rfl, SqT.of upd_same, rfl, _, _, rfl, _, _, rfl, rfl, rfl, _, rfl, _, rfl, y1, y3, rfl, Al.ex (e2.trans eT) hal, fun H3 e3 => ⟨_, (eT.trans e3) _ _ hD, small' (by rw [List.length_map, List.length_replicate]; omega), ((e2.trans eT).trans e3).mut nD, ?_⟩⟩
          rw [upd_same, List.replicate_succ', List.map_append]
          rfl
        · obtain ⟨e2, hD⟩ := h
          refine ⟨D, _, rfl, SqL.of hD, ?_⟩
          have hall : (List.replicate xs.length true).all id = true := by simp
          rw [hall]
          exact q _ (e1.trans e2)
      · have ha := (tk_ex e1).rd ha
        have hb := (tk_ex e1).rd hb
        refine ⟨_, t, _, .type "tuple", _, true, rfl, ht, .cons (.ty _) (.cons (.ty _) .nil), tyx_rd hb, kitLT (t := "tuple") (b1 := false) (b2 := true) (by decide +kernel) (by decide +kernel), _, rfl, if_t rfl ?_⟩
        refine ⟨_, rfl, _, _, _, _, false, rfl, .ty _, tyx_rd ha, kit_ty (by decide +kernel), _, rfl, _, _, _, _, false, rfl, .ty _, tyx_rd hb, kit_ty (by decide +kernel), rfl, _, rfl, if_f rfl ?_⟩
        refine ⟨_, rfl, _, _, _, _, true, rfl, .ty _, tyx_rd ha, kit_ty (by decide +kernel), _, rfl, _, _, _, _, true, rfl, .ty _, tyx_rd hb, kit_ty (by decide +kernel), rfl, _, rfl, if_f rfl ?_⟩
        refine ⟨_, rfl, a, xs, rfl, .inr (rd_sq ha), _, rfl, b, ys, rfl, .inr (rd_sq hb), rfl, _, rfl, if_t (by rw [hlen]; simp) ?_⟩
        refine ⟨_, rfl, _, rfl, a, b, xs, ys, rfl, .inr ⟨rd_sq ha, rd_sq hb, fun D nD => ?_⟩⟩
        refine loop_walk (walk_zipT (n := xs.length) (by omega)) (fun j H' => Ex G H' ∧ H' D = some (.lst ((List.replicate j true).map V.bl))) ⟨Ex.new nD, upd_same⟩ (fun j H' _ h => ⟨rd_sq ((tk_ex h.1).rd ha), rd_sq ((tk_ex h.1).rd hb)⟩) (fun j x H' H2 hj h y => ?_) (fun H' h => ?_)
        · obtain ⟨T, y1, y2, rfl, nT, rfl, f1, f2⟩ := y
          obtain ⟨e2, hD⟩ := h
          have eT := Ex.new (o := .tup [y1, y2]) nT
          obtain ⟨y3, f3, hal⟩ := pgetL h4' f1
          have : y3 = y2 := Option.some.inj (f3.symm.trans f2)
          subst this
          refine ⟨T, _, rfl, SqT.of upd_same, rfl, _, _, rfl, _, _, rfl, rfl, rfl, _, rfl, _, rfl, y1, y3, rfl, Al.ex (e2.trans eT) hal, fun H3 e3 => ⟨_, (eT.trans e3) _ _ hD, small' (by rw [List.length_map, List.length_replicate]; omega), ((e2.trans eT).trans e3).mut nD, ?_⟩⟩
          rw [upd_same, List.replicate_succ', List.map_append]
          rfl
        · obtain ⟨e2, hD⟩ := h
          refine ⟨D, _, rfl, SqL.of hD, ?_⟩
          have hall : (List.replicate xs.length true).all id = true := by simp
          rw [hall]
          exact q _ (e1.trans e2)
theorem d__law_same (hT : Txt w K mg) : ∀ n, Def P w K mg base CX0 (n + 1) "_law_same" scSame_P (spSame K n)
  | 0 => d_same0 hT
  | n + 1 => d_sameS hT n (d__law_same hT n)
end
end Sh
/-! _law_right. -/
namespace Sh
open PySem PySem.Spec PyProof.Rows L2
abbrev scRight_N : List Str := ["_law_box_here", "_law_here", "_law_loan", "_law_lot", "_law_stands", "_law_states", "_law_turn", "_law_way", "_law_acts", "_law_is_all", "_law_deed", "_law_anew"]
abbrev scRight_P : List Str := ["_law_box_here"]
abbrev scRight_S : Scope := defScope lRight
theorem scRight : FnScope scRight_N scRight_P (defScope lRight) := ⟨rfl, rfl, rfl, by decide +kernel, rfl, by decide +kernel, by decide +kernel⟩
section
variable {X : Cx} {j : Nat} {ps : List Str} {t : TA} {e : Expr} {es : List Expr} {p pos : Pos}
theorem pe_lib (d : MkD X.prog X.w X.K X.mg X.base CX0 1 (LC X.K) (He.ma X.K (LC X.K) "__init__") ps (spInit X.K)) (hT : Txt X.w X.K X.mg) (hr : Room j X.A) (ha : PA X (e :: es) t) (hk : 2 ≤ j := by decide) (hg : Gl X "Library" := by rfl)
    (he : starEach (e :: es) X.env = (false, eval e X.env) :: starEach es X.env := by rfl) (hpl : (backTo pos (starEach es X.env)).any (·.1) = false := by rfl) :
    PE X (.Call (.Name "Library" p) (e :: es) [] pos) (tMake (LC X.K) (spInit X.K) [] E0 t) := by
  obtain ⟨fd, F, b⟩ := d.ex
  exact pe_make d.cl F (hr.mono hk) hg (hT.glo "Library" (by decide +kernel)) b .nil pass0 ha (by decide) he hpl
end
theorem rcEq {X : Cx} {ps : List Str} (hT : Txt X.w X.K X.mg) (d : Mth X.prog X.w X.K X.mg X.base CX0 5 "__eq__" ps (spEq (LibEq X.K))) : RcG X 5 (DIns (LC X.K) (LibEq X.K)) := by
  obtain ⟨fd, F, b⟩ := d.ex
  exact rcG_ins F d.me.at_ d.me.fn b pass0
theorem pdropLast {α β : Type} {F : α → β → Prop} {a : List α} {b : List β} (h : Paired F a b) : Paired F a.dropLast b.dropLast := by
  rw [List.dropLast_eq_take, List.dropLast_eq_take, plen h]
  exact ptake _ h
theorem lib_ex {H1 H2 H' : Hp} {x : Addr} (e : Ex H1 H2) (nx : H1 x = none) (c : Ch [x] H2 H') : Ex H1 H' := fun b o h => c b o (by
  have : b ≠ x := fun z => by rw [z, nx] at h; cases h
  simp [this]) (e b o h)
theorem Ch.hide {b : Addr} {ex : List Addr} {H H1 H2 : Hp} (c : Ch [b] H H1) (d : Ch ex H1 H2) (h : ∀ a ∈ ex, H a = none ∨ a = b) : Ch [b] H H2 := fun a o ha e => d a o (fun z => by
  rcases h a z with q | q
  · rw [q] at e; cases e
  · exact ha (by simp [q])) (c a o ha e)
theorem pscan_cur (p0 : PSt) (D : List Deed) : (pscan p0 D)[(pscan p0 D).length - 1]? = some (pafter p0 D) := by
  rw [pscan_len, Nat.add_sub_cancel]
  exact pscan_last D p0
theorem takes_rowM (p : PSt) (ds : List Deed) (whole : Bool) : Sh.Takes p (ds.take (rowM p ds whole)) := by
  unfold rowM
  split
  · rename_i h
    have := takes_doN ds p
    rw [h] at this
    exact this
  · split
    · rw [List.take_zero]; trivial
    · exact takes_doN ds p
theorem rowM_le (p : PSt) (ds : List Deed) (whole : Bool) : rowM p ds whole ≤ ds.length := by
  have := doN_le ds p
  unfold rowM
  split
  · omega
  · split <;> omega
theorem takes_step {p : PSt} {D : List Deed} {j : Nat} {d : Deed} (h : Sh.Takes p D) (hd : D[j]? = some d) : (pstep (pafter p (D.take j)) d).isSome = true := by
  have h1 := takes_take h (j + 1)
  rw [take_more hd] at h1
  exact ((takes_append _ _ _).mp h1).2.1
theorem after_more {p : PSt} {D : List Deed} {j : Nat} {d : Deed} (hd : D[j]? = some d) : pafter p (D.take (j + 1)) = pst (pafter p (D.take j)) d := by
  rw [take_more hd, pafter_append]
  rfl
/-! ### what is told of equal states -/
theorem al_run {H : Hp} {u v : V} {r : Run} (a : RunV H u r) (b : RunV H v r) : Al 1 H u v := by
  obtain ⟨a, rfl, ra⟩ := a
  obtain ⟨b, rfl, rb⟩ := b
  exact .inr ⟨a, b, _, _, rfl, rfl, .inr ⟨ra, rb⟩, .cons ⟨rfl, .inr (.inl ⟨_, rfl⟩)⟩ (.cons ⟨rfl, .inl ⟨_, rfl⟩⟩ .nil), by show 2 ≤ 100000; decide⟩
theorem al_paired {α : Type} {R : Hp → V → α → Prop} {H : Hp} {n : Nat} (h : ∀ u v x, R H u x → R H v x → Al n H u v) : ∀ {vs ws : List V} {l : List α}, Paired (R H) vs l → Paired (R H) ws l → Paired (Al n H) vs ws
  | _, _, _, .nil, .nil => .nil
  | _, _, _, .cons a b, .cons c d => .cons (h _ _ _ a c) (al_paired h b d)
theorem al_sh {H : Hp} {u v : V} {r : Shf} (hz : r.length ≤ 100000) (a : ShV H u r) (b : ShV H v r) : Al 2 H u v := by
  obtain ⟨a, vs, rfl, ra, hp⟩ := a
  obtain ⟨b, ws, rfl, rb, hq⟩ := b
  have := plen hp
  exact .inr ⟨a, b, vs, ws, rfl, rfl, .inr ⟨ra, rb⟩, al_paired (fun _ _ _ h1 h2 => al_run h1 h2) hp hq, by omega⟩
theorem al_st {H : Hp} {u v : V} {r : Std} (hz : Small r) (a : StV H u r) (b : StV H v r) : Al 3 H u v := by
  obtain ⟨a, vs, rfl, ra, hp⟩ := a
  obtain ⟨b, ws, rfl, rb, hq⟩ := b
  have h1 := plen hp
  have h2 := hz.len
  have h3 := hz.flat
  refine .inr ⟨a, b, vs, ws, rfl, rfl, .inr ⟨ra, rb⟩, ?_, by omega⟩
  have hall : ∀ sh ∈ r, sh.length ≤ 100000 := fun sh hs => by
    obtain ⟨j, hj⟩ := List.getElem?_of_mem hs
    have := flat_get hj
    omega
  clear hz h1 h2 h3
  have go : ∀ {vs ws : List V} {r : Std}, (∀ sh ∈ r, sh.length ≤ 100000) → Paired (ShV H) vs r → Paired (ShV H) ws r → Paired (Al 2 H) vs ws := by
    intro vs ws r hr hp
    induction hp generalizing ws with
    | nil => intro hq; cases hq; exact .nil
    | cons a b ih =>
      intro hq
      cases hq with
      | cons c d => exact .cons (al_sh (hr _ List.mem_cons_self) a c) (ih (fun x hx => hr x (List.mem_cons_of_mem _ hx)) d)
  exact go hall hp hq
theorem al_up : ∀ {n : Nat} {H : Hp} {u v : V}, Al n H u v → Al (n + 1) H u v
  | 0, _, _, _, h => .inl h
  | n + 1, _, _, _, h => by
    rcases h with h | ⟨a, b, xs, ys, h1, h2, h3, h4, h5⟩
    · exact .inl h
    · exact .inr ⟨a, b, xs, ys, h1, h2, h3, Paired.mapP h4 fun _ _ r => al_up r, h5⟩
theorem al_deed {H : Hp} {u v : V} {d : Deed} (a : DeedV H u d) (b : DeedV H v d) : Al 1 H u v := by
  obtain ⟨a, rfl, ra⟩ := a
  obtain ⟨b, rfl, rb⟩ := b
  refine .inr ⟨a, b, _, _, rfl, rfl, .inr ⟨ra, rb⟩, ?_, by cases d <;> (show _ ≤ 100000; simp [deedV, dargs])⟩
  have s : ∀ k : Str, Al 0 H (.str k) (.str k) := fun k => ⟨rfl, .inr (.inl ⟨k, rfl⟩)⟩
  have i : ∀ k : Int, Al 0 H (.int k) (.int k) := fun k => ⟨rfl, .inl ⟨k, rfl⟩⟩
  cases d with
  | take x y => exact .cons (s _) (.cons (i _) (.cons (i _) .nil))
  | put k x y => exact .cons (s _) (.cons (s _) (.cons (i _) (.cons (i _) .nil)))
  | fin k x => exact .cons (s _) (.cons (s _) (.cons (i _) .nil))
  | lend n => exact .cons (s _) (.cons (i _) .nil)
theorem mayOf_len {p : PSt} (h : PInv p) : (mayOf p).length ≤ 100000 := by
  obtain ⟨z1, z2, z3⟩ := h.size
  have hal := allSp_len p.st
  have a1 : (mayT p).length ≤ 60 := by
    unfold mayT
    split
    · rw [List.length_map]; omega
    · simp
  have a2 := flatMap_len (f := mayP p) (l := p.out) (n := 60) fun r _ => by
    unfold mayP spotsOf
    rw [List.length_map]
    have := List.length_filter_le (isKind p.st r.1) (allSp p.st)
    omega
  have a3 := flatMap_len (f := mayE p) (l := p.out) (n := 60) fun r _ => by
    unfold mayE
    split
    · rw [List.length_map, List.length_range]; omega
    · simp
  have c : p.out.length * 60 ≤ 60 * 60 := Nat.mul_le_mul_right 60 z3
  unfold mayOf
  rw [List.length_append, List.length_append]
  omega
theorem al_told {H : Hp} {t1 t2 : Addr} {p : PSt} {n : Int} (h : PInv p) (a : ToldV H t1 p n) (b : ToldV H t2 p n) : Al 4 H (.ref t1) (.ref t2) := by
  obtain ⟨u, o, mm, us, ys, a1, a2, a3, a4, a5, a6⟩ := a
  obtain ⟨u', o', mm', us', ys', b1, b2, b3, b4, b5, b6⟩ := b
  have i : ∀ k : Int, Al 3 H (.int k) (.int k) := fun k => .inl ⟨rfl, .inl ⟨k, rfl⟩⟩
  have h1 := plen a4
  have h2 := h.olen
  have h3 := plen a6
  have h4 := mayOf_len h
  refine .inr ⟨t1, t2, _, _, rfl, rfl, .inl ⟨a1, b1⟩, ?_, by show 6 ≤ 100000; decide⟩
  refine .cons (al_st h.small a2 b2) (.cons (al_up (n := 2) ?_) (.cons (i _) (.cons (i _) (.cons (i _) (.cons (al_up (n := 2) ?_) .nil)))))
  · exact .inr ⟨o, o', us, us', rfl, rfl, .inl ⟨a3, b3⟩, al_paired (fun _ _ _ z1 z2 => al_run z1 z2) a4 b4, by omega⟩
  · exact .inr ⟨mm, mm', ys, ys', rfl, rfl, .inl ⟨a5, b5⟩, al_paired (fun _ _ _ z1 z2 => al_deed z1 z2) a6 b6, by omega⟩
theorem ToldV.ex {H H' : Hp} {t : Addr} {p : PSt} {n : Int} (e : Ex H H') (h : ToldV H t p n) : ToldV H' t p n :=
  let ⟨u, o, mm, us, ys, a1, a2, a3, a4, a5, a6⟩ := h; ⟨u, o, mm, us, ys, e _ _ a1, mon_st _ _ _ _ (tk_ex e) a2, e _ _ a3, pmono mon_run (tk_ex e) a4, e _ _ a5, pmono mon_deed (tk_ex e) a6⟩
theorem cut_to (xs : List V) (n : Nat) : cutV xs none (some (n : Int)) = xs.take n := by
  unfold cutV
  rw [HT.sIx_none, HT.sIx_nat]
  by_cases h : n ≤ xs.length
  · rw [Nat.min_eq_left h]; simp
  · rw [Nat.min_eq_right (by omega), List.take_of_length_le (by simp), List.take_of_length_le (by omega)]; simp
/-- the ground of the law's turns -/
structure Gr (K : PySem.W.Frag) (H0 H : Hp) (b : Addr) (v1 : V) (st : Std) (L dx ls lg : Addr) (xs gs : List V) (p0 : PSt) (D : List Deed) (S : Addr) (dls : List V) (gn m : Nat) : Prop where
  hid : Ch [b] H0 H
  fr : H0 L = none ∧ H0 ls = none ∧ H0 lg = none ∧ H0 S = none
  box : BoxAt H b m
  st : StV H v1 st
  lib : LibAt K H L dx ls lg xs (pscan p0 D) gs
  gl : gs.length ≤ gn
  std : H S = some (.lst dls)
  dds : Paired (DeedV H) dls D
  tks : Sh.Takes p0 D
  neS : S ≠ ls ∧ S ≠ lg
section
variable {K : PySem.W.Frag} {H0 H H' : Hp} {b : Addr} {v1 : V} {st : Std} {L dx ls lg : Addr} {xs gs : List V} {p0 : PSt} {D : List Deed} {S : Addr} {dls : List V} {gn m : Nat}
theorem Gr.neLS (g : Gr K H0 H b v1 st L dx ls lg xs gs p0 D S dls gn m) : L ≠ S := ne_of g.lib.ins g.std (fun z => nomatch z)
theorem Gr.keep (g : Gr K H0 H b v1 st L dx ls lg xs gs p0 D S dls gn m) {ex : List Addr} (hb : BoxAt H0 b 0 ∨ ∃ o, H0 b = some o) (c : Ch ex H H') (k : Tk H H') (hx : ∀ a ∈ ex, H0 a = none ∧ a ≠ L ∧ a ≠ ls ∧ a ≠ lg ∧ a ≠ S) : Gr K H0 H' b v1 st L dx ls lg xs gs p0 D S dls gn m := by
  have nx : ∀ {a : Addr}, (a = L ∨ a = ls ∨ a = lg ∨ a = S) → a ∉ ex := fun {a} h z => by
    obtain ⟨_, h1, h2, h3, h4⟩ := hx a z
    rcases h with h | h | h | h
    · exact h1 h
    · exact h2 h
    · exact h3 h
    · exact h4 h
  have hb' : ∃ o, H0 b = some o := by
    rcases hb with h | h
    · obtain ⟨_, _, _, e, _⟩ := h; exact ⟨_, e⟩
    · exact h
  have nb : b ∉ ex := fun z => by
    obtain ⟨o, e⟩ := hb'
    rw [(hx b z).1] at e
    cases e
  exact ⟨g.hid.hide c fun a ha => .inl (hx a ha).1, g.fr, g.box.ch c nb, mon_st _ _ _ _ k g.st, g.lib.keep c k (nx (.inl rfl)) (nx (.inr (.inl rfl))) (nx (.inr (.inr (.inl rfl)))), g.gl, c _ _ (nx (.inr (.inr (.inr rfl)))) g.std, pmono mon_deed k g.dds, g.tks, g.neS⟩
theorem Gr.ex (g : Gr K H0 H b v1 st L dx ls lg xs gs p0 D S dls gn m) (e : Ex H H') : Gr K H0 H' b v1 st L dx ls lg xs gs p0 D S dls gn m :=
  ⟨g.hid.trans (Ch.of e), g.fr, g.box.ex e, mon_st _ _ _ _ (tk_ex e) g.st, g.lib.ex e, g.gl, e _ _ g.std, pmono mon_deed (tk_ex e) g.dds, g.tks, g.neS⟩
theorem Gr.bx (g : Gr K H0 H b v1 st L dx ls lg xs gs p0 D S dls gn m) (hb : ∃ o, H0 b = some o) {n : Nat} (c : Ch [b] H H') (k : Tk H H') (h : BoxAt H' b n) : Gr K H0 H' b v1 st L dx ls lg xs gs p0 D S dls gn n := by
  have nb : ∀ {a : Addr}, H0 a = none → a ∉ [b] := fun {a} e z => by
    obtain ⟨o, e2⟩ := hb
    have : a = b := by simpa using z
    rw [this, e2] at e
    cases e
  obtain ⟨f1, f2, f3, f4⟩ := g.fr
  exact ⟨g.hid.trans c, g.fr, h, mon_st _ _ _ _ k g.st, g.lib.keep c k (nb f1) (nb f2) (nb f3), g.gl, c _ _ (nb f4) g.std, pmono mon_deed k g.dds, g.tks, g.neS⟩
theorem Gr.mono (g : Gr K H0 H b v1 st L dx ls lg xs gs p0 D S dls gn m) {n gk : Nat} (h : m ≤ n) (h2 : gn ≤ gk) : Gr K H0 H b v1 st L dx ls lg xs gs p0 D S dls gk n :=
  ⟨g.hid, g.fr, g.box.mono h, g.st, g.lib, Nat.le_trans g.gl h2, g.std, g.dds, g.tks, g.neS⟩
end
def spRight (K : PySem.W.Frag) : Sp := fun vs H Q _ => ∃ (b : Addr) (m : Nat), vs = [.ref b] ∧ BoxAt H b m ∧ m + 100000 ≤ zz ∧ ∀ H', Ch [b] H H' → Q (.bl true) H'
section
variable {P : Program} {w : World} {K : PySem.W.Frag} {mg : Str → Option Value} {base : Heap}
/-- both libraries, undone step by step -/
def WL (K : PySem.W.Frag) (L dx ls lg x2 dx2 ls2 lg2 : Addr) (p0 : PSt) (gs gs2 : List V) (σ9 : L2.St) (H6 : Hp) : Nat → L2.St → Hp → Prop := fun n σ H' => ∃ (D : List Deed) (xs xs2 : List V), n = D.length ∧ σ = σ9 ∧ Ch [ls, ls2] H6 H' ∧ Tk H6 H' ∧ LibAt K H' L dx ls lg xs (pscan p0 D) gs ∧ LibAt K H' x2 dx2 ls2 lg2 xs2 (pscan p0 D) gs2
theorem undo_lib {K : PySem.W.Frag} {H : Hp} {L dx ls lg : Addr} {xs gs : List V} {p0 : PSt} {D2 : List Deed} {d : Deed} (A : LibAt K H L dx ls lg xs (pscan p0 (D2 ++ [d])) gs) : LibAt K (upd H ls (.lst xs.dropLast)) L dx ls lg xs.dropLast (pscan p0 D2) gs :=
  ⟨by rw [upd_ne A.neL.1]; exact A.ins, upd_same, by rw [← pscan_dropLast D2 p0 d]; exact pdropLast (pmono mon_pst (tk_upd A.st rfl) A.prd), by rw [upd_ne A.ne.symm]; exact A.log, A.ne⟩
theorem d__law_right (hT : Txt w K mg) : Def P w K mg base CX0 8 "_law_right" scRight_P (spRight K) := by
  have d__law_take := d__law_take (P := P) (base := base) hT
  have d__law_stand := d__law_stand (P := P) (base := base) hT
  have d__law_row_of := d__law_row_of (P := P) (base := base) hT
  have d__law_rowed := d__law_rowed (P := P) (base := base) hT
  have d__law_due := d__law_due (P := P) (base := base) hT
  have d__law_done := d__law_done (P := P) (base := base) hT
  have d__law_told := d__law_told (P := P) (base := base) hT
  have d__law_same := d__law_same (P := P) (base := base) hT 4
  have d_init := d_init (P := P) (base := base) hT
  have d_undo := d_undo (P := P) (base := base) hT
  have d_deeds := d_deeds (P := P) (base := base) hT
  have d_eq := d_eq (P := P) (base := base) hT
  refine Def.of hT (st := lRight) (by simp [fn]) (by decide +kernel) scRight (fun _ _ _ _ _ _ us hl => match us, hl with | [_], _ => rfl) (fun vs H Q E h => by obtain ⟨b, m, rfl, _⟩ := h; rfl) fun cdv A outer s H vs Q E hr h => ?_
  refine' ⟨_, PSs.nox ?walk, ?read⟩
  case walk => exact (
    (pss_cons (ps_par (i := 1) (j := 2) rfl scRight.nd rfl rfl (by decide) rfl rfl (pa_cons (pe_fn d__law_stand hr (pa_cons (pv 0) (pa_cons pe_int (pa_cons pe_int (pa_cons pe_int (pa_cons pe_int pa_nil)))))) (pa_cons (pe_op op_add pe_int (pe_fn d__law_take hr (pa_cons (pv 0) (pa_cons pe_int pa_nil)))) pa_nil)) (by rfl))
    (pss_cons (ps_par3 (i := 3) (j := 4) (l := 5) rfl scRight.nd rfl rfl rfl (by decide) (by decide) (by decide) rfl rfl rfl (pa_cons (pe_lib d_init hT hr (pa_cons (pv 1) (pa_cons (pv 2) pa_nil))) (pa_cons (pe_lst pa_nil) (pa_cons (pe_lst (pa_cons (pe_tup (pa_cons (pv 1) (pa_cons (pe_tupN pa_nil) (pa_cons (pv 2) (pa_cons pe_int pa_nil))))) pa_nil)) pa_nil))) (by rfl))
    (pss_cons (ps_for PassesOwn.never rfl (pi_range1 (by rfl) (hT.free "range" (by decide +kernel)) (pa_cons pe_int pa_nil)) (pg_name (i := 6) scRight.nd rfl (Or.inl rfl))
    (pss_cons (ps_set (i := 7) scRight.nd rfl (Or.inl rfl) (pe_fn d__law_take hr (pa_cons (pv 0) (pa_cons pe_int pa_nil))))
    (pss_cons (ps_if (pt_cmpR op_eq (pv 7) pe_int (nomark _))
    (pss_one (ps_set (i := 4) scRight.nd rfl (Or.inl rfl) (pe_slice sl_list (pv 4) po_none (po_some (pe_op op_sub (pe_callB call_len_seq (by rfl) (hT.free "len" (by decide +kernel)) boot_len (pa_cons (pv 4) pa_nil)) (pe_callTy call_int1 (by rfl) (hT.free "int" (by decide +kernel)) (by decide +kernel) (pa_cons (pe_me0 d_undo hr hT.cl (pv 3)) pa_nil)))))))
    (pss_cons (ps_par (i := 8) (j := 9) rfl scRight.nd rfl rfl (by decide) rfl rfl (pa_cons (pe_fn d__law_row_of hr (pa_cons (pv 0) (pa_cons (pe_ix ix_list (pv 5) (pe_un un_neg pe_int) (fun _ _ => rfl)) pa_nil))) (pa_cons (pe_cmpR op_eq (pv 7) pe_int (nomark _)) pa_nil)) (by rfl))
    (pss_cons (ps_set (i := 8) scRight.nd rfl (Or.inl rfl) (pe_ifExp (pt_cmpR op_eq (pv 7) pe_int (nomark _)) (pe_slice sl_list (pv 8) po_none (po_some pe_int)) (pv 8)))
    (pss_one (ps_set (i := 4) scRight.nd rfl (Or.inl rfl) (pe_op op_cat (pv 4) (pe_slice sl_list (pv 8) po_none (po_some (pe_fn d__law_rowed hr (pa_cons (pv 3) (pa_cons (pv 8) (pa_cons (pv 9) pa_nil))))))))))))
    (pss_cons (ps_set (i := 5) scRight.nd rfl (Or.inl rfl) (pe_lst (pa_cons (pe_tup (pa_cons (pv 1) (pa_cons (pe_tupN pa_nil) (pa_cons (pv 2) (pa_cons pe_int pa_nil))))) pa_nil)))
    (pss_one (ps_for PassesOwn.never rfl (pi_list (pv 4)) (pg_name (i := 10) scRight.nd rfl (Or.inl rfl))
    (pss_one (ps_expr (pe_bm PySem.F.plainAttrs_list PySem.F.slot_list_append PySem.F.type_list_append mt_append (pv 5) (pa_cons (pe_ix ix_tup (pe_fn d__law_due hr (pa_cons (pe_ix ix_list (pv 5) (pe_un un_neg pe_int) (fun _ _ => rfl)) (pa_cons (pv 10) pa_nil))) pe_int (fun _ _ => rfl)) pa_nil))))))))))
    (pss_cons (ps_set (i := 11) scRight.nd rfl (Or.inl rfl) (pe_lib d_init hT hr (pa_cons (pv 1) (pa_cons (pv 2) pa_nil))))
    (pss_cons (ps_for PassesOwn.never rfl (pi_list (pv 4)) (pg_name (i := 10) scRight.nd rfl (Or.inl rfl))
    (pss_one (ps_expr (pe_fn d__law_done hr (pa_cons (pv 11) (pa_cons (pv 10) pa_nil))))))
    (pss_cons (ps_if (PW.pt (pw_or (pt_cmpR (op_neL hT d_eq (hr.mono (by decide))) (pv 11) (pv 3) (nomark _)) (pw_or (pt_not (pt_val (pe_fn d__law_same hr (pa_cons (pe_fn d__law_told hr (pa_cons (pv 3) pa_nil)) (pa_cons (pe_fn d__law_told hr (pa_cons (pv 11) pa_nil)) pa_nil))))) (pw_or1 (pt_cmpR op_ne (pe_me0 d_deeds hr hT.cl (pv 3)) (pe_callB call_len_seq (by rfl) (hT.free "len" (by decide +kernel)) boot_len (pa_cons (pv 4) pa_nil)) (nomark _))))))
    (pss_one (ps_ret pe_bl))
    pss_nil)
    (pss_cons (ps_set (i := 8) scRight.nd rfl (Or.inl rfl) (pe_fn d__law_row_of hr (pa_cons (pv 0) (pa_cons (pe_ix ix_list (pv 5) (pe_un un_neg pe_int) (fun _ _ => rfl)) pa_nil))))
    (pss_cons (ps_if (pt_cmpR op_ne (pe_fn d__law_rowed hr (pa_cons (pv 3) (pa_cons (pv 8) (pa_cons pe_bl pa_nil)))) (pe_fn d__law_rowed hr (pa_cons (pv 11) (pa_cons (pv 8) (pa_cons pe_bl pa_nil)))) (nomark _))
    (pss_one (ps_ret pe_bl))
    pss_nil)
    (pss_cons (ps_if (pt_not (pt_val (pe_fn d__law_same hr (pa_cons (pe_fn d__law_told hr (pa_cons (pv 3) pa_nil)) (pa_cons (pe_fn d__law_told hr (pa_cons (pv 11) pa_nil)) pa_nil)))))
    (pss_one (ps_ret pe_bl))
    pss_nil)
    (pss_cons (ps_while PassesOwn.never (pt_val (pe_me0 d_undo hr hT.cl (pv 3))) (pss_one (ps_expr (pe_me0 d_undo hr hT.cl (pv 11)))))
    (pss_one (ps_ret (pe_and (pe_cmpR (op_eqG (rcEq hT d_eq) (hr.mono (by decide))) (pv 3) (pe_lib d_init hT hr (pa_cons (pv 1) (pa_cons (pv 2) pa_nil))) (nomark _)) (pe_and (pe_fn d__law_same hr (pa_cons (pe_fn d__law_told hr (pa_cons (pv 3) pa_nil)) (pa_cons (pe_fn d__law_told hr (pa_cons (pv 11) pa_nil)) pa_nil))) (pe_one (pe_cmpR (op_eqG (rcEq hT d_eq) (hr.mono (by decide))) (pv 11) (pv 3) (nomark _)))))))))))))))))
    )
  case read =>
    obtain ⟨b, m, rfl, hb, hm, q⟩ := h
    have hzz : zz = 1099511627776 := rfl
    have hbs : ∃ o, H b = some o := by obtain ⟨_, _, _, e, _⟩ := hb; exact ⟨_, e⟩
    have nbf : ∀ {a : Addr}, H a = none → a ≠ b := fun {a} e z => by
      obtain ⟨o, e2⟩ := hbs
      rw [z, e2] at e
      cases e
    refine ⟨_, rfl, b, m, rfl, hb, by omega, fun H1 v1 st c1 k1 hb1 hst hps hsl htot => ⟨_, rfl, b, 3, _, rfl, by decide, by decide, hb1, by omega, fun H2 r c2 k2 hb2 r0 r1 => ⟨_, _, rfl, rfl, _, _, rfl, ?_⟩⟩⟩
    have c12 := c1.trans c2
    have hst2 := mon_st _ _ _ _ k2 hst
    dsimp only
    generalize hln : (1 : Int) + r = ln
    refine ⟨_, rfl, _, rfl, fun L dx nL ndx neL => ⟨L, dx, v1, st, ln, rfl, upd_same, mon_st _ _ _ _ (tk_ex ((Ex.new ndx).mut nL)) hst2, fun H3 ls lg t cL kL AL nls nlg => ⟨rfl, Nat.zero_le _, fun S nS => ⟨_, rfl, Nat.zero_le _, fun e o ne ho => ⟨_, rfl, (by show 4 ≤ sizeLine; decide), fun t4 nt4 => ⟨(by show 1 ≤ sizeLine; decide), fun T nT => ⟨_, _, _, rfl, ?_⟩⟩⟩⟩⟩⟩⟩
    have eLx : Ex H2 (upd (upd H2 dx (.own L)) L (.ins (LC K) dx [])) := (Ex.new ndx).mut nL
    have e23 : Ex H2 H3 := lib_ex eLx nL cL
    have hnl : ∀ {a : Addr}, H2 a = none → a ≠ b → H a = none := fun h1 h2 => c12.nn h1 (by simpa using h2)
    have n2b : ∀ {a : Addr}, H2 a = none → a ≠ b := fun h1 => hb2.nb h1
    have nls2 : H2 ls = none := eLx.nn nls
    have nlg2 : H2 lg = none := eLx.nn nlg
    have y1 := Ex.new (o := .lst []) nS
    have hS1 : upd H3 S (.lst []) S = some (.lst []) := upd_same
    generalize upd H3 S (.lst []) = G1 at *
    have y2 := Ex.new (o := HO.frz o (.tup [])) ne
    have hd2 : DN (upd G1 e (HO.frz o (.tup []))) e [] := DN.new ho
    generalize upd G1 e (HO.frz o (.tup [])) = G2 at *
    have y3 := Ex.new (o := .tup [v1, V.ref e, .int ln, .int 0]) nt4
    have ht4 : upd G2 t4 (.tup [v1, V.ref e, .int ln, .int 0]) t4 = some (.tup [v1, V.ref e, .int ln, .int 0]) := upd_same
    have hd3 := (tk_ex y3).dn hd2
    generalize upd G2 t4 (.tup [v1, V.ref e, .int ln, .int 0]) = G3 at *
    have y4 := Ex.new (o := .lst [V.ref t4]) nT
    have hT4 : upd G3 T (.lst [V.ref t4]) T = some (.lst [V.ref t4]) := upd_same
    have hd4 := (tk_ex y4).dn hd3
    have ht44 := y4 _ _ ht4
    have hT3 : G3 T = none := nT
    generalize upd G3 T (.lst [V.ref t4]) = G at *
    have y24 := y2.trans (y3.trans y4)
    have y14 := y1.trans y24
    have e2G := e23.trans y14
    have nTb : T ≠ b := n2b ((e23.trans (y1.trans (y2.trans y3))).nn hT3)
    have nS2 : H2 S = none := e23.nn nS
    have R0 : Rel ⟨st, [], ln, 0⟩ ⟨st, [], ln, 0⟩ := ⟨rfl, rfl, rfl, by simp [keys], fun _ h => (by cases h), fun k => by simp [cnt_nil], by simp [sumR_nil]⟩
    have W0 : Wf ⟨st, [], ln, 0⟩ := ⟨hps, by unfold Sh.bd; simpa using htot, hsl⟩
    generalize hp0 : (⟨st, [], ln, 0⟩ : PSt) = p0 at *
    have hi0 : PInv p0 := ⟨_, R0, W0⟩
    have hst3 : StV G v1 st := mon_st _ _ _ _ (tk_ex e2G) hst2
    have g0 : Gr K H G b v1 st L dx ls lg [t] [] p0 [] S [] 0 (m + 110) :=
      ⟨c12.trans (Ch.of e2G), ⟨hnl nL (n2b nL), hnl nls2 (n2b nls2), hnl nlg2 (n2b nlg2), hnl nS2 (n2b nS2)⟩, (hb2.ex e2G).mono (by omega), hst3, AL.ex y14, Nat.le_refl _, y24 _ _ hS1, .nil, trivial, ⟨(ne_of_none AL.st nS).symm, (ne_of_none AL.log nS).symm⟩⟩
    have s0v : LStV G (.ref t4) ⟨st, [], ln, 0⟩ := ⟨t4, _, _, rfl, .inl ht44, hst3, ⟨e, [], rfl, hd4, .nil⟩⟩
    refine ⟨24, rfl, by decide, by decide, for_it (walk_range (lo := 0) (n := (24 : Int).toNat)) (fun i σ H' => ∃ (tu wa ac al de : Option V) (S T ls : Addr) (xs gs dls svs : List V) (D : List Deed) (sv : V) (s : LSt), σ = [some (.ref b), some v1, some (.int ln), some (.ref L), some (.ref S), some (.ref T), tu, wa, ac, al, de, none] ∧ Gr K H H' b v1 st L dx ls lg xs gs p0 D S dls (2 * i) (m + 110 + 200 * i) ∧ D.length ≤ 3 * i ∧ H' T = some (.lst svs) ∧ T ≠ b ∧ svs[svs.length - 1]? = some sv ∧ LStV H' sv s ∧ Rel (pafter p0 D) s ∧ Wf s)
      ⟨none, none, none, none, none, S, T, ls, [t], [], [], _, [], .ref t4, _, rfl, g0, by simp, hT4, nTb, rfl, s0v, R0, W0⟩ (fun _ _ _ _ _ => trivial) (fun i x σ H' H'' hi h y => ?_) (fun σ H' h => ?_)⟩
    · obtain ⟨rfl, rfl⟩ := y
      obtain ⟨tu, wa, ac, al, de, S, T, ls, xs, gs, dls, svs, D, sv, s, rfl, g, hD, hTT, nTb, hsv, hs, R, W⟩ := h
      have hi24 : i < 24 := hi
      have hdl := plen g.dds
      refine ⟨_, rfl, b, 4, _, rfl, by decide, by decide, g.box, by omega, fun H2 wy c k hb' w0 w1 => ⟨_, rfl, rfl, _, rfl, ifS_cap (fun σ' H' => ∃ (tu wa ac al de : Option V) (S T ls : Addr) (xs gs dls : List V) (D : List Deed), σ' = [some (.ref b), some v1, some (.int ln), some (.ref L), some (.ref S), some (.ref T), tu, wa, ac, al, de, none] ∧ Gr K H H' b v1 st L dx ls lg xs gs p0 D S dls (2 * i + 2) (m + 110 + 200 * i + 150) ∧ D.length ≤ 3 * i + 3) (fun σ' H' hR => ?_) (fun cc key => ?_) (fun cc key => ?_)⟩⟩
      · obtain ⟨tu, wa, ac, al, de, S, T, ls, xs, gs, dls, D, rfl, g, hD⟩ := hR
        have hdl := plen g.dds
        refine ⟨_, rfl, Nat.zero_le _, fun e o ne ho => ⟨_, rfl, (by show 4 ≤ sizeLine; decide), fun t4 nt4 => ⟨(by show 1 ≤ sizeLine; decide), fun T nT => ?_⟩⟩⟩
        have y2 := Ex.new (o := HO.frz o (.tup [])) ne
        have hd2 : DN (upd H' e (HO.frz o (.tup []))) e [] := DN.new ho
        generalize upd H' e (HO.frz o (.tup [])) = G2 at *
        have y3 := Ex.new (o := .tup [v1, V.ref e, .int ln, .int 0]) nt4
        have ht4 : upd G2 t4 (.tup [v1, V.ref e, .int ln, .int 0]) t4 = some (.tup [v1, V.ref e, .int ln, .int 0]) := upd_same
        have hd3 := (tk_ex y3).dn hd2
        generalize upd G2 t4 (.tup [v1, V.ref e, .int ln, .int 0]) = G3 at *
        have y4 := Ex.new (o := .lst [V.ref t4]) nT
        have hT4 : upd G3 T (.lst [V.ref t4]) T = some (.lst [V.ref t4]) := upd_same
        have hd4 := (tk_ex y4).dn hd3
        have ht44 := y4 _ _ ht4
        have hT3 : G3 T = none := nT
        generalize upd G3 T (.lst [V.ref t4]) = G4 at *
        have g3 := g.ex (y2.trans y3)
        have gG := g3.ex y4
        have nTb : T ≠ b := g3.box.nb hT3
        have nTH : H T = none := g3.hid.nn hT3 (by simpa using nTb)
        have nTS : S ≠ T := ne_of_none g3.std hT3
        have nTL : L ≠ T := ne_of_none g3.lib.ins hT3
        have nTls : ls ≠ T := ne_of_none g3.lib.st hT3
        have nTlg : lg ≠ T := ne_of_none g3.lib.log hT3
        have s0v : LStV G4 (.ref t4) ⟨st, [], ln, 0⟩ := ⟨t4, _, _, rfl, .inl ht44, gG.st, ⟨e, [], rfl, hd4, .nil⟩⟩
        refine ⟨_, rfl, S, rfl, ⟨_, SqL.of gG.std⟩, for_list (K := K) (a := S) (xs := dls) (fun j σ H2 => ∃ de svs sv s, σ = [some (.ref b), some v1, some (.int ln), some (.ref L), some (.ref S), some (.ref T), tu, wa, ac, al, de, none] ∧ Ch [T] G4 H2 ∧ Tk G4 H2 ∧ H2 T = some (.lst svs) ∧ svs.length = j + 1 ∧ svs[svs.length - 1]? = some sv ∧ LStV H2 sv s ∧ Rel (pafter p0 (D.take j)) s ∧ Wf s)
          ⟨de, _, .ref t4, _, rfl, Ch.refl _ _, Tk.refl _, hT4, rfl, rfl, s0v, by rw [List.take_zero]; exact R0, W0⟩ (fun j σ H2 _ h => ?_) (fun j x σ H2 hx h => ?_) (fun σ H2 h => ?_)⟩
        · obtain ⟨_, _, _, _, _, c, _⟩ := h
          exact SqL.of (c _ _ (by simp [nTS]) gG.std)
        · obtain ⟨de, svs, sv, s, rfl, c, k, hTT, hlen, hsv, hs, R, W⟩ := h
          obtain ⟨d, hd, hdv⟩ := pgetL gG.dds hx
          obtain ⟨sm, hfl, hal⟩ := W.sizes
          have hok := takes_step g.tks hd
          obtain ⟨p', hp'⟩ := Option.isSome_iff_exists.mp hok
          have hjl : j < dls.length := (List.getElem?_eq_some_iff.mp hx).1
          refine ⟨_, rfl, .inl ⟨rfl, _, SqL.of hTT⟩, _, rfl, _, rfl, T, svs, -1, sv, rfl, rfl, SqL.of hTT, atI_end hsv, _, rfl, sv, x, s, d, rfl, hs, mon_deed _ _ _ _ k hdv, sm, by omega, fun hn => absurd ((R.ok W d).mp hok) hn, fun s' t H3 r x2 y e3 hr hy => ⟨r, _, 1, y, rfl, rfl, rd_sq hr, rfl, T, svs, y, rfl, rfl, e3 _ _ hTT, small' (by omega), ?_⟩⟩
          have k4 : Tk H3 (upd H3 T (.lst (svs ++ [y]))) := tk_upd (e3 _ _ hTT) rfl
          refine ⟨_, _, y, s', rfl, (c.trans (Ch.of e3)).trans (Ch.upd (by simp)), (k.trans (tk_ex e3)).trans k4, upd_same, by rw [List.length_append, hlen]; rfl, by simp, mon_lst _ _ _ _ k4 hy, ?_, W.step t⟩
          rw [after_more hd]
          unfold Sh.pst
          rw [hp']
          exact R.step hp' t
        · obtain ⟨de, svs, sv, s, rfl, c, k, hTT, hlen, hsv, hs, R, W⟩ := h
          rw [hdl, List.take_length] at R
          refine ⟨tu, wa, ac, al, de, S, T, ls, xs, gs, dls, svs, D, sv, s, rfl, (gG.keep (.inr hbs) c k (fun a ha => ?_)).mono (by omega) (by omega), by omega, hTT, nTb, hsv, hs, R, W⟩
          have : a = T := by simpa using ha
          subst this
          exact ⟨nTH, nTL.symm, nTls.symm, nTlg.symm, nTS.symm⟩
      · have g2 := g.bx hbs c k hb'
        have hxl := plen g2.lib.prd
        rw [pscan_len] at hxl
        refine ⟨_, rfl, _, rfl, S, dls, rfl, .inl (SqL.of g2.std), _, rfl, L, dx, _, rfl, g2.lib.ins, lF_m, L, dx, ls, lg, xs, rfl, g2.lib.ins, g2.lib.st, fun h1 => ?_, fun h1 => ?_⟩
        · have hD0 : D = [] := List.length_eq_zero_iff.mp (by omega)
          subst hD0
          have hd0 : dls = [] := List.length_eq_zero_iff.mp hdl
          subst hd0
          refine .inr ⟨false, rfl, _, _, rfl, rfl, _, rfl, S, [], rfl, SqL.of g2.std, fun p np => ?_⟩
          have ecut : ∀ z, cutV ([] : List V) none z = [] := fun z => by unfold cutV; simp
          rw [ecut]
          have e3 := Ex.new (o := .lst []) np
          exact key _ _ ⟨_, _, ac, al, de, p, T, ls, xs, gs, [], [], rfl, ⟨g2.hid.trans (Ch.of e3), ⟨g2.fr.1, g2.fr.2.1, g2.fr.2.2.1, g2.hid.nn np (by simpa using g2.box.nb np)⟩, (g2.box.ex e3).mono (by omega), mon_st _ _ _ _ (tk_ex e3) g2.st, g2.lib.ex e3, by have := g2.gl; omega, upd_same, .nil, trivial, (ne_of_none g2.lib.st np).symm, (ne_of_none g2.lib.log np).symm⟩, by simp⟩
        · rcases List.eq_nil_or_concat D with hD0 | ⟨D2, d, hD2⟩
          · subst hD0
            simp at hxl
            omega
          · rw [List.concat_eq_append] at hD2
            subst hD2
            rw [List.length_append] at hdl hD
            have hdl' : dls.length = D2.length + 1 := hdl
            have hlib := g2.lib
            have k3 : Tk H2 (upd H2 ls (.lst xs.dropLast)) := tk_upd hlib.st rfl
            have hS3 : upd H2 ls (.lst xs.dropLast) S = some (.lst dls) := by rw [upd_ne g2.neS.1]; exact g2.std
            have hprd : Paired (PStV (upd H2 ls (.lst xs.dropLast))) xs.dropLast (pscan p0 D2) := by
              rw [← pscan_dropLast D2 p0 d]
              exact pdropLast (pmono mon_pst k3 hlib.prd)
            have lib3 : LibAt K (upd H2 ls (.lst xs.dropLast)) L dx ls lg xs.dropLast (pscan p0 D2) gs := ⟨by rw [upd_ne hlib.neL.1]; exact hlib.ins, upd_same, hprd, by rw [upd_ne hlib.ne.symm]; exact hlib.log, hlib.ne⟩
            have c3 : Ch [ls] H2 (upd H2 ls (.lst xs.dropLast)) := Ch.upd (by simp)
            generalize upd H2 ls (.lst xs.dropLast) = G3 at *
            refine .inr ⟨true, rfl, _, _, rfl, rfl, _, rfl, S, dls, rfl, SqL.of hS3, fun p np => ?_⟩
            have ecut : cutV dls none (some (((dls.length : Nat) : Int) - (if true = true then 1 else 0))) = dls.take D2.length := by
              have : ((dls.length : Nat) : Int) - (if true = true then 1 else 0) = ((D2.length : Nat) : Int) := by rw [if_pos rfl]; omega
              rw [this, cut_to]
            rw [ecut]
            have e3 := Ex.new (o := .lst (dls.take D2.length)) np
            have hpd : Paired (DeedV (upd G3 p (.lst (dls.take D2.length)))) (dls.take D2.length) D2 := by
              have h2 := ptake D2.length (pmono mon_deed (k3.trans (tk_ex e3)) g2.dds)
              rw [List.take_left] at h2
              exact h2
            have hid3 := g2.hid.hide c3 (fun a ha => .inl (by have : a = ls := by simpa using ha
                                                              rw [this]; exact g2.fr.2.1))
            have nlsb := nbf g2.fr.2.1
            have box3 := g2.box.ch c3 (by simp [Ne.symm nlsb])
            exact key _ _ ⟨_, _, ac, al, de, p, T, ls, xs.dropLast, gs, _, D2, rfl, ⟨hid3.trans (Ch.of e3), ⟨g2.fr.1, g2.fr.2.1, g2.fr.2.2.1, hid3.nn np (by simpa using box3.nb np)⟩, (box3.ex e3).mono (by omega), mon_st _ _ _ _ (k3.trans (tk_ex e3)) g2.st, lib3.ex e3, by have := g2.gl; omega, upd_same, hpd, ((takes_append _ _ _).mp g2.tks).1, (ne_of_none lib3.st np).symm, (ne_of_none lib3.log np).symm⟩, by omega⟩
      · have g2 := g.bx hbs c k hb'
        have hT2 := c _ _ (by simpa using nTb) hTT
        have hs2 := mon_lst _ _ _ _ k hs
        refine ⟨_, rfl, _, rfl, _, rfl, T, svs, -1, sv, rfl, rfl, SqL.of hT2, atI_end hsv, b, sv, s, _, rfl, hs2, W, g2.box, by omega, fun H3 A ads ds B nA hA hds hdsl => ⟨_, rfl, rfl, _, _, rfl, ?_⟩⟩
        have g3 := g2.bx hbs B.ch B.tk B.box
        refine ⟨_, rfl, rfl, _, rfl, ifE_cap (fun v H' => ∃ A2 ads2 ds2, v = .ref A2 ∧ Ex H3 H' ∧ H' A2 = some (.lst ads2) ∧ Paired (DeedV H') ads2 ds2 ∧ ds2.length ≤ 3 ∧ A2 ≠ ls ∧ A2 ≠ lg ∧ A2 ≠ L) (fun v H' hR => ?_) (fun cc key2 => ?_) (fun cc key2 => ?_)⟩
        · obtain ⟨A2, ads2, ds2, rfl, e4, hA2, hds2, hds2l, n1, n2, n3⟩ := hR
          have g4 := g3.ex e4
          have hgl := g4.gl
          refine ⟨_, rfl, _, rfl, _, rfl, _, rfl, _, rfl, L, dx, ls, lg, A2, xs, ads2, gs, p0, D, ds2, _, rfl, g4.lib, hA2, hds2, n1, n2, hi0, by omega, by omega, fun H5 R5 => ?_⟩
          have hA5 := R5.ch _ _ (by simp [n1, n2, n3]) hA2
          have hS5 := R5.ch _ _ (by simp [g4.neS, Ne.symm g4.neLS]) g4.std
          have hrl := rowM_le (pafter p0 D) ds2 (decide (V.int wy = V.int 1))
          have htk := takes_rowM (pafter p0 D) ds2 (decide (V.int wy = V.int 1))
          generalize rowM (pafter p0 D) ds2 (decide (V.int wy = V.int 1)) = mm at *
          refine ⟨_, rfl, A2, ads2, rfl, SqL.of hA5, fun p np => ?_⟩
          rw [cut_to]
          have y1 := Ex.new (o := .lst (ads2.take mm)) np
          have hp1 : upd H5 p (.lst (ads2.take mm)) p = some (.lst (ads2.take mm)) := upd_same
          have hS6 := y1 _ _ hS5
          generalize upd H5 p (.lst (ads2.take mm)) = G6 at *
          have hal := plen hds2
          refine ⟨S, p, dls, _, rfl, rfl, hS6, hp1, small (by rw [List.length_take]; omega), fun S' nS' => ?_⟩
          have y2 := Ex.new (o := .lst (dls ++ ads2.take mm)) nS'
          have hS' : upd G6 S' (.lst (dls ++ ads2.take mm)) S' = some (.lst (dls ++ ads2.take mm)) := upd_same
          have nS6 : G6 S' = none := nS'
          generalize upd G6 S' (.lst (dls ++ ads2.take mm)) = G7 at *
          have y12 := y1.trans y2
          have k57 := R5.tk.trans (tk_ex y12)
          obtain ⟨ls', xs', gs', t', hls', hlib', hgl', _, _⟩ := R5.lib
          have hid5 : Ch [b] H H5 := g4.hid.hide R5.ch fun a ha => .inl (by
            have h3 : a = L ∨ a = ls ∨ a = lg := by simpa using ha
            rcases h3 with h | h | h
            · rw [h]; exact g4.fr.1
            · rw [h]; exact g4.fr.2.1
            · rw [h]; exact g4.fr.2.2.1)
          have nLb := nbf g4.fr.1
          have nlsb := nbf g4.fr.2.1
          have nlgb := nbf g4.fr.2.2.1
          have box5 := g4.box.ch R5.ch (by simp [Ne.symm nLb, Ne.symm nlsb, Ne.symm nlgb])
          have hlsH : H ls' = none := by
            rcases hls' with h | h
            · rw [h]; exact g4.fr.2.1
            · have nb' : ls' ≠ b := g4.box.nb h
              exact g4.hid.nn h (by simpa using nb')
          have hS6H : H S' = none := by
            have h5 : H5 S' = none := y1.nn nS6
            have nb' : S' ≠ b := box5.nb h5
            exact hid5.nn h5 (by simpa using nb')
          have hlib6 := hlib'.ex y1
          exact key _ _ ⟨_, _, _, _, de, S', T, ls', xs', gs', _, D ++ ds2.take mm, rfl, ⟨hid5.trans (Ch.of y12), ⟨g4.fr.1, hlsH, g4.fr.2.2.1, hS6H⟩, (box5.ex y12).mono (by omega), mon_st _ _ _ _ k57 g4.st, hlib'.ex y12, by omega, hS', papp (pmono mon_deed k57 g4.dds) (ptake _ (pmono mon_deed k57 hds2)), (takes_append _ _ _).mpr ⟨g4.tks, htk⟩, (ne_of_none hlib6.st nS6).symm, (ne_of_none hlib6.log nS6).symm⟩, by rw [List.length_append, List.length_take]; omega⟩
        · refine ⟨_, rfl, _, rfl, A, ads, rfl, SqL.of hA, fun p np => ?_⟩
          have e4 := Ex.new (o := .lst (cutV ads none (some 1))) np
          have ecut : cutV ads none (some 1) = ads.take 1 := cut_to ads 1
          refine key2 _ _ ⟨p, _, ds.take 1, rfl, e4, by rw [upd_same, ecut], ptake _ (pmono mon_deed (tk_ex e4) hds), by rw [List.length_take]; omega, ?_, ?_, ?_⟩
          · exact (ne_of_none g3.lib.st np).symm
          · exact (ne_of_none g3.lib.log np).symm
          · exact (ne_of_none g3.lib.ins np).symm
        · exact ⟨_, rfl, key2 _ _ ⟨A, ads, ds, rfl, Ex.refl _, hA, hds, hdsl, (ne_of_none g2.lib.st nA).symm, (ne_of_none g2.lib.log nA).symm, (ne_of_none g2.lib.ins nA).symm⟩⟩
    · obtain ⟨tu, wa, ac, al, de, S, T, ls, xs, gs, dls, svs, D, sv, s, rfl, g, hD, hTT, nTb, hsv, hs, R, W⟩ := h
      have e24 : (24 : Int).toNat = 24 := rfl
      rw [e24] at hD g
      have hdl := plen g.dds
      refine ⟨_, rfl, _, rfl, fun x2 dx2 nx2 ndx2 ne2 => ⟨x2, dx2, v1, st, ln, rfl, upd_same, mon_st _ _ _ _ (tk_ex ((Ex.new ndx2).mut nx2)) g.st, fun H7 ls2 lg2 t2 cL2 kL2 AL2 nls2' nlg2' => ⟨rfl, ?_⟩⟩⟩
      have e2x : Ex H' (upd (upd H' dx2 (.own x2)) x2 (.ins (LC K) dx2 [])) := (Ex.new ndx2).mut nx2
      have e7 : Ex H' H7 := lib_ex e2x nx2 cL2
      have g7 := g.ex e7
      have nl2 : H' ls2 = none := e2x.nn nls2'
      have ng2 : H' lg2 = none := e2x.nn nlg2'
      have AL2 : LibAt K H7 x2 dx2 ls2 lg2 [t2] (pscan p0 []) [] := by rw [hp0] at AL2; exact AL2
      have hfr : ∀ {a : Addr}, H' a = none → a ≠ b ∧ H a = none ∧ a ≠ L ∧ a ≠ ls ∧ a ≠ lg ∧ a ≠ S ∧ a ≠ T := fun {a} h => by
        have h1 := g.box.nb h
        exact ⟨h1, g.hid.nn h (by simpa using h1), (ne_of_none g.lib.ins h).symm, (ne_of_none g.lib.st h).symm, (ne_of_none g.lib.log h).symm, (ne_of_none g.std h).symm, (ne_of_none hTT h).symm⟩
      obtain ⟨f1, f2, f3, f4, f5, f6, f7⟩ := hfr nl2
      obtain ⟨u1, u2, u3, u4, u5, u6, u7⟩ := hfr nx2
      obtain ⟨z1, z2, z3, z4, z5, z6, z7⟩ := hfr ng2
      refine ⟨_, rfl, S, rfl, ⟨_, SqL.of g7.std⟩, for_list (K := K) (a := S) (xs := dls) (fun j σ H2 => ∃ de xs2, σ = [some (.ref b), some v1, some (.int ln), some (.ref L), some (.ref S), some (.ref T), tu, wa, ac, al, de, some (.ref x2)] ∧ Ch [ls2] H7 H2 ∧ Tk H7 H2 ∧ LibAt K H2 x2 dx2 ls2 lg2 xs2 (pscan p0 (D.take j)) [])
        ⟨de, [t2], rfl, Ch.refl _ _, Tk.refl _, by rw [List.take_zero]; exact AL2⟩ (fun j σ H2 _ h => ?_) (fun j x σ H2 hx h => ?_) (fun σ H2 h => ?_)⟩
      · obtain ⟨_, _, _, c, _⟩ := h
        exact SqL.of (c _ _ (by simp [Ne.symm f6]) g7.std)
      · obtain ⟨de, xs2, rfl, c, k, A2⟩ := h
        obtain ⟨d, hd, hdv⟩ := pgetL g7.dds hx
        have hok := takes_step g.tks hd
        obtain ⟨p', hp'⟩ := Option.isSome_iff_exists.mp hok
        obtain ⟨v, C⟩ := A2.cur (pscan_cur p0 (D.take j))
        have hxl := plen A2.prd
        rw [pscan_len, List.length_take] at hxl
        refine ⟨_, rfl, _, rfl, x2, dx2, ls2, lg2, xs2, v, _, p', d, x, rfl, mon_deed _ _ _ _ k hdv, C, by omega, PInv.after _ hi0, hp', fun H3 u w c3 k3 h3 r3 => ?_⟩
        have n1 := A2.neL.1
        refine ⟨_, _, rfl, c.trans c3, k.trans k3, c3 _ _ (by simp [n1]) A2.ins, h3, ?_, c3 _ _ (by simp [A2.ne.symm]) A2.log, A2.ne⟩
        rw [take_more hd, pscan_snoc]
        refine psnoc (pmono mon_pst k3 A2.prd) ?_
        unfold Sh.pst
        rw [hp']
        exact r3
      · obtain ⟨de, xs2, rfl, c, k, A2⟩ := h
        rw [hdl, List.take_length] at A2
        have g8 := g7.keep (.inr hbs) c k (fun a ha => by
          have : a = ls2 := by simpa using ha
          subst this
          exact ⟨f2, f3, f4, f5, f6⟩)
        have hT8 := c _ _ (by simp [Ne.symm f7]) (e7 _ _ hTT)
        have hs8 := mon_lst _ _ _ _ ((tk_ex e7).trans k) hs
        obtain ⟨vL, C1⟩ := g8.lib.cur (pscan_cur p0 D)
        obtain ⟨vX, C2⟩ := A2.cur (pscan_cur p0 D)
        have hpi := PInv.after D hi0
        have hxl := plen g8.lib.prd
        have hxl2 := plen A2.prd
        rw [pscan_len] at hxl hxl2
        have hxx : xs2.length = xs.length := by omega
        have hdeq : ((xs.length : Nat) : Int) - 1 = ((dls.length : Nat) : Int) := by omega
        refine ⟨_, rfl, _, rfl, x2, L, dx2, dx, _, _, rfl, rfl, A2.ins, g8.lib.ins, ⟨dx2, ls2, lg2, dx, ls, lg, xs2, xs, vX, vL, _, C2, C1⟩, fun H3 e3 => ⟨_, rfl, if_f rfl ?_⟩⟩
        have e3 : Ex H2 H3 := e3
        refine ⟨_, rfl, L, dx, ls, lg, xs, vL, _, rfl, C1.ex e3, hpi, fun H4 t1 e4 nt1 told1 => ⟨_, rfl, x2, dx2, ls2, lg2, xs2, vX, _, rfl, C2.ex (e3.trans e4), hpi, fun H5 t3 e5 nt3 told2 => ?_⟩⟩
        rw [hxx] at told2
        refine ⟨.ref t1, .ref t3, rfl, al_told hpi (told1.ex e5) told2, fun H6 e6 => ⟨_, rfl, if_f rfl ?_⟩⟩
        have e26 := e3.trans (e4.trans (e5.trans e6))
        have g9 := g8.ex e26
        have A3 := A2.ex e26
        refine ⟨_, rfl, L, dx, _, rfl, g9.lib.ins, lF_m, L, dx, ls, lg, xs, rfl, g9.lib.ins, g9.lib.st, _, rfl, S, dls, rfl, .inl (SqL.of g9.std), rfl, _, rfl, ?_⟩
        rw [hdeq]
        refine if_f (by simp) ?_
        have hT9 := e26 _ _ hT8
        have hs9 := mon_lst _ _ _ _ (tk_ex e26) hs8
        refine ⟨_, rfl, _, rfl, _, rfl, T, svs, -1, sv, rfl, rfl, SqL.of hT9, atI_end hsv, b, sv, s, _, rfl, hs9, W, g9.box, by omega, fun H7' A ads ds B nA hA hds hdsl => ?_⟩
        have g10 := g9.bx hbs B.ch B.tk B.box
        have A4 := A3.keep (ex := [b]) B.ch B.tk (by simpa using u1) (by simpa using f1) (by simpa using z1)
        have nAL : A ≠ L := (ne_of_none g9.lib.ins nA).symm
        have nAls : A ≠ ls := (ne_of_none g9.lib.st nA).symm
        have nAlg : A ≠ lg := (ne_of_none g9.lib.log nA).symm
        have nAls2 : A ≠ ls2 := (ne_of_none A3.st nA).symm
        have nAlg2 : A ≠ lg2 := (ne_of_none A3.log nA).symm
        have hgl := g10.gl
        refine ⟨_, rfl, _, rfl, L, dx, ls, lg, A, xs, ads, gs, p0, D, ds, false, rfl, g10.lib, hA, hds, nAls, nAlg, hi0, by omega, by omega, fun H8 R8 => ?_⟩
        have A5 := A4.keep (ex := [L, ls, lg]) R8.ch R8.tk (by simp [u3, u4, u5]) (by simp [f3, f4, f5]) (by simp [z3, z4, z5])
        refine ⟨_, rfl, _, rfl, x2, dx2, ls2, lg2, A, xs2, ads, [], p0, D, ds, false, rfl, A5, R8.ch _ _ (by simp [nAL, nAls, nAlg]) hA, pmono mon_deed R8.tk hds, nAls2, nAlg2, hi0, by omega, by simp, fun H9 R9 => ⟨rfl, _, rfl, if_f (by simp) ?_⟩⟩
        have htk : Sh.Takes p0 (D ++ ds.take (rowM (pafter p0 D) ds false)) := (takes_append _ _ _).mpr ⟨g10.tks, takes_rowM _ _ _⟩
        have hln9 : (D ++ ds.take (rowM (pafter p0 D) ds false)).length ≤ 900 := by rw [List.length_append, List.length_take]; omega
        obtain ⟨ls', xs', gs', t', hls', hlib', hgl', _, _⟩ := R8.lib
        obtain ⟨ls2', xs2', gs2', t2', hls2', hlib2', hgl2', _, _⟩ := R9.lib
        generalize D ++ ds.take (rowM (pafter p0 D) ds false) = D9 at *
        have m1 : ls' ≠ x2 ∧ ls' ≠ ls2 ∧ ls' ≠ lg2 := by
          rcases hls' with h | h
          · rw [h]; exact ⟨u4.symm, f4.symm, z4.symm⟩
          · exact ⟨(ne_of_none A4.ins h).symm, (ne_of_none A4.st h).symm, (ne_of_none A4.log h).symm⟩
        have m2 : ls2' ≠ L ∧ ls2' ≠ ls' ∧ ls2' ≠ lg := by
          rcases hls2' with h | h
          · rw [h]; exact ⟨f3, m1.2.1.symm, f5⟩
          · exact ⟨(ne_of_none hlib'.ins h).symm, (ne_of_none hlib'.st h).symm, (ne_of_none hlib'.log h).symm⟩
        have A8 := hlib'.keep (ex := [x2, ls2, lg2]) R9.ch R9.tk (by simp [Ne.symm u3, Ne.symm f3, Ne.symm z3]) (by simp [m1]) (by simp [Ne.symm u5, Ne.symm f5, Ne.symm z5])
        have fr := g10.fr
        have hid8 := g10.hid.hide R8.ch fun a ha => .inl (by
          have h3 : a = L ∨ a = ls ∨ a = lg := by simpa using ha
          rcases h3 with h | h | h
          · rw [h]; exact fr.1
          · rw [h]; exact fr.2.1
          · rw [h]; exact fr.2.2.1)
        have hid9 := hid8.hide R9.ch fun a ha => .inl (by
          have h3 : a = x2 ∨ a = ls2 ∨ a = lg2 := by simpa using ha
          rcases h3 with h | h | h
          · rw [h]; exact u2
          · rw [h]; exact f2
          · rw [h]; exact z2)
        have box8 := g10.box.ch R8.ch (by simp [Ne.symm (nbf fr.1), Ne.symm (nbf fr.2.1), Ne.symm (nbf fr.2.2.1)])
        have hlsH : H ls' = none := by
          rcases hls' with h | h
          · rw [h]; exact fr.2.1
          · exact g10.hid.nn h (by simpa using g10.box.nb h)
        have hlsH2 : H ls2' = none := by
          rcases hls2' with h | h
          · rw [h]; exact f2
          · exact hid8.nn h (by simpa using box8.nb h)
        have hst9 := mon_st _ _ _ _ (R8.tk.trans R9.tk) g10.st
        obtain ⟨vL, C1⟩ := A8.cur (pscan_cur p0 D9)
        obtain ⟨vX, C2⟩ := hlib2'.cur (pscan_cur p0 D9)
        have hpi := PInv.after D9 hi0
        have hxl := plen A8.prd
        have hxl2 := plen hlib2'.prd
        rw [pscan_len] at hxl hxl2
        have hxx : xs2'.length = xs'.length := by omega
        refine ⟨_, rfl, L, dx, ls', lg, xs', vL, _, rfl, C1, hpi, fun H4 t1 e4 nt1 told1 => ⟨_, rfl, x2, dx2, ls2', lg2, xs2', vX, _, rfl, C2.ex e4, hpi, fun H5 t3 e5 nt3 told2 => ?_⟩⟩
        rw [hxx] at told2
        refine ⟨.ref t1, .ref t3, rfl, al_told hpi (told1.ex e5) told2, fun H6 e6 => ⟨_, rfl, if_f rfl ?_⟩⟩
        have e96 := e4.trans (e5.trans e6)
        have A10 := A8.ex e96
        have B10 := hlib2'.ex e96
        have hst10 := mon_st _ _ _ _ (tk_ex e96) hst9
        have hid10 := hid9.trans (Ch.of e96)
        refine ⟨WL K L dx ls' lg x2 dx2 ls2' lg2 p0 gs' gs2' _ H6, ⟨_, D9, xs', xs2', rfl, rfl, Ch.refl _ _, Tk.refl _, A10, B10⟩, fun n σ H' w => ?_⟩
        obtain ⟨D, xs, xs2, rfl, rfl, c, k, A, B⟩ := w
        have hxl := plen A.prd
        have hxl2 := plen B.prd
        rw [pscan_len] at hxl hxl2
        refine ⟨_, rfl, L, dx, _, rfl, A.ins, lF_m, L, dx, ls', lg, xs, rfl, A.ins, A.st, fun h1 => ⟨_, rfl, if_f rfl ?_⟩, fun h1 => ⟨_, rfl, if_t rfl ⟨fun σ' H' => ∃ m', m' < D.length ∧ WL K L dx ls' lg x2 dx2 ls2' lg2 p0 gs' gs2' _ H6 m' σ' H', fun _ _ h => h, ?_⟩⟩⟩
        · have hD0 : D = [] := List.length_eq_zero_iff.mp (by omega)
          subst hD0
          have hst11 := mon_st _ _ _ _ k hst10
          have hid11 := hid10.hide c fun a ha => .inl (by
            have h3 : a = ls' ∨ a = ls2' := by simpa using ha
            rcases h3 with h | h
            · rw [h]; exact hlsH
            · rw [h]; exact hlsH2)
          refine ⟨_, rfl, _, rfl, _, rfl, fun x3 dx3 nx3 ndx3 ne3 => ⟨x3, dx3, v1, st, ln, rfl, upd_same, mon_st _ _ _ _ (tk_ex ((Ex.new ndx3).mut nx3)) hst11, fun H7 ls3 lg3 t4 cL3 kL3 AL3 nls3 nlg3 => ⟨rfl, ?_⟩⟩⟩
          have e7 : Ex H' H7 := lib_ex ((Ex.new ndx3).mut nx3) nx3 cL3
          have AL3 : LibAt K H7 x3 dx3 ls3 lg3 [t4] (pscan p0 []) [] := by rw [hp0] at AL3; exact AL3
          have A7 := A.ex e7
          have B7 := B.ex e7
          obtain ⟨w1, D1'⟩ := A7.cur (pscan_cur p0 [])
          obtain ⟨w2, D2'⟩ := AL3.cur (pscan_cur p0 [])
          obtain ⟨w3, D3'⟩ := B7.cur (pscan_cur p0 [])
          refine ⟨⟨L, x3, dx, dx3, _, _, rfl, rfl, A7.ins, AL3.ins, ⟨dx, ls', lg, dx3, ls3, lg3, xs, [t4], w1, w2, _, D1', D2'⟩⟩, fun H8 e8 => ⟨_, rfl, if_t rfl ?_⟩⟩
          have e8 : Ex H7 H8 := e8
          have hpi0 := PInv.after [] hi0
          refine ⟨_, rfl, L, dx, ls', lg, xs, w1, _, rfl, D1'.ex e8, hpi0, fun H9 t5 e9 nt5 told5 => ⟨_, rfl, x2, dx2, ls2', lg2, xs2, w3, _, rfl, D3'.ex (e8.trans e9), hpi0, fun H10 t6 e10 nt6 told6 => ?_⟩⟩
          have hxx2 : xs2.length = xs.length := by omega
          rw [hxx2] at told6
          refine ⟨.ref t5, .ref t6, rfl, al_told hpi0 (told5.ex e10) told6, fun H11 e11 => ⟨_, rfl, if_t rfl ?_⟩⟩
          have e711 := e8.trans (e9.trans (e10.trans e11))
          have A11 := A7.ex e711
          have B11 := B7.ex e711
          refine ⟨_, rfl, _, rfl, ⟨x2, L, dx2, dx, _, _, rfl, rfl, B11.ins, A11.ins, ⟨dx2, ls2', lg2, dx, ls', lg, xs2, xs, w3, w1, _, D3'.ex e711, D1'.ex e711⟩⟩, fun H12 e12 => ?_⟩
          have e12 : Ex H11 H12 := e12
          exact q _ (hid11.trans (Ch.of (e7.trans (e711.trans e12))))
        · rcases List.eq_nil_or_concat D with hD0 | ⟨D2, d, hD2⟩
          · subst hD0
            simp at hxl
            omega
          · rw [List.concat_eq_append] at hD2
            subst hD2
            rw [List.length_append] at hxl hxl2
            have A3' := undo_lib A
            have k3 : Tk H' (upd H' ls' (.lst xs.dropLast)) := tk_upd A.st rfl
            have c3 : Ch [ls'] H' (upd H' ls' (.lst xs.dropLast)) := Ch.upd (by simp)
            have B3' := B.keep c3 k3 (by simp [Ne.symm m1.1]) (by simp [m2.2.1]) (by simp [Ne.symm m1.2.2])
            generalize upd H' ls' (.lst xs.dropLast) = G3' at *
            refine ⟨_, rfl, x2, dx2, _, rfl, B3'.ins, lF_m, x2, dx2, ls2', lg2, xs2, rfl, B3'.ins, B3'.st, fun h2 => ?_, fun h2 => ?_⟩
            · simp at hxl2
              omega
            · have B4' := undo_lib B3'
              have k4 : Tk G3' (upd G3' ls2' (.lst xs2.dropLast)) := tk_upd B3'.st rfl
              have c4 : Ch [ls2'] G3' (upd G3' ls2' (.lst xs2.dropLast)) := Ch.upd (by simp)
              have A4' := A3'.keep c4 k4 (by simp [Ne.symm m2.1]) (by simp [Ne.symm m2.2.1]) (by simp [Ne.symm m2.2.2])
              exact ⟨D2.length, by rw [List.length_append]; simp, D2, _, _, rfl, rfl, (c.trans (c3.sub (by simp))).trans (c4.sub (by simp)), (k.trans k3).trans k4, A4', B4'⟩
end
end Sh
/-! The law. -/
namespace Sh
open PySem PySem.Spec PyProof.Rows L2
abbrev scLaw_N : List Str := ["_law_script", "_law_k", "_law_box_here", "_law_turn"]
abbrev scLaw_P : List Str := ["_law_script"]
abbrev scLaw_S : Scope := defScope lLaw
theorem scLaw : FnScope scLaw_N scLaw_P (defScope lLaw) := ⟨rfl, rfl, rfl, by decide +kernel, rfl, by decide +kernel, by decide +kernel⟩
def spLaw (K : PySem.W.Frag) : Sp := fun vs H Q _ => ∃ (a : Addr) (ns : List Int), vs = [.ref a] ∧ SqL K H a (ns.map V.int) ∧ ∀ H', Q (.bl true) H'
section
variable {P : Program} {w : World} {K : PySem.W.Frag} {mg : Str → Option Value} {base : Heap}
theorem ok_law (hT : Txt w K mg) {fd : FuncData} (F : FunD K (gD "law" lLaw).name (gD "law" lLaw).qual (gD "law" lLaw).params (gD "law" lLaw).body (gD "law" lLaw).scope ((gD "law" lLaw).dvs K) ((gD "law" lLaw).kws K) (He.fAd K (gD "law" lLaw).at_) fd) : FnOk P w K mg base CX0 9 (He.ga K "law") fd scLaw_P (spLaw K) := by
  have d__law_box := d__law_box (P := P) (base := base) hT
  have d__law_right := d__law_right (P := P) (base := base) hT
  refine FunD.ok F scLaw (fun vs H Q E h => by obtain ⟨a, ns, rfl, _⟩ := h; rfl) fun cdv A outer s H vs Q E hr h => ?_
  refine' ⟨_, PSs.nox ?walk, ?read⟩
  case walk => exact (
    (pss_cons (ps_for PassesOwn.never rfl (pi_range1 (by rfl) (hT.free "range" (by decide +kernel)) (pa_cons (pe_op op_add pe_int (pe_callB (call_min2 rfl) (by rfl) (hT.free "min" (by decide +kernel)) (by decide +kernel) (pa_cons pe_int (pa_cons (pe_callB call_len_seq (by rfl) (hT.free "len" (by decide +kernel)) boot_len (pa_cons (pv 0) pa_nil)) pa_nil)))) pa_nil)) (pg_name (i := 1) scLaw.nd rfl (Or.inl rfl))
    (pss_cons (ps_set (i := 2) scLaw.nd rfl (Or.inr rfl) (pe_fn d__law_box hr (pa_cons (pv 0) (pa_cons (pv 1) pa_nil))))
    (pss_one (ps_if (pt_not (pt_val (pe_callB (cr_all rfl) (by rfl) (hT.free "all" (by decide +kernel)) (by decide +kernel) (pa_cons (pe_lc (own := [("_law_turn", 3)]) rfl scLaw.nd (pi_range1 (by rfl) (hT.free "range" (by decide +kernel)) (pa_cons pe_int pa_nil)) (blkOk_by (N := scLaw_N) (sc := scLaw_S) (by decide +kernel)) (fun _ _ _ _ _ => (pg_name (i := 3) scLaw.nd rfl (Or.inl rfl))) (fun _ _ _ _ _ => pts_nil) (fun _ _ _ _ _ => (pe_fn d__law_right hr (pa_cons (pv 2) pa_nil)))) pa_nil))))
    (pss_one (ps_ret pe_bl))
    pss_nil))))
    (pss_one (ps_ret pe_bl)))
    )
  case read =>
    obtain ⟨a, ns, rfl, hs, q⟩ := h
    have hn : (if ((ns.map V.int).length : Int) < 2 then ((ns.map V.int).length : Int) else 2) ≤ 2 ∧ 0 ≤ (if ((ns.map V.int).length : Int) < 2 then ((ns.map V.int).length : Int) else 2) := by split <;> omega
    refine ⟨_, rfl, a, _, rfl, .inl hs, _, _, rfl, _, _, rfl, rfl, ?_⟩
    generalize (if ((ns.map V.int).length : Int) < 2 then ((ns.map V.int).length : Int) else 2) = mn at *
    refine ⟨_, rfl, by omega, by omega, for_it (walk_range (lo := 0) (n := (1 + mn).toNat)) (fun i σ H' => ∃ k bx, σ = [some (.ref a), k, bx, none] ∧ Ex H H') ⟨none, none, rfl, Ex.refl H⟩ (fun _ _ _ _ _ => trivial) (fun i x σ H' H'' hi h y => ?_) (fun σ H' h => ?_)⟩
    · obtain ⟨rfl, rfl⟩ := y
      obtain ⟨k, bx, rfl, ex⟩ := h
      have hi3 : i ≤ 3 := by omega
      refine ⟨_, rfl, _, rfl, a, _, ns, i, (by show [V.ref a, V.int (0 + (i : Int))] = [V.ref a, V.int (i : Int)]; rw [Int.zero_add]), ex.sq hs, rfl, by omega, fun H1 b nb e1 hb => ?_⟩
      refine ⟨1, rfl, by decide, by decide, fun D nD => ?_⟩
      have nDb := hb.nb nD
      refine loop_walk (walk_range (lo := 0) (n := (1 : Int).toNat)) (fun j H2 => Ch [b] H1 H2 ∧ H2 D = some (.lst ((List.replicate j true).map V.bl)) ∧ (j = 0 → BoxAt H2 b 0)) ⟨Ch.of (Ex.new nD), upd_same, fun _ => hb.ex (Ex.new nD)⟩ (fun _ _ _ _ => trivial) (fun j x H2 H3 hj h y => ?_) (fun H2 h => ?_)
      · obtain ⟨rfl, rfl⟩ := y
        obtain ⟨c, hD, hbx⟩ := h
        have hj0 : j = 0 := by
          have : j < 1 := hj
          omega
        subst hj0
        refine ⟨rfl, _, rfl, b, 0, rfl, hbx rfl, by decide, fun H4 c4 => ⟨_, c4 _ _ (by simp [nDb]) hD, small' (by simp), (c.trans c4).mut nD, upd_same, fun z => by cases z⟩⟩
      · obtain ⟨c, hD, _⟩ := h
        refine ⟨D, _, rfl, SqL.of hD, _, rfl, if_f rfl ⟨_, _, rfl, ?_⟩⟩
        intro p o hpo
        have h1 := e1 _ _ (ex _ _ hpo)
        refine c _ _ ?_ h1
        have : p ≠ b := fun z => by
          have h2 := ex _ _ hpo
          rw [z, nb] at h2
          cases h2
        simp [this]
    · exact q _
end
end Sh
/-! The claim. -/
open PySem PySem.W PySem.Calls PyProof.Rows
theorem PySem.Challenge.cw_shelflikes_k76_whole_a_library_made_anew_holds : PySem.Challenge.rw_shelflikes_k76_whole_a_library_made_anew.Holds := by
  w_on; o_law
  refine HandSHeadRun.head_any (r := OpenLaw.row PySem.Challenge.rw_shelflikes_k76_whole_a_library_made_anew) (q := view (OpenLaw.row PySem.Challenge.rw_shelflikes_k76_whole_a_library_made_anew).prog [48]) (H := Sh.hk) (ob := Sh.ob) (M := 6000) (loose := Sh.loose) (d := HandSHeadRun.topDef (OpenLaw.row PySem.Challenge.rw_shelflikes_k76_whole_a_library_made_anew).prog 48) (kwd := []) Sh.ob_eq
    (by kernel_rfl) (fun s => by kernel_rfl) Sh.run (by kernel_rfl) (by kernel_rfl) (by kernel_rfl) (by rfl) (by first | assumption | decide +kernel) (by decide +kernel) ⟨rfl, rfl, rfl, rfl, rfl, by decide +kernel⟩ ?hw ?hc
  case hw => w_witness2
  case hc =>
    refine L2.walk_ofE (l := PySem.Challenge.rw_shelflikes_k76_whole_a_library_made_anew) (n := 63) (k := 9) (x := "_law_script") (CX := L2.CX0) rfl (by decide) (by kernel_rfl) ⟨rfl, by decide, by decide⟩ ?F (fun _ _ _ _ z => z)
    intro w mg fa h Y G hmg0
    obtain ⟨K, KX, c⟩ := Y
    have hmg : mg ("law" : PySem.Str) = some (.ref fa) := by
      have e : (HandSHeadRun.topDef (OpenLaw.row PySem.Challenge.rw_shelflikes_k76_whole_a_library_made_anew).prog 48).name = ("law" : PySem.Str) := by kernel_rfl
      rw [← e]
      exact hmg0
    have hT := Sh.txt_of c KX G
    have e := hmg.symm.trans (hT.glo "law" (by decide +kernel))
    cases e
    obtain ⟨fd, F⟩ := hT.def_ (Sh.gD "law" Sh.lLaw) (by simp [Sh.fn])
    have b := L2.FunD.bindsA (ps := ["_law_script"]) F fun _ _ _ _ _ _ us hl => match us, hl with | [_], _ => rfl
    exact ⟨K, fd, Sh.spLaw K, KX, fun s v => b s [v] rfl, fun H a ns hl _ hS => ⟨a, ns, rfl, hS, fun _ => rfl⟩, fun base _ _ => Sh.ok_law hT F⟩

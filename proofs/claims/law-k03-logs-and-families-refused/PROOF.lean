import PyProof.Rows.All
import Wide.All
import OpenK.AllK
import Wide.FinOn
import KE.SortData
import HandS.SetKeys
import HandS.Strs
import HandS.TupSets
import HandS.ForMost
import HandS.TupAny
import HandS.TupMul
import HandS.TupLe
import HandS.Deep
import HandS.Style
import HandS.Wide
import HandS.Rev
import HandS.Star
import HandS.Exc
import PyProof.StrBlock2
import KE.DataEq
import KE.DataCmp
import HandS.IsInst
import HandS.ExcIs
import PyProof.TupleOfStr
import HandS.SetFor
import PyProof.ReprRoads
import PyProof.CallFns
import KE.KRevSl
import HandS.Codes
import KE.GoesEnum
import PyProof.ListNew
import HandS.Iter
import HandS.Zip
import HandS.Dict
import HandS.ExcOwn
import HandS.TryOnly
import HandS.HeadEnd
import HandS.Defaults
import HandS.HeadHook1
import HandS.Head0
import HandS.Head1
import HandS.Head2
import HandS.HeadHook2
import PyProof.StrLawsRepr
import PySem.Challenge.RW_partviews_k03_logs_and_families_refused
set_option Elab.async false

set_option linter.all false
set_option autoImplicit false
set_option maxRecDepth 100000
set_option maxHeartbeats 4000000
/-! P7: sets of ints and texts, made of a list or a tuple, then sorted. -/
namespace Pu
open PySem PySem.Spec PyProof.Rows L2

/-- the key that a value is -/
def kOf : Value → Key
  | .int i _ => .inl i
  | .str x _ => .inr x
  | _ => .inl 0
abbrev kE (e : Int × Value) : Key := kOf e.2
def Good (w : World) (e : Int × Value) : Prop := keyIs (kE e) e.2 = true ∧ e.1 = keyH w (kE e) ∧ e.2.scannable = true
/-- the set at a has these members -/
def Mem (w : World) (h : Heap) (a : Addr) (L : List Key) : Prop :=
  ∃ o es ep t, h.get? a = some o ∧ (o.ExactSet ∧ o.data = .set es ep t) ∧ ((∀ e ∈ es.toList, Good w e) ∧ (es.toList.map kE).Perm L ∧ L.Nodup) ∧ (es.size < scanBound ∧ t.fits es.size = true) ∧
    Ris t.place.toList ∧ (w.params.followText "set-order" = true ∨ t.led = true)
theorem kOf_is {k : Key} {v : Value} (h : keyIs k v = true) : kOf v = k := by
  rcases keyIs_shape h with ⟨i, t, rfl, rfl⟩ | ⟨x, t, rfl, rfl⟩ <;> rfl
theorem scan_of {k : Key} {v : Value} (h : keyIs k v = true) : v.scannable = true := by
  rcases keyIs_shape h with ⟨i, t, rfl, rfl⟩ | ⟨x, t, rfl, rfl⟩ <;> rfl
theorem good_of {w : World} {k : Key} {v : Value} (h : keyIs k v = true) : Good w (keyH w k, v) := by
  have e : kE (keyH w k, v) = k := kOf_is h
  exact ⟨by rw [e]; exact h, by rw [e], scan_of h⟩
section
variable {P : Program} {w : World} {A : Around} {E : Value → Shared → Prop} {s : Shared} {a : Addr} {L : List Key}
theorem Mem.keep {h h' : Heap} (M : Mem w h a L) (k : ∀ o, h.get? a = some o → h'.get? a = some o) : Mem w h' a L := by
  obtain ⟨o, es, ep, t, ho, r⟩ := M
  exact ⟨o, es, ep, t, k o ho, r⟩
theorem Mem.perm {h : Heap} {L' : List Key} (M : Mem w h a L) (p : L.Perm L') : Mem w h a L' := by
  obtain ⟨o, es, ep, t, ho, x, ⟨g, q, n⟩, r⟩ := M
  exact ⟨o, es, ep, t, ho, x, ⟨g, q.trans p, p.nodup_iff.mp n⟩, r⟩
theorem good_elm {l : List (Int × Value)} (g : ∀ e ∈ l, Good w e) : ElemsOf (mixKind P w) l := fun e he => ⟨⟨kE e, (g e he).1, (g e he).2.1⟩, (g e he).2.2⟩
theorem good_find {l : List (Int × Value)} (g : ∀ e ∈ l, Good w e) (k : Key) : k ∈ l.map kE ↔ ∃ e ∈ l, (mixKind P w).is k e.2 = true := by
  rw [List.mem_map]
  constructor
  · rintro ⟨e, he, rfl⟩
    exact ⟨e, he, (g e he).1⟩
  · rintro ⟨e, he, q⟩
    exact ⟨e, he, kOf_is q⟩
/-- the end of an addition: stored, and laid anew where the table is too full -/
theorem add_end {g : Bool → Sem Unit} (hg : ∀ (b : Bool) (s₁ : Shared) (Q' : Unit → Shared → Prop), Q' () s₁ → wpAny (model P w) A (g b) Q' E s₁)
    {o : Obj} {es : Array (Int × Value)} {ep : Nat} {t : SetTable} (ho : s.heap.get? a = some o) (hx : o.ExactSet ∧ o.data = .set es ep t)
    {es1 : Array (Int × Value)} {t2 : SetTable} {L' : List Key} (g1 : (∀ e ∈ es1.toList, Good w e) ∧ (es1.toList.map kE).Perm L' ∧ L'.Nodup)
    (hb1 : es1.size < scanBound) (hf2 : t2.fits es1.size = true) (hr : Ris t2.place.toList) (hl : w.params.followText "set-order" = true ∨ t2.led = true) {wasDummy : Bool} {R : Option Bool → Shared → Prop}
    (hR : ∀ h', Heap.SameBut a s.heap h' → Mem w h' a L' → R (some true) { s with heap := h' }) :
    wpAny (model P w) A (do
        storeSet a es1 t2
        if (!wasDummy && t2.tooFull) = true then do
            g (relayAll t2 es1 (SetTable.grown es1.size)).2.2
            storeSet a (relayAll t2 es1 (SetTable.grown es1.size)).1 (relayAll t2 es1 (SetTable.grown es1.size)).2.1
            pure (some true)
          else pure (some true)) R E s := by
  refine wpAny_bind (wpAny_storeSet_of ho hx.2 ?_ (fits_of_scanBound hb1))
  have ho1 := store_at (es' := es1) (t' := t2) ho hx.2
  have sb1 := Heap.SameBut.update s.heap a (Obj.putSet es1 t2)
  by_cases c : (!wasDummy && t2.tooFull) = true
  · rw [if_pos c]
    have pm := relayAll_perm t2 es1 (SetTable.grown es1.size)
    have hf3 := relayAll_fits t2 es1 (SetTable.grown es1.size)
    have hr3 := relayAll_ris t2 es1 (SetTable.grown es1.size)
    have hl3 := relayAll_led t2 es1 (SetTable.grown es1.size)
    generalize relayAll t2 es1 (SetTable.grown es1.size) = Z at pm hf3 hr3 hl3 ⊢
    obtain ⟨es2, t3, gave⟩ := Z
    dsimp only at pm hf3 hr3 hl3 ⊢
    have hb2 : es2.size < scanBound := by
      have e : es2.size = es1.size := by rw [← Array.length_toList, pm.length_eq, Array.length_toList]
      rw [e]; exact hb1
    refine wpAny_bind (hg _ _ _ (wpAny_bind (wpAny_storeSet_of ho1 rfl ?_ (fits_of_scanBound hb2))))
    have ho2 := store_at (es' := es2) (t' := t3) ho1 rfl
    exact wpAny_pure (hR _ (sb1.trans (Heap.SameBut.update _ a _)) ⟨_, es2, _, t3, ho2, ⟨hx.1, rfl⟩, ⟨fun e he => g1.1 e (pm.mem_iff.mp he), (pm.map kE).trans g1.2.1, g1.2.2⟩, ⟨hb2, hf3⟩, hr3, hl.imp id fun z => by rw [hl3]; exact z⟩)
  · rw [if_neg c]
    exact wpAny_pure (hR _ sb1 ⟨_, es1, _, t2, ho1, ⟨hx.1, rfl⟩, g1, ⟨hb1, hf2⟩, hr, hl⟩)
theorem add_hashed {k : Key} {v : Value} {Q : Bool → Shared → Prop} (hk : keyIs k v = true) (M : Mem w s.heap a L) (room : L.length + 1 < scanBound)
    (hQ : ∀ b h' L', Heap.SameBut a s.heap h' → (k ∈ L ∧ L' = L ∨ k ∉ L ∧ L' = k :: L) → Mem w h' a L' → Q b { s with heap := h' }) :
    wpAny (model P w) A (setAddHashed a v ((mixKind P w).hash k)) Q E s := by
  obtain ⟨o, es, ep, t, ho, hx, ⟨g, pL, nd⟩, ⟨hb, hf⟩, hr, hl⟩ := M
  have hkey : (mixKind P w).is k v = true := hk
  have hsc : v.scannable = true := scan_of hk
  have hel : ElemsOf (mixKind P w) es.toList := good_elm g
  unfold setAddHashed setAddHashedIn
  refine wpAny_holding (wpAny_bind (wpAny_setState_of ho hx.2 hf ?_))
  dsimp only
  rw [byScan_of hsc hb hel]
  simp only [↓reduceIte]
  unfold setAddByScan
  refine wpAny_bind (wpAny_bind (wpAny_rule (wpAny_bind (wpAny_setScan_of hkey ho hx.2 hf hel ?_))))
  cases hfi : List.findIdx? (fun e => (mixKind P w).is k e.2) es.toList with
  | some j =>
    dsimp only
    obtain ⟨hj, pj, _⟩ := List.findIdx?_eq_some_iff_getElem.mp hfi
    have kL : k ∈ L := pL.mem_iff.mp ((good_find (P := P) (w := w) g k).2 ⟨es.toList[j], List.getElem_mem hj, pj⟩)
    have q := hQ false s.heap L (Heap.SameBut.refl a s.heap) (.inl ⟨kL, rfl⟩) ⟨o, es, ep, t, ho, hx, ⟨g, pL, nd⟩, ⟨hb, hf⟩, hr, hl⟩
    exact wpAny_pure (wpAny_pure q)
  | none =>
    dsimp only
    have hnk : k ∉ es.toList.map kE := fun z => by
      obtain ⟨e, he, q⟩ := (good_find (P := P) (w := w) g k).1 z
      have c := List.findIdx?_eq_none_iff.mp hfi e he
      rw [q] at c
      cases c
    have kL : k ∉ L := fun z => hnk (pL.mem_iff.mpr z)
    have pm := layNew_perm t es ((mixKind P w).hash k) v
    have hf1 := layNew_fits t es ((mixKind P w).hash k) v
    have hr1 := layNew_ris t es ((mixKind P w).hash k) v hr
    have hl1 := layNew_led t es ((mixKind P w).hash k) v
    generalize layNew t es ((mixKind P w).hash k) v = Z at pm hf1 hr1 hl1 ⊢
    obtain ⟨es1, t1, wasDummy, gave⟩ := Z
    dsimp only at pm hf1 hr1 hl1 ⊢
    rw [Array.toList_push] at pm
    have pc : es1.toList.Perm (((mixKind P w).hash k, v) :: es.toList) := pm.trans (List.perm_append_singleton _ _)
    have ek : kE ((mixKind P w).hash k, v) = k := kOf_is hk
    have pk : (es1.toList.map kE).Perm (k :: L) := by
      have q := pc.map kE
      rw [List.map_cons, ek] at q
      exact q.trans (pL.cons k)
    have g1 : (∀ e ∈ es1.toList, Good w e) ∧ (es1.toList.map kE).Perm (k :: L) ∧ (k :: L).Nodup := ⟨fun e he => by
      rcases List.mem_cons.mp (pc.mem_iff.mp he) with z | z
      · rw [z]; exact good_of hk
      · exact g e z, pk, List.nodup_cons.mpr ⟨kL, nd⟩⟩
    have hb1 : es1.size < scanBound := by
      have e1 := pk.length_eq
      rw [List.length_map, Array.length_toList, List.length_cons] at e1
      omega
    have hled : w.params.followText "set-order" = true ∨ t1.led = true := hl.imp id fun z => by rw [hl1]; exact z
    have fin : ∀ h', Heap.SameBut a s.heap h' → Mem w h' a (k :: L) → Q true { s with heap := h' } := fun h' sb r => hQ true h' (k :: L) sb (.inr ⟨kL, rfl⟩) r
    have gw : ∀ (b : Bool) (s₁ : Shared) (Q' : Unit → Shared → Prop), Q' () s₁ → wpAny (model P w) A (match b with | true => rule "set.scan.the-table-gave-way" | false => pure ()) Q' E s₁ :=
      fun b s₁ Q' q => by cases b <;> first | exact wpAny_pure q | exact wpAny_rule q
    refine wpAny_bind (gw _ _ _ ?_)
    split
    · refine wpAny_bind ?_
      rw [hashByValue_scannable 8 hsc]
      refine wpAny_pure ?_
      refine add_end (L' := k :: L) ?_ ho hx g1 hb1 ?_ ?_ ?_ ?_
      · exact fun b s₁ Q' q => by cases b <;> first | exact wpAny_pure q | exact wpAny_rule q
      · first | (split <;> first | exact hf1 | exact SetTable.fits_plain_off hf1) | exact hf1
      · first | (split <;> exact hr1) | exact hr1
      · first | (split <;> exact hled) | exact hled
      · exact fun h' sb r => by dsimp only; exact wpAny_pure (fin h' sb r)
    · refine wpAny_bind (wpAny_pure ?_)
      simp only [↓reduceIte]
      refine add_end (L' := k :: L) ?_ ho hx g1 hb1 hf1 hr1 hled ?_
      · exact fun b s₁ Q' q => by cases b <;> first | exact wpAny_pure q | exact wpAny_rule q
      · exact fun h' sb r => by dsimp only; exact wpAny_pure (fin h' sb r)
end

/-! ### the loop of set(..), whatever the members are -/
section
variable {P : Program} {w : World} {A : Around} {I : Addr} {fp wr : List Addr} {G : Array GenState → Array GenState → Prop} {n : Nat} {Pv : Nat → Value → Prop} {St : Nat → Shared → Prop} {R : Result → Shared → Prop}
theorem fill_set (W : WalksS P w A.in1 I fp wr G n Pv St) (T : Addr) (hT : T ∉ fp) (J : Nat → Heap → Prop)
    (keep : ∀ i h h', J i h → (∀ b, b ∉ wr → ∀ o, h.get? b = some o → h'.get? b = some o) → J i h')
    (step : ∀ i v (s : Shared) (Q : Bool → Shared → Prop) (E : Value → Shared → Prop), i < n → Pv i v → J i s.heap →
      (∀ b h' tk, Heap.SameBut T s.heap h' → s.toks ≤ tk → J (i + 1) h' → Q b { s with heap := h', toks := tk }) → wpAny (model P w) A.in1 (setAdd T v) Q E s) :
    ∀ (k i : Nat) (s : Shared), n - i = k → i ≤ n → St i s → J i s.heap → (∀ s', Moved (T :: wr) G s s' → J n s'.heap → R (.ok (.ret .none)) s') →
      codeAny (model P w) A (.builtin "set.update.loop" ⟨[.ref T, .ref I], []⟩) R s := by
  have nw : T ∉ wr := fun z => hT (W.sub _ z)
  have sub : ∀ b ∈ wr, b ∈ T :: wr := fun b hb => List.mem_cons_of_mem _ hb
  intro k
  induction k with
  | zero =>
    intro i s hk hi st j hR
    obtain rfl : i = n := by omega
    refine codeAny_builtin F.entry_set_update_loop ?_
    rw [Around.under_plainId F.plain_set_update_loop _]
    refine show wpAny _ A.in1 (pyNext (.ref I) >>= _) _ _ s from wpAny_bind (W.done s _ _ st fun s' hm => ?_)
    exact show wpAny _ A.in1 (ret Value.none) _ _ s' from wpAny_pure (hR s' (hm.mono sub) (keep _ _ _ j fun b hb o e => hm.heap b o hb e))
  | succ k ih =>
    intro i s hk hi st j hR
    have lt : i < n := by omega
    refine codeAny_builtin F.entry_set_update_loop ?_
    rw [Around.under_plainId F.plain_set_update_loop _]
    refine show wpAny _ A.in1 (pyNext (.ref I) >>= _) _ _ s from wpAny_bind (W.item i s _ _ lt st fun v s' hP st' hm => ?_)
    refine show wpAny _ A.in1 (holding [v] (setAdd T v) >>= _) _ _ s' from wpAny_bind (wpAny_holding (step i v s' _ _ lt hP (keep _ _ _ j fun b hb o e => hm.heap b o hb e) fun b h' tk sb ht j' => ?_))
    refine wpAny_pure ⟨plainId_quiet F.plain_set_update_loop _, ih (i + 1) _ (by omega) lt (W.frame _ s' _ _ st' ht fun b hb o e => ?_) j' fun s2 hm2 j2 => hR s2 (Moved.trans W.gtrans ((hm.mono sub).then_heap ht fun b o hb e => ?_) hm2) j2⟩
    · exact (sb.2 b fun z : b = T => hT (by rw [← z]; exact hb)).trans e
    · exact (sb.2 b fun z : b = T => hb (by rw [z]; exact List.mem_cons_self)).trans e
end
abbrev freshSet (w : World) : Obj := { cls := .type "set", dict := none, data := .set #[] 0 (.fresh 0 0 (!w.params.followText "set-order")) }
section
variable {P : Program} {w : World} {A : Around} {E : Value → Shared → Prop} {s : Shared}
/-- set(l) of a list or a tuple -/
theorem call_set_gen {l : Addr} {items : Array Value} {Q : Value → Shared → Prop} (hh : A.handled = none) (hl : s.heap.IsList l items ∨ s.heap.IsTuple l items) (J : Nat → Heap → Prop)
    (keep : ∀ i h h', J i h → (∀ b, b ≠ s.heap.objs.size + 1 → ∀ o, h.get? b = some o → h'.get? b = some o) → J i h')
    (start : ∀ h, (∀ b o, s.heap.get? b = some o → h.get? b = some o) → h.get? s.heap.objs.size = some (freshSet w) → J 0 h)
    (step : ∀ i v (s' : Shared) (A' : Around) (Q : Bool → Shared → Prop) (E : Value → Shared → Prop), items[i]? = some v → A'.units ≤ A.units + 8 → J i s'.heap →
      (∀ b h' tk, Heap.SameBut s.heap.objs.size s'.heap h' → s'.toks ≤ tk → J (i + 1) h' → Q b { s' with heap := h', toks := tk }) → wpAny (model P w) A' (setAdd s.heap.objs.size v) Q E s')
    (h : ∀ (h' : Heap) (tk : Nat), J items.size h' → (∀ b o, s.heap.get? b = some o → h'.get? b = some o) → Q (.ref s.heap.objs.size) { s with heap := h', toks := tk }) :
    wpAny (model P w) A (call (.type "set") [.ref l]) Q E s := by
  obtain ⟨c, tl, hmro⟩ := F.called_set.mro
  have hmade := F.called_set.made
  have hsub := F.called_set.sub
  refine wpAny_call (codeAny_of_tree (show wpAny _ _ (callAny (.type "set") _) _ _ _ from wpAny_pure ⟨Code.quiet_builtin _ (by decide +kernel), codeAny_builtin F.entry_type_call ?_⟩))
  rw [Around.under_plain (weight_type_call_type "set" [.ref l] []) rfl]
  have h1 := F.called_set.notType
  have h2 := F.called_set.canCreate
  have hct := F.typeCall_set_1 (.ref l)
  repeat (any_goals (first | assumption | wp_step))
  refine codeAny_mono (L2.code_set_led1 (.ref l) (E := E) (Q₁ := fun obj s₁ => obj = .ref s.heap.objs.size ∧ s₁ = { s with heap := s.heap.push (freshSet w) }) ⟨rfl, rfl⟩) fun r s₁ hr => ?_
  cases r with
  | error e => exact hr
  | ok fl =>
    cases fl with
    | ret obj =>
      obtain ⟨rfl, rfl⟩ := hr
      have hS : (s.heap.push (freshSet w)).get? s.heap.objs.size = some (freshSet w) := Heap.get?_push_size _ rfl
      have hT : Shared.TypeIs { s with heap := s.heap.push (freshSet w) } (.ref s.heap.objs.size) "set" := ⟨_, hS, rfl⟩
      have hli := F.called_set.init.lookup
      have hbi := F.called_set.init.bind (.ref s.heap.objs.size)
      repeat (any_goals (first | assumption | wp_step))
      refine codeAny_mono (codeAny_call_builtin (R := wants (fun r s₂ => r = .none ∧ ∃ h' tk, s₂ = { s with heap := h', toks := tk } ∧ J items.size h' ∧ (∀ b o, s.heap.get? b = some o → h'.get? b = some o)) E)
        F.called_set.init.plain F.entry_set_init (check_set_init_1 hT ?_)) fun r₂ s₂ hr₂ => ?_
      · have hh3 : A.in1.in1.in1.handled = none := by simp [hh]
        have sz : (s.heap.push (freshSet w)).objs.size = s.heap.objs.size + 1 := Heap.size_push ..
        rcases hl with hl | hl
        · obtain ⟨⟨ocls, odict, odata, oslots⟩, hol, hcl, nl, hdl⟩ := hl
          simp only at hcl hdl
          subst hcl hdl
          have hol' : (s.heap.push (freshSet w)).get? l = some { cls := .type "list", dict := odict, data := .seq items nl, slots := oslots } := Heap.get?_push_of_some _ hol
          have hsls := F.sub_list_set
          have hslf := F.sub_list_frozenset
          have hne : (Value.type "list" == Value.type "dict") = false := by decide
          have hl1 : (s.heap.push (freshSet w)).IsList l items := ⟨_, hol', rfl, nl, rfl⟩
          unfold Builtin.«set.__init__» noKeywords Builtin.Frozenset.updateFrom
          generalize hPI : pyIter = PI
          wp_walk
          subst hPI
          refine wpAny_pyIter_list hl1 (wpAny_bind (wpAny_runValue ?_))
          have lS : l < s.heap.objs.size := Heap.lt_size hol
          refine fill_set ((Walks.list hh3 _ l (by rw [sz]; exact Nat.ne_of_lt (Nat.lt_succ_of_lt lS)) items).toS) s.heap.objs.size
            (by rw [sz]; simp only [List.mem_cons, List.not_mem_nil, or_false, not_or]; exact ⟨Nat.ne_of_lt (Nat.lt_succ_self _), Nat.ne_of_gt lS⟩) J
            (fun i h h' j k => keep i h h' j fun b hb => k b (by rw [sz]; simpa using hb)) (fun i v s' Q E _ hv j q => step i v s' _ Q E hv (by show A.units + 1 + 1 + 1 ≤ A.units + 8; omega) j q)
            (items.size - 0) 0 _ (by omega) (Nat.zero_le _) ⟨⟨_, Heap.get?_push_size _ rfl, rfl, rfl⟩, (hl1.push _)⟩ (start _ (fun b o e => Heap.get?_push_of_some _ (Heap.get?_push_of_some _ e)) (Heap.get?_push_of_some _ hS)) ?_
          rintro ⟨h', g2, d', tk', os'⟩ hm j
          obtain rfl : g2 = s.gens := hm.gens
          obtain rfl : d' = s.drawn := hm.drawn
          obtain rfl : os' = s.os := hm.os
          refine wpAny_pure (show wpAny _ _ (ret Value.none) _ _ _ from wpAny_pure ⟨rfl, h', tk', rfl, j, fun b o e => ?_⟩)
          have lb := Heap.lt_size e
          exact hm.heap b o (by rw [sz]; simp only [List.mem_cons, List.not_mem_nil, or_false, not_or]; exact ⟨Nat.ne_of_lt lb, Nat.ne_of_lt (Nat.lt_succ_of_lt lb)⟩) (Heap.get?_push_of_some _ (Heap.get?_push_of_some _ e))
        · obtain ⟨⟨ocls, odict, odata, oslots⟩, hol, hcl, nl, hdl⟩ := hl
          simp only at hcl hdl
          subst hcl hdl
          have hol' : (s.heap.push (freshSet w)).get? l = some { cls := .type "tuple", dict := odict, data := .seq items nl, slots := oslots } := Heap.get?_push_of_some _ hol
          have hsls := F.sub_tuple_set
          have hslf := F.sub_tuple_frozenset
          have hne : (Value.type "tuple" == Value.type "dict") = false := by decide
          have hl1 : (s.heap.push (freshSet w)).IsTuple l items := ⟨_, hol', rfl, nl, rfl⟩
          unfold Builtin.«set.__init__» noKeywords Builtin.Frozenset.updateFrom
          generalize hPI : pyIter = PI
          wp_walk
          subst hPI
          refine wpAny_pyIter_tuple hl1 (wpAny_bind (wpAny_runValue ?_))
          have lS : l < s.heap.objs.size := Heap.lt_size hol
          refine fill_set ((Walks.tuple hh3 _ l (by rw [sz]; exact Nat.ne_of_lt (Nat.lt_succ_of_lt lS)) items).toS) s.heap.objs.size
            (by rw [sz]; simp only [List.mem_cons, List.not_mem_nil, or_false, not_or]; exact ⟨Nat.ne_of_lt (Nat.lt_succ_self _), Nat.ne_of_gt lS⟩) J
            (fun i h h' j k => keep i h h' j fun b hb => k b (by rw [sz]; simpa using hb)) (fun i v s' Q E _ hv j q => step i v s' _ Q E hv (by show A.units + 1 + 1 + 1 ≤ A.units + 8; omega) j q)
            (items.size - 0) 0 _ (by omega) (Nat.zero_le _) ⟨⟨_, Heap.get?_push_size _ rfl, rfl, rfl⟩, (hl1.push _)⟩ (start _ (fun b o e => Heap.get?_push_of_some _ (Heap.get?_push_of_some _ e)) (Heap.get?_push_of_some _ hS)) ?_
          rintro ⟨h', g2, d', tk', os'⟩ hm j
          obtain rfl : g2 = s.gens := hm.gens
          obtain rfl : d' = s.drawn := hm.drawn
          obtain rfl : os' = s.os := hm.os
          refine wpAny_pure (show wpAny _ _ (ret Value.none) _ _ _ from wpAny_pure ⟨rfl, h', tk', rfl, j, fun b o e => ?_⟩)
          have lb := Heap.lt_size e
          exact hm.heap b o (by rw [sz]; simp only [List.mem_cons, List.not_mem_nil, or_false, not_or]; exact ⟨Nat.ne_of_lt lb, Nat.ne_of_lt (Nat.lt_succ_of_lt lb)⟩) (Heap.get?_push_of_some _ (Heap.get?_push_of_some _ e))
      · cases r₂ with
        | error e => exact hr₂
        | ok fl₂ =>
          cases fl₂ with
          | ret r =>
            obtain ⟨rfl, h', tk, rfl, j, hk'⟩ := hr₂
            repeat (any_goals (first | assumption | wp_step))
            exact h _ _ j hk'
          | _ => exact hr₂.elim
    | _ => exact hr.elim
end
end Pu

set_option linter.all false
set_option autoImplicit false
/-! P0: a pure evaluator for the Python of the laws: values. -/
namespace Pu
abbrev Sg := List Nat
/-- lv: a list; dv: a dict (keys, values; t: keys are tuples); ref: a shared object; exc: an exception of class c -/
inductive PV where
  | non | bl (b : Bool) | int (i : Int) | str (x : Sg) | tup (xs : List PV) | lv (xs : List PV) | ref (n : Nat) | dv (t : Bool) (ks vs : List PV) | exc (c : Nat) (fs : List PV)
  deriving Inhabited
abbrev Env := List (Option PV)
/-- the shared objects (lists) -/
abbrev St := List (List PV)

mutual
/-- data at most n deep -/
def PV.dk : PV → Nat → Bool
  | .tup xs, n => decide (0 < n) && PV.dks xs (n - 1)
  | .lv xs, n => decide (0 < n) && PV.dks xs (n - 1)
  | .ref _, _ => false
  | .dv _ _ _, _ => false
  | .exc _ _, _ => false
  | .non, _ => true
  | .bl _, _ => true
  | .int _, _ => true
  | .str _, _ => true
def PV.dks : List PV → Nat → Bool
  | [], _ => true
  | x :: xs, n => PV.dk x n && PV.dks xs n
end
mutual
/-- no reference, no list, no dict, no exception in it -/
def PV.rf : PV → Bool
  | .tup xs => rfs xs
  | .lv _ => false
  | .ref _ => false
  | .dv _ _ _ => false
  | .exc _ _ => false
  | .non => true
  | .bl _ => true
  | .int _ => true
  | .str _ => true
def rfs : List PV → Bool
  | [] => true
  | x :: xs => PV.rf x && rfs xs
end
mutual
def PV.dep : PV → Nat
  | .tup xs => PV.deps xs + 1
  | .lv xs => PV.deps xs + 1
  | .non => 0
  | .bl _ => 0
  | .int _ => 0
  | .str _ => 0
  | .ref _ => 0
  | .dv _ _ _ => 0
  | .exc _ _ => 0
def PV.deps : List PV → Nat
  | [] => 0
  | x :: xs => max (PV.dep x) (PV.deps xs)
end
mutual
def eqv : PV → PV → Bool
  | .non, .non => true
  | .bl a, .bl b => a == b
  | .bl a, .int j => decide ((if a then 1 else 0) = j)
  | .int i, .bl b => decide (i = (if b then 1 else 0))
  | .int i, .int j => decide (i = j)
  | .str x, .str y => decide (x = y)
  | .tup xs, .tup ys => eqvs xs ys
  | .lv xs, .lv ys => eqvs xs ys
  | _, _ => false
def eqvs : List PV → List PV → Bool
  | [], [] => true
  | x :: xs, y :: ys => eqv x y && eqvs xs ys
  | _, _ => false
end
/-- x == y, of data -/
def eqD (x y : PV) : Option Bool := if x.dk 60 && y.dk 60 then some (eqv x y) else none
/-- is x one of ys? -/
def inD (x : PV) (ys : List PV) : Option Bool := if x.dk 60 && PV.dks ys 60 then some (ys.any fun e => eqv e x) else none

/-! of one kind: these may be compared by < -/
mutual
def alikeP : PV → PV → Bool
  | .int _, .int _ => true
  | .str _, .str _ => true
  | .bl _, .bl _ => true
  | .tup xs, .tup ys => alikePs xs ys
  | _, _ => false
def alikePs : List PV → List PV → Bool
  | [], _ => true
  | _, [] => true
  | x :: xs, y :: ys => alikeP x y && alikePs xs ys
end
mutual
def ltv : PV → PV → Bool
  | .int i, .int j => decide (i < j)
  | .str x, .str y => decide (x < y)
  | .bl a, .bl b => !a && b
  | .tup xs, .tup ys => ltvs xs ys
  | _, _ => false
def ltvs : List PV → List PV → Bool
  | [], [] => false
  | [], _ :: _ => true
  | _ :: _, [] => false
  | x :: xs, y :: ys => if eqv x y then ltvs xs ys else ltv x y
end

/-! ### sorting -/
def ins1 (x : PV) : List PV → List PV
  | [] => [x]
  | y :: ys => if ltv x y then x :: y :: ys else y :: ins1 x ys
/-- stable: an item goes behind its equals -/
def isort : List PV → List PV := fun xs => xs.foldl (fun acc x => ins1 x acc) []
def insU (x : PV) : List PV → List PV
  | [] => [x]
  | y :: ys => if ltv x y then x :: y :: ys else if ltv y x then y :: insU x ys else y :: ys
/-- ascending, each once -/
def usort : List PV → List PV := fun xs => xs.foldl (fun acc x => insU x acc) []
def allInt : List PV → Bool
  | [] => true
  | .int _ :: r => allInt r
  | _ => false
def allStr : List PV → Bool
  | [] => true
  | .str _ :: r => allStr r
  | _ => false
def alikeAll (x : PV) : List PV → Bool
  | [] => true
  | y :: ys => alikeP x y && alikeAll x ys
def alikeEach : List PV → Bool
  | [] => true
  | x :: xs => alikeP x x && alikeAll x xs && alikeEach xs

/-! ### operators -/
inductive Bop | add | sub | mul | mod | fdiv | pow
inductive Cop | eq | ne | lt | le | gt | ge | isin | notin | is | isnot
def line : Nat := 16777216
def small64 (i : Int) : Bool := decide (i.natAbs < 2 ^ 64)
def rep {α : Type} (k : Nat) (xs : List α) : List α := (List.replicate k xs).flatten
def bop (op : Bop) (a b : PV) : Option PV :=
  match op, a, b with
  | .add, .int i, .int j => some (.int (i + j))
  | .sub, .int i, .int j => some (.int (i - j))
  | .mul, .int i, .int j => if small64 i || small64 j then some (.int (i * j)) else none
  | .mod, .int i, .int j => if 0 < j then some (.int (i % j)) else none
  | .fdiv, .int i, .int j => if 0 < j && decide (j.natAbs.log2 < 9000) then some (.int (i / j)) else none
  | .pow, .int i, .int j => if 0 ≤ j && (decide (j ≤ 1000000) && small64 i) then some (.int (i ^ j.toNat)) else none
  | .add, .str x, .str y => if x.length + y.length ≤ line then some (.str (x ++ y)) else none
  | .add, .tup xs, .tup ys => if xs.length + ys.length ≤ line then some (.tup (xs ++ ys)) else none
  | .add, .lv xs, .lv ys => if xs.length + ys.length ≤ line then some (.lv (xs ++ ys)) else none
  | .mul, .tup xs, .int k => if 1 ≤ k ∧ k ≤ 1000 ∧ xs.length ≤ 1000 then some (.tup (rep k.toNat xs)) else none
  | .mul, .str x, .int k => if 1 ≤ k ∧ k ≤ 1000 ∧ x.length ≤ 1000 then some (.str (rep k.toNat x)) else none
  | .mul, .lv xs, .int k => if -(2 ^ 63) ≤ k ∧ k < 2 ^ 63 ∧ xs.length * k.toNat ≤ line then some (.lv (rep k.toNat xs)) else none
  | _, _, _ => none
def isNon : PV → Bool
  | .non => true
  | _ => false
def cop (op : Cop) (a b : PV) : Option Bool :=
  match op with
  | .eq => eqD a b
  | .ne => (eqD a b).map not
  | .isin => match a, b with
    | .str [c], .str y => some (y.contains c)
    | x, .tup ys => inD x ys
    | x, .lv ys => inD x ys
    | _, _ => none
  | .notin => match a, b with
    | .str [c], .str y => some (!y.contains c)
    | x, .tup ys => (inD x ys).map not
    | x, .lv ys => (inD x ys).map not
    | _, _ => none
  | .is => match a, b with
    | .bl x, .bl y => some (x == y)
    | x, .non => some (isNon x)
    | _, _ => none
  | .isnot => match a, b with
    | .bl x, .bl y => some (!(x == y))
    | x, .non => some (!isNon x)
    | _, _ => none
  | .lt => match a, b with
    | .int i, .int j => some (decide (i < j))
    | .str x, .str y => some (decide (x < y))
    | _, _ => none
  | .le => match a, b with
    | .int i, .int j => some (decide (i ≤ j))
    | .str x, .str y => some (!decide (y < x))
    | _, _ => none
  | .gt => match a, b with
    | .int i, .int j => some (decide (j < i))
    | .str x, .str y => some (decide (y < x))
    | _, _ => none
  | .ge => match a, b with
    | .int i, .int j => some (decide (j ≤ i))
    | .str x, .str y => some (!decide (x < y))
    | _, _ => none

/-! ### places -/
def ixE (n : Nat) (i : Int) : Option Nat := if 0 ≤ i then (if i < n then some i.toNat else none) else if -(n : Int) ≤ i then some (i + n).toNat else none
def at? {α : Type} (xs : List α) (i : Int) : Option α := (ixE xs.length i).bind fun j => xs[j]?
def cutIx (n d : Nat) : Option Int → Nat
  | none => d
  | some v => if v < 0 then (v + (n : Int)).toNat else min v.toNat n
def cut {α : Type} (xs : List α) (lo hi : Option Int) : List α := (xs.drop (cutIx xs.length 0 lo)).take (cutIx xs.length xs.length hi - cutIx xs.length 0 lo)
/-- what stands in a dict at a key -/
def dget (k : PV) : List PV → List PV → Option PV
  | x :: xs, v :: vs => if eqv x k then some v else dget k xs vs
  | _, _ => none
def dset (k v : PV) : List PV → List PV → List PV
  | x :: xs, w :: ws => if eqv x k then v :: dset k v xs ws else w :: dset k v xs ws
  | _, ws => ws
/-- keys: ints and texts, or tuples of them -/
def keyK : PV → Bool
  | .int _ => true
  | .str _ => true
  | _ => false
def keyOk (t : Bool) : PV → Bool
  | .tup xs => t && xs.all keyK
  | p => !t && keyK p
/-- a dict, where k may be its key -/
def dctAt (o k : PV) : Option (Bool × List PV × List PV) :=
  match o with
  | .dv t ks vs => if keyOk t k then some (t, ks, vs) else none
  | _ => none
def dput (k v : PV) (t : Bool) (ks vs : List PV) : PV :=
  if (dget k ks vs).isSome then .dv t ks (dset k v ks vs) else .dv t (ks ++ [k]) (vs ++ [v])
/-- the items of a list, a tuple; of a shared object -/
def seqOf (s : St) : PV → Option (List PV)
  | .tup xs => some xs
  | .lv xs => some xs
  | .ref n => s[n]?
  | _ => none
def seqL : PV → Option (List PV)
  | .tup xs => some xs
  | .lv xs => some xs
  | _ => none
def item (s : St) (o i : PV) : Option PV :=
  match o, i with
  | .tup xs, .int j => at? xs j
  | .str x, .int j => if x.length ≤ line then (at? x j).map fun c => .str [c] else none
  | .lv xs, .int j => at? xs j
  | .ref n, .int j => (s[n]?).bind fun xs => at? xs j
  | _, _ => none
def slice (o : PV) (lo hi : Option Int) : Option PV :=
  match o with
  | .tup xs => some (.tup (cut xs lo hi))
  | .str x => if x.length ≤ line then some (.str (cut x lo hi)) else none
  | .lv xs => some (.lv (cut xs lo hi))
  | _ => none

/-! ### built-in functions and methods -/
inductive Blt
  | len | list | tuple | sorted | sortedSet | lenSet | listZip | isTuple | isInt | isStr | isBool | isList | all | any | int | min | max | repr
  deriving DecidableEq
def boolsOf : List PV → Option (List Bool)
  | [] => some []
  | .bl b :: r => (boolsOf r).map (b :: ·)
  | _ => none
def intsOf : List PV → Option (List Int)
  | [] => some []
  | .int b :: r => (intsOf r).map (b :: ·)
  | _ => none
/-- the kind of a value: 0 None, 1 bool, 2 int, 3 text, 4 tuple, 5 list -/
def kind : PV → Option Nat
  | .non => some 0
  | .bl _ => some 1
  | .int _ => some 2
  | .str _ => some 3
  | .tup _ => some 4
  | .lv _ => some 5
  | _ => none
/-- sets: ints, or texts -/
def setable (xs : List PV) : Bool := (allInt xs || allStr xs) && decide (xs.length < 64)
def isTup1 : PV → Bool
  | .tup (_ :: _) => true
  | _ => false
def notTup : PV → Bool
  | .tup _ => false
  | .non => false
  | _ => true
/-- sorted: all of one kind -/
def sortable (xs : List PV) : Bool := alikeEach xs && ((xs.all isTup1 || xs.all notTup) && (decide (xs.length ≤ line) && PV.dks xs 60))
def zipP : List PV → List PV → List PV
  | x :: xs, y :: ys => .tup [x, y] :: zipP xs ys
  | _, _ => []
def bLen (s : St) : List PV → Option PV
  | [.str x] => if x.length ≤ line then some (.int x.length) else none
  | [.dv false ks _] => some (.int ks.length)
  | [v] => (seqOf s v).map fun xs => .int xs.length
  | _ => none
def bList : List PV → Option PV
  | [v] => (seqL v).map fun xs => .lv xs
  | _ => none
def bTuple : List PV → Option PV
  | [.str x] => if x.length ≤ line then some (.tup (x.map fun c => .str [c])) else none
  | [v] => (seqL v).map fun xs => .tup xs
  | _ => none
def bSorted : List PV → Option PV
  | [.lv xs] => if sortable xs then some (.lv (isort xs)) else none
  | _ => none
def bSortedSet : List PV → Option PV
  | [v] => match seqL v with
    | some xs => if setable xs then some (.lv (usort xs)) else none
    | none => none
  | _ => none
def bLenSet : List PV → Option PV
  | [v] => match seqL v with
    | some xs => if setable xs then some (.int (usort xs).length) else none
    | none => none
  | _ => none
def bListZip : List PV → Option PV
  | [x, y] => match seqL x with
    | none => none
    | some xs => match seqL y with
      | none => none
      | some ys => if min xs.length ys.length ≤ line then some (.lv (zipP xs ys)) else none
  | _ => none
def bIs (ks : List Nat) : List PV → Option PV
  | [v] => match kind v with
    | some k => some (.bl (ks.contains k))
    | none => none
  | _ => none
def bAll (any : Bool) : List PV → Option PV
  | [.lv xs] => match boolsOf xs with
    | some bs => some (.bl (if any then bs.any id else bs.all id))
    | none => none
  | _ => none
def bInt : List PV → Option PV
  | [.int i] => some (.int i)
  | [.bl b] => some (.int (if b then 1 else 0))
  | _ => none
def bMm (big : Bool) : List PV → Option PV
  | [.lv xs] => match intsOf xs with
    | some (i :: r) => some (.int (if big then r.foldl max i else r.foldl min i))
    | _ => none
  | _ => none
/-! ### repr -/
mutual
def toD : PV → PySem.PyData
  | .non => .none
  | .bl b => .bool b
  | .int i => .int i
  | .str x => .str ⟨⟨x⟩⟩
  | .tup xs => .tuple (toDs xs)
  | .lv xs => .list (toDs xs)
  | .ref _ => .none
  | .dv _ _ _ => .none
  | .exc _ _ => .none
def toDs : List PV → List PySem.PyData
  | [] => []
  | x :: xs => toD x :: toDs xs
end
mutual
def showP : PV → Bool
  | .int i => decide (i.natAbs.log2 < 1920)
  | .tup xs => showPs xs
  | .lv xs => showPs xs
  | .ref _ => false
  | .dv _ _ _ => false
  | .exc _ _ => false
  | .non => true
  | .bl _ => true
  | .str _ => true
def showPs : List PV → Bool
  | [] => true
  | x :: xs => showP x && showPs xs
end
def reprP (d : PV) : Sg := (PySem.PyData.shown (toD d)).cps.toList
def bRepr : List PV → Option PV
  | [d] => if showP d && (PV.dk d 60 && decide ((reprP d).length ≤ line)) then some (.str (reprP d)) else none
  | _ => none
def blt (s : St) : Blt → List PV → Option PV
  | .len => bLen s
  | .list => bList
  | .tuple => bTuple
  | .sorted => bSorted
  | .sortedSet => bSortedSet
  | .lenSet => bLenSet
  | .listZip => bListZip
  | .isTuple => bIs [4]
  | .isInt => bIs [1, 2]
  | .isStr => bIs [3]
  | .isBool => bIs [1]
  | .isList => bIs [5]
  | .all => bAll false
  | .any => bAll true
  | .int => bInt
  | .min => bMm false
  | .max => bMm true
  | .repr => bRepr
/-- classes of errors: 0 the base of all, 1000 ValueError -/
def subC (a b : Nat) : Bool := a == b || (b == 0 || b == 1000)
/-- isinstance(x, an error's class) -/
def isX (c : Nat) : PV → Option Bool
  | .exc d _ => some (subC d c)
  | _ => none
/-! methods that change nothing -/
inductive Mth
  | index | join | count | countT
  deriving DecidableEq
def indexOf (x : PV) : List PV → Option Nat
  | [] => none
  | y :: ys => if eqv y x then some 0 else (indexOf x ys).map (· + 1)
def flatP : PV → Bool
  | .non => true
  | .bl _ => true
  | .int _ => true
  | .str _ => true
  | _ => false
/-- what a shared list may hold -/
def shP : PV → Bool
  | .ref _ => true
  | v => flatP v
def mIndex : PV → List PV → Option PV
  | .lv xs, [v] => if v.dk 60 && PV.dks xs 60 then (indexOf v xs).map fun (k : Nat) => PV.int (k : Int) else none
  | _, _ => none
def countOf (x : PV) : List PV → Nat
  | [] => 0
  | y :: ys => if eqv y x then countOf x ys + 1 else countOf x ys
def mCount : PV → List PV → Option PV
  | .lv xs, [v] => if v.dk 60 && PV.dks xs 60 then some (.int (countOf v xs : Nat)) else none
  | _, _ => none
def mCountT : PV → List PV → Option PV
  | .tup xs, [v] => if v.dk 60 && PV.dks xs 60 then some (.int (countOf v xs : Nat)) else none
  | _, _ => none
/-- a.join(texts) -/
def joinS (a : Sg) : List Sg → Sg
  | [] => []
  | [x] => x
  | x :: y :: r => x ++ a ++ joinS a (y :: r)
def strsOf : List PV → Option (List Sg)
  | [] => some []
  | .str x :: r => (strsOf r).map (x :: ·)
  | _ => none
def mJoin : PV → List PV → Option PV
  | .str a, [v] => match seqL v with
    | some xs => match strsOf xs with
      | some ys => if (ys.map (·.length)).sum + ys.length * a.length ≤ line then some (.str (joinS a ys)) else none
      | none => none
    | none => none
  | _, _ => none
def mth : Mth → PV → List PV → Option PV
  | .index => mIndex
  | .join => mJoin
  | .count => mCount
  | .countT => mCountT
/-- the receiver is of the method's type -/
def mthTy : Mth → PV → Bool
  | .join, .str _ => true
  | .join, _ => false
  | .countT, .tup _ => true
  | .countT, _ => false
  | _, .lv _ => true
  | _, _ => false
/-! methods that change a list (and what they give) -/
inductive Chg
  | append | extend | insert | pop | reverse
  deriving DecidableEq
def cAppend (xs : List PV) : List PV → Option (PV × List PV)
  | [v] => if xs.length < line then some (.non, xs ++ [v]) else none
  | _ => none
def cExtend (xs : List PV) : List PV → Option (PV × List PV)
  | [.lv ys] => if xs.length + ys.length ≤ line then some (.non, xs ++ ys) else none
  | _ => none
def cInsert (xs : List PV) : List PV → Option (PV × List PV)
  | [.int i, v] => if xs.length < line ∧ 0 ≤ i ∧ i < 2 ^ 63 then some (.non, xs.take i.toNat ++ [v] ++ xs.drop i.toNat) else none
  | _ => none
def cPop (xs : List PV) : List PV → Option (PV × List PV)
  | [] => match xs[xs.length - 1]? with
    | some y => some (y, xs.dropLast)
    | none => none
  | [.int i] => if -(2 ^ 63) ≤ i ∧ i < 2 ^ 63 then (match ixE xs.length i with
      | none => none
      | some k => match xs[k]? with
        | some y => some (y, xs.eraseIdx k)
        | none => none) else none
  | _ => none
def cReverse (xs : List PV) : List PV → Option (PV × List PV)
  | [] => some (.non, xs.reverse)
  | _ => none
def chg : Chg → List PV → List PV → Option (PV × List PV)
  | .append => cAppend
  | .extend => cExtend
  | .insert => cInsert
  | .pop => cPop
  | .reverse => cReverse
end Pu

set_option linter.all false
set_option autoImplicit false
/-! P1: syntax, and its run. -/
namespace Pu
/-- a target: a slot, or a tuple of targets -/
inductive TgE | nm (i : Nat) | tp (l : List TgE)
mutual
inductive XE
  | c (v : PV) | v (i : Nat) | tup (es : XL) | lst (es : XL)
  | bin (op : Bop) (a b : XE) | neg (a : XE) | cmp (op : Cop) (a b : XE) | cmp2 (o1 o2 : Cop) (a b c : XE)
  | and (a b : XE) | or (a b : XE) | not (a : XE) | ite (t a b : XE)
  | call (f : Nat) (es : XL) | blt (f : Blt) (es : XL) | isx (k : Nat) (a : XE) | mth (m : Mth) (o : XE) (es : XL)
  | idx (o i : XE) | sl (o : XE) (lo hi : XO) | rev (o : XE)
  | lc (e : XE) (tg : TgE) (it : XI) (ifs : XO)
  | lc2 (e : XE) (tg : TgE) (it : XI) (tg2 : TgE) (it2 : XI)
  | dnew (t : Bool) | dget (o k : XE) | din (neg : Bool) (k o : XE) | dgetD (o k d : XE)
inductive XL
  | nil | cons (e : XE) (r : XL)
inductive XO
  | none | some (e : XE)
inductive XI
  | seq (e : XE) | rng (a : XE) | rng2 (a b : XE) | enum (e : XE) | zip (a b : XE)
end
mutual
def TgE.slots : TgE → List Nat
  | .nm i => [i]
  | .tp l => TgE.slotsL l
def TgE.slotsL : List TgE → List Nat
  | [] => []
  | t :: ts => TgE.slots t ++ TgE.slotsL ts
end
mutual
def asn : TgE → PV → Env → Option Env
  | .nm i, v, σ => some (σ.set i (some v))
  | .tp l, .tup xs, σ => asns l xs σ
  | _, _, _ => none
def asns : List TgE → List PV → Env → Option Env
  | [], [], σ => some σ
  | t :: ts, v :: vs, σ => match asn t v σ with
    | none => none
    | some σ' => asns ts vs σ'
  | _, _, _ => none
end
def wipeE (σ : Env) : List Nat → Env
  | [] => σ
  | i :: is => (wipeE σ is).set i none

/-! ### slots that are handed on -/
mutual
/-- slots whose value an expression may be -/
def bare : XE → List Nat
  | .v i => [i]
  | .ite _ a b => bare a ++ bare b
  | .c _ => [] | .tup _ => [] | .lst _ => [] | .bin _ _ _ => [] | .neg _ => [] | .cmp _ _ _ => [] | .cmp2 _ _ _ _ _ => []
  | .and _ _ => [] | .or _ _ => [] | .not _ => [] | .call _ _ => [] | .blt _ _ => [] | .isx _ _ => [] | .mth _ _ _ => []
  | .idx _ _ => [] | .sl _ _ _ => [] | .rev _ => [] | .lc _ _ _ _ => [] | .lc2 _ _ _ _ _ => []
  | .dnew _ => [] | .dget _ _ => [] | .din _ _ _ => [] | .dgetD _ _ d => bare d
def bareL : XL → List Nat
  | .nil => []
  | .cons e r => bare e ++ bareL r
end
mutual
/-- slots whose value goes into a thing, into a call -/
def esc : XE → List Nat
  | .c _ => []
  | .v _ => []
  | .tup es => escL es ++ bareL es
  | .lst es => escL es ++ bareL es
  | .bin _ a b => esc a ++ esc b
  | .neg a => esc a
  | .cmp _ a b => esc a ++ esc b
  | .cmp2 _ _ a b c => esc a ++ (esc b ++ esc c)
  | .and a b => esc a ++ esc b
  | .or a b => esc a ++ esc b
  | .not a => esc a
  | .ite t a b => esc t ++ (esc a ++ esc b)
  | .call _ es => escL es ++ bareL es
  | .blt _ es => escL es
  | .isx _ a => esc a
  | .mth _ o es => esc o ++ escL es
  | .idx o i => esc o ++ esc i
  | .sl o lo hi => esc o ++ (escO lo ++ escO hi)
  | .rev o => esc o ++ bare o
  | .lc e tg it ifs => escI it ++ (bareI it ++ (escO ifs ++ (esc e ++ bare e)))
  | .lc2 e tg it tg2 it2 => escI it ++ (bareI it ++ (escI it2 ++ (bareI it2 ++ (esc e ++ bare e))))
  | .dnew _ => []
  | .dget o k => esc o ++ esc k
  | .din _ k o => esc k ++ esc o
  | .dgetD o k d => esc o ++ (esc k ++ (esc d ++ bare d))
def escL : XL → List Nat
  | .nil => []
  | .cons e r => esc e ++ escL r
def escO : XO → List Nat
  | .none => []
  | .some e => esc e
def escI : XI → List Nat
  | .seq e => esc e
  | .rng a => esc a
  | .rng2 a b => esc a ++ esc b
  | .enum e => esc e
  | .zip a b => esc a ++ esc b
def bareI : XI → List Nat
  | .seq e => bare e
  | .rng a => []
  | .rng2 a b => []
  | .enum e => bare e
  | .zip a b => bare a ++ bare b
end
/-- the expression makes a new list, a new dict -/
def freshB : XE → Bool
  | .lst _ => true
  | .lc _ _ _ _ => true
  | .lc2 _ _ _ _ _ => true
  | .blt .list _ => true
  | .blt .sorted _ => true
  | .blt .sortedSet _ => true
  | .blt .listZip _ => true
  | .bin .add _ _ => true
  | .bin .mul _ _ => true
  | .sl _ _ _ => true
  | .dnew _ => true
  | _ => false

/-! ### results -/
inductive Rz (α : Type) | no | ok (a : α) (s : St) | ex (c : Nat) (fs : List PV) (s : St)
def Rz.bind {α β : Type} (r : Rz α) (f : α → St → Rz β) : Rz β :=
  match r with
  | .no => .no
  | .ok a s => f a s
  | .ex c fs s => .ex c fs s
/-- no error may come -/
def Rz.nox {α : Type} : Rz α → Rz α
  | .ok a s => .ok a s
  | _ => .no
def ofO {α : Type} (o : Option α) (s : St) : Rz α :=
  match o with
  | none => .no
  | some a => .ok a s
def lcP (turn : PV → St → Rz (List PV)) : List PV → List PV → St → Rz (List PV)
  | [], acc, s => .ok acc s
  | x :: xs, acc, s => (turn x s).bind fun r s => lcP turn xs (acc ++ r) s
def fuel : Nat := 1000000
def rangeV (a b : Int) : List PV := (List.range (b - a).toNat).map fun (k : Nat) => PV.int (a + (k : Int))
def intOk (i : Int) : Bool := decide (-(2 ^ 62) ≤ i ∧ i < 2 ^ 62)
def enumV : Nat → List PV → List PV
  | _, [] => []
  | n, x :: xs => .tup [.int n, x] :: enumV (n + 1) xs
/-- a turn of a comprehension: the target, the test, the item -/
def lcTurn (tg : TgE) (σw : Env) (runT : Env → St → Rz Bool) (runE : Env → St → Rz PV) (v : PV) (s : St) : Rz (List PV) :=
  match asn tg v σw with
  | none => .no
  | some σ2 => (runT σ2 s).bind fun b s => if b then (runE σ2 s).bind fun x s => .ok [x] s else .ok [] s
def yes (_ : Env) (s : St) : Rz Bool := .ok true s
def lcTurn2 (tg tg2 : TgE) (σw : Env) (runI : Env → St → Rz (List PV)) (runE : Env → St → Rz PV) (v : PV) (s : St) : Rz (List PV) :=
  match asn tg v σw with
  | none => .no
  | some σ2 => (runI σ2 s).bind fun xs s => lcP (lcTurn tg2 (wipeE σ2 tg2.slots) yes runE) xs [] s
def asB (v : PV) (s : St) : Rz Bool :=
  match v with
  | .bl b => .ok b s
  | _ => .no
section
variable (C : Nat → List PV → St → Rz (PV × Bool))
mutual
def pE : XE → Env → St → Rz PV
  | .c v, _, s => .ok v s
  | .v i, σ, s => match σ[i]? with
    | some (some v) => .ok v s
    | _ => .no
  | .tup es, σ, s => (pL es σ s).bind fun vs s => if vs.length ≤ line then .ok (.tup vs) s else .no
  | .lst es, σ, s => (pL es σ s).bind fun vs s => if vs.length ≤ line then .ok (.lv vs) s else .no
  | .bin op a b, σ, s => (pE a σ s).bind fun x s => (pE b σ s).bind fun y s => ofO (bop op x y) s
  | .neg a, σ, s => (pE a σ s).bind fun x s => match x with
    | .int i => .ok (.int (-i)) s
    | _ => .no
  | .cmp op a b, σ, s => (pE a σ s).bind fun x s => (pE b σ s).bind fun y s => ofO ((cop op x y).map PV.bl) s
  | .cmp2 o1 o2 a b c, σ, s => (pE a σ s).bind fun x s => (pE b σ s).bind fun y s => match cop o1 x y with
    | none => .no
    | some false => .ok (.bl false) s
    | some true => (pE c σ s).bind fun z s => ofO ((cop o2 y z).map PV.bl) s
  | .and a b, σ, s => ((pE a σ s).bind asB).bind fun c s => if c then ((pE b σ s).bind asB).bind fun d s => .ok (.bl d) s else .ok (.bl false) s
  | .or a b, σ, s => ((pE a σ s).bind asB).bind fun c s => if c then .ok (.bl true) s else ((pE b σ s).bind asB).bind fun d s => .ok (.bl d) s
  | .not a, σ, s => ((pE a σ s).bind asB).bind fun c s => .ok (.bl (!c)) s
  | .ite t a b, σ, s => ((pE t σ s).bind asB).bind fun c s => if c then pE a σ s else pE b σ s
  | .call f es, σ, s => (pL es σ s).bind fun vs s => (C f vs s).bind fun r s => .ok r.1 s
  | .blt f es, σ, s => (pL es σ s).bind fun vs s => ofO (blt s f vs) s
  | .isx k a, σ, s => (pE a σ s).bind fun x s => ofO ((isX k x).map PV.bl) s
  | .mth m o es, σ, s => (pE o σ s).bind fun x s => if mthTy m x then (pL es σ s).bind fun vs s => ofO (mth m x vs) s else .no
  | .idx o i, σ, s => (pE o σ s).bind fun x s => (pE i σ s).bind fun y s => ofO (item s x y) s
  | .sl o lo hi, σ, s => (pE o σ s).bind fun x s => (pO lo σ s).bind fun l s => (pO hi σ s).bind fun h s => ofO (slice x l h) s
  | .rev o, σ, s => (pE o σ s).bind fun x s => match x with
    | .tup xs => .ok (.tup xs.reverse) s
    | _ => .no
  | .lc e tg it ifs, σ, s => (pI it σ s).bind fun xs s => (lcP (lcTurn tg (wipeE σ tg.slots) (fun σ s => pT ifs σ s) (fun σ s => pE e σ s)) xs [] s).nox.bind fun r s => if r.length ≤ line then .ok (.lv r) s else .no
  | .lc2 e tg it tg2 it2, σ, s => (pI it σ s).bind fun xs s => (lcP (lcTurn2 tg tg2 (wipeE (wipeE σ tg2.slots) tg.slots) (fun σ s => pI it2 σ s) (fun σ s => pE e σ s)) xs [] s).nox.bind fun r s => if r.length ≤ line then .ok (.lv r) s else .no
  | .dnew t, _, s => .ok (.dv t [] []) s
  | .dget o k, σ, s => (pE o σ s).bind fun x s => (pE k σ s).bind fun y s => match dctAt x y with
    | some d => ofO (dget y d.2.1 d.2.2) s
    | none => .no
  | .din neg k o, σ, s => (pE k σ s).bind fun y s => (pE o σ s).bind fun x s => match dctAt x y with
    | some d => .ok (.bl (neg != (dget y d.2.1 d.2.2).isSome)) s
    | none => .no
  | .dgetD o k d, σ, s => (pE o σ s).bind fun x s => (pE k σ s).bind fun y s => (pE d σ s).bind fun z s => match dctAt x y with
    | some d => .ok ((dget y d.2.1 d.2.2).getD z) s
    | none => .no
def pL : XL → Env → St → Rz (List PV)
  | .nil, _, s => .ok [] s
  | .cons e es, σ, s => (pE e σ s).bind fun x s => (pL es σ s).bind fun xs s => .ok (x :: xs) s
def pO : XO → Env → St → Rz (Option Int)
  | .none, _, s => .ok none s
  | .some e, σ, s => (pE e σ s).bind fun x s => match x with
    | .int i => .ok (some i) s
    | _ => .no
def pT : XO → Env → St → Rz Bool
  | .none, _, s => .ok true s
  | .some e, σ, s => (pE e σ s).bind fun x s => asB x s
def pI : XI → Env → St → Rz (List PV)
  | .seq e, σ, s => (pE e σ s).bind fun x s => match x with
    | .tup xs => .ok xs s
    | .lv xs => .ok xs s
    | .str x => .ok (x.map fun c => .str [c]) s
    | _ => .no
  | .rng a, σ, s => (pE a σ s).bind fun x s => match x with
    | .int j => if intOk j then .ok (rangeV 0 j) s else .no
    | _ => .no
  | .rng2 a b, σ, s => (pE a σ s).bind fun x s => (pE b σ s).bind fun y s => match x, y with
    | .int i, .int j => if intOk i && intOk j then .ok (rangeV i j) s else .no
    | _, _ => .no
  | .enum e, σ, s => (pE e σ s).bind fun x s => match x with
    | .tup xs => .ok (enumV 0 xs) s
    | .lv xs => .ok (enumV 0 xs) s
    | _ => .no
  | .zip a b, σ, s => (pE a σ s).bind fun x s => (pE b σ s).bind fun y s => match x, y with
    | .tup xs, .tup ys => .ok (zipP xs ys) s
    | .lv xs, .lv ys => .ok (zipP xs ys) s
    | _, _ => .no
end
/-- .. and whether the value is a thing that nobody else has -/
def pX : XE → Env → St → Rz (PV × Bool)
  | .call f es, σ, s => (pL C es σ s).bind fun vs s => C f vs s
  | e, σ, s => (pE C e σ s).bind fun v s => .ok (v, freshB e) s
end

/-! ### statements -/
mutual
inductive XS
  | asg (tg : TgE) (e : XE) | asgP (i : Nat) (e : XE) | par (is : List Nat) (es : XL) | setIx (i : Nat) (x e : XE) | dput (i : Nat) (k e : XE) | aug (i : Nat) (op : Bop) (e : XE) | ex (e : XE)
  | chg (m : Chg) (i : Nat) (es : XL) | asgC (j : Nat) (m : Chg) (i : Nat) (es : XL)
  | iff (t : XE) (a b : XB) | for (tg : TgE) (it : XI) (body : XB) (kills : List Nat) | wh (t : XE) (body : XB) (kills : List Nat)
  | ret (e : XE) | retN | brk | cnt | pass | never | raise (c : Nat)
  | tryAs (b : XB) (c i j : Nat) | tryRet (b : XB) (c : Nat) (v : PV) | tryCnt (b : XB) (c : Nat)
inductive XB
  | nil | cons (s : XS) (r : XB)
end
abbrev Own := List Nat
/-- an end: the slots, which of them own their list -/
inductive Out | nx (σ : Env) (w : Own) | rt (v : PV) (fr : Bool) | bk (σ : Env) (w : Own) | ct (σ : Env) (w : Own) | ex (c : Nat) (fs : List PV) (σ : Env) (w : Own)
def rel (w : Own) (r : List Nat) : Own := w.filter fun i => !r.contains i
def addO (i : Nat) : Own → Own
  | [] => [i]
  | j :: w => if i < j then i :: j :: w else if i = j then j :: w else j :: addO i w
def PV.isM : PV → Bool
  | .lv _ => true
  | .dv _ _ _ => true
  | _ => false
/-- slot i gets a value -/
def own1 (w : Own) (i : Nat) (r : PV × Bool) : Own := if r.2 && r.1.isM then addO i (rel w [i]) else rel w [i]
def Rz.run {α : Type} (r : Rz α) (σ : Env) (w : Own) (k : α → St → Option (Out × St)) : Option (Out × St) :=
  match r with
  | .no => none
  | .ok a s => k a s
  | .ex c fs s => some (.ex c fs σ w, s)
def forP (step : PV → Env → Own → St → Option (Out × St)) : List PV → Env → Own → St → Option (Out × St)
  | [], σ, w, s => some (.nx σ w, s)
  | x :: xs, σ, w, s => match step x σ w s with
    | some (.nx σ w, s) => forP step xs σ w s
    | some (.ct σ w, s) => forP step xs σ w s
    | some (.bk σ w, s) => some (.nx σ w, s)
    | some (.rt v fr, s) => some (.rt v fr, s)
    | some (.ex c fs σ w, s) => some (.ex c fs σ w, s)
    | none => none
def whP (es : List Nat) (test : Env → St → Rz Bool) (turn : Env → Own → St → Option (Out × St)) : Nat → Env → Own → St → Option (Out × St)
  | 0, _, _, _ => none
  | f + 1, σ, w, s => (test σ s).run σ (Pu.rel w es) fun c s => if c then (match turn σ (Pu.rel w es) s with
      | some (.nx σ w, s) => whP es test turn f σ w s
      | some (.ct σ w, s) => whP es test turn f σ w s
      | some (.bk σ w, s) => some (.nx σ w, s)
      | some (.rt v fr, s) => some (.rt v fr, s)
      | some (.ex c fs σ w, s) => some (.ex c fs σ w, s)
      | none => none)
    else some (.nx σ (Pu.rel w es), s)
/-- behind a turn: what is dead is forgotten -/
def kill (kills : List Nat) : Option (Out × St) → Option (Out × St)
  | some (.nx σ w, s) => some (.nx (wipeE σ kills) (rel w kills), s)
  | some (.ct σ w, s) => some (.ct (wipeE σ kills) (rel w kills), s)
  | some (.bk σ w, s) => some (.bk σ w, s)
  | some (.rt v fr, s) => some (.rt v fr, s)
  | some (.ex c fs σ w, s) => some (.ex c fs σ w, s)
  | none => none
def forTurn (tg : TgE) (kills : List Nat) (run : Env → Own → St → Option (Out × St)) (v : PV) (σ : Env) (w : Own) (s : St) : Option (Out × St) :=
  match asn tg v σ with
  | none => none
  | some σ2 => kill kills (run σ2 (rel w tg.slots) s)
def setAll (σ : Env) (w : Own) : List Nat → List (PV × Bool) → Option (Env × Own)
  | [], [] => some (σ, w)
  | i :: is, r :: rs => (setAll σ w is rs).map fun q => (q.1.set i (some r.1), own1 q.2 i r)
  | _, _ => none
def ownV (w : Own) : XE → Bool
  | .v i => w.contains i
  | _ => false
/-- what a try does with an end -/
def tryP (c : Nat) (h : Env → Own → Nat → List PV → Option Out) : Option (Out × St) → Option (Out × St)
  | some (.ex d fs σ w, s) => if subC d c then (h σ w d fs).map fun o => (o, s) else some (.ex d fs σ w, s)
  | o => o
section
variable (C : Nat → List PV → St → Rz (PV × Bool))
def pLX : XL → Env → St → Rz (List (PV × Bool))
  | .nil, _, s => .ok [] s
  | .cons e es, σ, s => (pX C e σ s).bind fun x s => (pLX es σ s).bind fun xs s => .ok (x :: xs) s
mutual
def pS : XS → Env → Own → St → Option (Out × St)
  | .asg tg e, σ, w, s => (pX C e σ s).run σ (rel w (esc e ++ bare e)) fun r s => match tg with
    | .nm i => some (.nx (σ.set i (some r.1)) (own1 (rel w (esc e ++ bare e)) i r), s)
    | .tp l => (asns l (match r.1 with
      | .tup xs => xs
      | _ => []) σ).bind fun σ' => if (match r.1 with
      | .tup _ => true
      | _ => false) then some (.nx σ' (rel (rel w (esc e ++ bare e)) (TgE.slotsL l)), s) else none
  | .asgP i e, σ, w, s => (pX C e σ s).run σ (rel w (esc e ++ bare e)) fun r s => match r with
    | (.lv xs, true) => if xs.all shP then some (.nx (σ.set i (some (.ref s.length))) (rel (rel w (esc e ++ bare e)) [i]), s ++ [xs]) else none
    | _ => none
  | .par is es, σ, w, s => (pLX C es σ s).run σ (rel w (escL es ++ bareL es)) fun rs s => (setAll σ (rel w (escL es ++ bareL es)) is rs).map fun q => (.nx q.1 q.2, s)
  | .setIx i x e, σ, w, s => match σ[i]? with
    | some (some o) => (pE C e σ s).run σ (rel w (esc e ++ (bare e ++ esc x))) fun v s => (pE C x σ s).run σ (rel w (esc e ++ (bare e ++ esc x))) fun j s => match o, j with
      | .lv xs, .int j => if (rel w (esc e ++ (bare e ++ esc x))).contains i then (ixE xs.length j).map fun k => (.nx (σ.set i (some (.lv (xs.set k v)))) (rel w (esc e ++ (bare e ++ esc x))), s) else none
      | .ref n, .int j => if shP v then (match s[n]? with
        | some xs => (ixE xs.length j).map fun k => (.nx σ (rel w (esc e ++ (bare e ++ esc x))), s.set n (xs.set k v))
        | none => none) else none
      | _, _ => none
    | _ => none
  | .dput i x e, σ, w, s => match σ[i]? with
    | some (some o) => (pE C e σ s).run σ (rel w (esc e ++ (bare e ++ esc x))) fun v s => (pE C x σ s).run σ (rel w (esc e ++ (bare e ++ esc x))) fun j s =>
      if (rel w (esc e ++ (bare e ++ esc x))).contains i then (match dctAt o j with
        | some d => if d.2.1.length < line then some (.nx (σ.set i (some (Pu.dput j v d.1 d.2.1 d.2.2))) (rel w (esc e ++ (bare e ++ esc x))), s) else none
        | none => none) else none
    | _ => none
  | .aug i op e, σ, w, s => match σ[i]? with
    | some (some (.int a)) => (pE C e σ s).run σ (rel w (esc e)) fun v s => match v with
      | .int b => (bop op (.int a) (.int b)).map fun q => (.nx (σ.set i (some q)) (rel w (esc e)), s)
      | _ => none
    | _ => none
  | .ex e, σ, w, s => (pE C e σ s).run σ (rel w (esc e)) fun _ s => some (.nx σ (rel w (esc e)), s)
  | .chg m i es, σ, w, s => match σ[i]? with
    | some (some (.lv xs)) => if (rel w (escL es ++ bareL es)).contains i then (pL C es σ s).run σ (rel w (escL es ++ bareL es)) fun vs s => (Pu.chg m xs vs).map fun r => (.nx (σ.set i (some (.lv r.2))) (rel w (escL es ++ bareL es)), s) else none
    | _ => none
  | .asgC j m i es, σ, w, s => match σ[i]? with
    | some (some (.lv xs)) => if (rel w (escL es ++ bareL es)).contains i && !(i == j) then (pL C es σ s).run σ (rel w (escL es ++ bareL es)) fun vs s => (Pu.chg m xs vs).map fun r => (.nx ((σ.set i (some (.lv r.2))).set j (some r.1)) (rel (rel w (escL es ++ bareL es)) [j]), s) else none
    | _ => none
  | .iff t a b, σ, w, s => ((pE C t σ s).bind asB).run σ (rel w (esc t)) fun c s => if c then pB a σ (rel w (esc t)) s else pB b σ (rel w (esc t)) s
  | .for tg it body kills, σ, w, s => (pI C it σ s).run σ (rel w (escI it ++ bareI it)) fun xs s => forP (forTurn tg kills (fun σ w s => pB body σ w s)) xs σ (rel w (escI it ++ bareI it)) s
  | .wh t body kills, σ, w, s => whP (esc t) (fun σ s => (pE C t σ s).bind asB) (fun σ w s => kill kills (pB body σ w s)) fuel σ w s
  | .ret e, σ, w, s => (pX C e σ s).run σ (rel w (esc e ++ bare e)) fun r s => some (.rt r.1 (r.2 || ownV w e), s)
  | .retN, _, _, s => some (.rt .non false, s)
  | .brk, σ, w, s => some (.bk σ w, s)
  | .cnt, σ, w, s => some (.ct σ w, s)
  | .pass, σ, w, s => some (.nx σ w, s)
  | .never, _, _, _ => none
  | .raise c, σ, w, s => some (.ex c [] σ w, s)
  | .tryAs b c i j, σ, w, s => tryP c (fun σ w d fs => if fs.isEmpty && decide (i < σ.length) then some (.nx ((σ.set j (some (.exc d fs))).set i none) (rel w [i, j])) else none) (pB b σ w s)
  | .tryRet b c v, σ, w, s => tryP c (fun _ _ _ _ => some (.rt v false)) (pB b σ w s)
  | .tryCnt b c, σ, w, s => tryP c (fun σ w _ _ => some (.ct σ w)) (pB b σ w s)
def pB : XB → Env → Own → St → Option (Out × St)
  | .nil, σ, w, s => some (.nx σ w, s)
  | .cons st r, σ, w, s => match pS st σ w s with
    | some (.nx σ' w', s') => pB r σ' w' s'
    | some (.rt v fr, s') => some (.rt v fr, s')
    | some (.bk σ' w', s') => some (.bk σ' w', s')
    | some (.ct σ' w', s') => some (.ct σ' w', s')
    | some (.ex c fs σ' w', s') => some (.ex c fs σ' w', s')
    | none => none
end
end

/-! ### a program: its defs -/
structure Dfn where
  np : Nat
  nl : Nat
  body : XB
def runD (D : List (Nat × Dfn)) : Nat → Nat → List PV → St → Rz (PV × Bool)
  | 0, _, _, _ => .no
  | k + 1, f, vs, s => match D.lookup f with
    | none => .no
    | some d => if vs.length = d.np then (match pB (runD D k) d.body (vs.map some ++ List.replicate (d.nl - d.np) none) [] s with
        | some (.nx _ _, s2) => .ok (.non, false) s2
        | some (.rt v fr, s2) => .ok (v, fr) s2
        | some (.ex c fs _ _, s2) => .ex c fs s2
        | _ => .no)
      else .no
end Pu

set_option linter.all false
set_option autoImplicit false
set_option maxRecDepth 100000
/-! P2: what a value, a state of the evaluator says of the machine. -/
namespace Pu
open PySem PySem.Spec PyProof.Rows L2

/-! ### lists -/
theorem lt_of_get {α : Type} {l : List α} {i : Nat} {x : α} (h : l[i]? = some x) : i < l.length := by
  cases Nat.lt_or_ge i l.length with
  | inl h1 => exact h1
  | inr h1 => rw [List.getElem?_eq_none h1] at h; cases h
theorem get_end {α : Type} {l : List α} {x : α} : (l ++ [x])[l.length]? = some x := by
  rw [List.getElem?_append_right (Nat.le_refl _), Nat.sub_self]
  rfl

/-- a dict's key, as it is read -/
def kP : Key → PV
  | .inl i => .int i
  | .inr x => .str x.cps.toList
def kPs (ks : List Key) : PV := .tup (ks.map kP)
/-- an error of the class at C -/
def ExH (C a : Addr) : HO := .ext fun h => ∃ (oe : Obj) (vs : Array Value), h.get? a = some oe ∧ Zc (.ref C) none oe ∧ oe.data = .fields vs
def DctA (H : Hp) (a : Addr) (t : Bool) (ks : List PV) (vs : List V) : Prop :=
  match t with
  | false => ∃ l : List (Key × V), H a = some (.dK l) ∧ (l.map fun p => kP p.1) = ks ∧ l.map (·.2) = vs
  | true => ∃ l : List (List Key × V), H a = some (.dT l) ∧ (l.map fun p => kPs p.1) = ks ∧ l.map (·.2) = vs
/-- where the errors' classes stand, which of them are known -/
structure Cl where
  A : Nat → Addr
  O : Nat → Prop
/-- ρ: the shared lists; Z: what others alone may change -/
structure Vw where
  cl : Cl
  ρ : List Addr
  Z : Addr → Prop
  H : Hp
mutual
def RV (w : Vw) : PV → V → Prop
  | .non, v => v = .non
  | .bl b, v => v = .bl b
  | .int i, v => v = .int i
  | .str x, v => v = .str ⟨⟨x⟩⟩
  | .tup xs, v => ∃ a vs, v = .ref a ∧ w.H a = some (.tup vs) ∧ RVs w xs vs
  | .lv xs, v => ∃ a vs, v = .ref a ∧ (¬ w.Z a ∧ a ∉ w.ρ) ∧ Rd w.H a (.lst vs) ∧ RVs w xs vs
  | .ref n, v => ∃ a, v = .ref a ∧ w.ρ[n]? = some a
  | .dv t ks xs, v => ∃ a vs, v = .ref a ∧ (¬ w.Z a ∧ a ∉ w.ρ) ∧ DctA w.H a t ks vs ∧ RVs w xs vs
  | .exc c fs, v => ∃ a, v = .ref a ∧ w.H a = some (ExH (w.cl.A c) a) ∧ fs = [] ∧ w.cl.O c
def RVs (w : Vw) : List PV → List V → Prop
  | [], vs => vs = []
  | x :: xs, vs => ∃ u us, vs = u :: us ∧ RV w x u ∧ RVs w xs us
end
/-- never changes -/
def Imm : HO → Prop
  | .tup _ => True
  | .ext _ => True
  | _ => False
/-- what was known stays known -/
structure Gr (w w' : Vw) : Prop where
  cls : w'.cl = w.cl
  pre : ∀ (n : Nat) (a : Addr), w.ρ[n]? = some a → w'.ρ[n]? = some a
  keep : ∀ a o, w.H a = some o → ¬ w.Z a → a ∉ w.ρ → w'.H a = some o ∧ (¬ w'.Z a ∧ a ∉ w'.ρ)
  imm : ∀ a o, w.H a = some o → Imm o → w'.H a = some o
section
variable {w w' w2 : Vw}
theorem Gr.refl : Gr w w := ⟨rfl, fun _ _ h => h, fun _ _ h h1 h2 => ⟨h, h1, h2⟩, fun _ _ h _ => h⟩
theorem Gr.trans (a : Gr w w') (b : Gr w' w2) : Gr w w2 :=
  ⟨b.cls.trans a.cls, fun n x h => b.pre n x (a.pre n x h), fun x o h h1 h2 => by
    obtain ⟨q, q1, q2⟩ := a.keep x o h h1 h2
    exact b.keep x o q q1 q2, fun x o h i => b.imm x o (a.imm x o h i) i⟩
theorem dct_same {H H' : Hp} {a : Addr} {t : Bool} {ks : List PV} {vs : List V} (h : DctA H a t ks vs) (e : ∀ o, H a = some o → H' a = some o) : DctA H' a t ks vs := by
  cases t with
  | false =>
    obtain ⟨l, q, r⟩ := h
    exact ⟨l, e _ q, r⟩
  | true =>
    obtain ⟨l, q, r⟩ := h
    exact ⟨l, e _ q, r⟩
theorem dct_some {H : Hp} {a : Addr} {t : Bool} {ks : List PV} {vs : List V} (h : DctA H a t ks vs) : ∃ o, H a = some o := by
  cases t with
  | false =>
    obtain ⟨l, q, r⟩ := h
    exact ⟨_, q⟩
  | true =>
    obtain ⟨l, q, r⟩ := h
    exact ⟨_, q⟩
theorem rd_some {H : Hp} {a : Addr} {u : HO} (h : Rd H a u) : ∃ o, H a = some o := by
  rcases h with h | ⟨o, h⟩
  · exact ⟨_, h⟩
  · exact ⟨_, h⟩
theorem rd_same {H H' : Hp} {a : Addr} {u : HO} (h : Rd H a u) (e : ∀ o, H a = some o → H' a = some o) : Rd H' a u := by
  rcases h with h | ⟨o, h⟩
  · exact .inl (e _ h)
  · exact .inr ⟨o, e _ h⟩
mutual
theorem RV.mo (k : Gr w w') : ∀ (p : PV) (v : V), RV w p v → RV w' p v
  | .non, _, h => by unfold RV at h ⊢; exact h
  | .bl _, _, h => by unfold RV at h ⊢; exact h
  | .int _, _, h => by unfold RV at h ⊢; exact h
  | .str _, _, h => by unfold RV at h ⊢; exact h
  | .ref n, v, h => by
    unfold RV at h ⊢
    obtain ⟨a, e, q⟩ := h
    exact ⟨a, e, k.pre _ _ q⟩
  | .tup xs, v, h => by
    unfold RV at h ⊢
    obtain ⟨a, vs, e, q, r⟩ := h
    exact ⟨a, vs, e, k.imm _ _ q trivial, RVs.mo k xs vs r⟩
  | .lv xs, v, h => by
    unfold RV at h ⊢
    obtain ⟨a, vs, e, ⟨z1, z2⟩, q, r⟩ := h
    obtain ⟨o, qo⟩ := rd_some q
    exact ⟨a, vs, e, (k.keep a o qo z1 z2).2, rd_same q fun o h => (k.keep a o h z1 z2).1, RVs.mo k xs vs r⟩
  | .dv t ks xs, v, h => by
    unfold RV at h ⊢
    obtain ⟨a, vs, e, ⟨z1, z2⟩, q, r⟩ := h
    obtain ⟨o, qo⟩ := dct_some q
    exact ⟨a, vs, e, (k.keep a o qo z1 z2).2, dct_same q fun o h => (k.keep a o h z1 z2).1, RVs.mo k xs vs r⟩
  | .exc c fs, v, h => by
    unfold RV at h ⊢
    obtain ⟨a, e, q, r⟩ := h
    exact ⟨a, e, by rw [k.cls]; exact k.imm _ _ q trivial, r.1, by rw [k.cls]; exact r.2⟩
theorem RVs.mo (k : Gr w w') : ∀ (ps : List PV) (vs : List V), RVs w ps vs → RVs w' ps vs
  | [], _, h => by unfold RVs at h ⊢; exact h
  | x :: xs, vs, h => by
    unfold RVs at h ⊢
    obtain ⟨u, us, e, q, r⟩ := h
    exact ⟨u, us, e, RV.mo k x u q, RVs.mo k xs us r⟩
end

/-! ### lists of values -/
theorem RVs.nil : RVs w [] [] := by unfold RVs; rfl
theorem RVs.cons {p : PV} {ps : List PV} {v : V} {vs : List V} (h : RV w p v) (r : RVs w ps vs) : RVs w (p :: ps) (v :: vs) := by
  unfold RVs; exact ⟨v, vs, rfl, h, r⟩
theorem RVs.inv {p : PV} {ps : List PV} {vs : List V} (h : RVs w (p :: ps) vs) : ∃ u us, vs = u :: us ∧ RV w p u ∧ RVs w ps us := by
  unfold RVs at h; exact h
theorem RVs.inv0 {vs : List V} (h : RVs w [] vs) : vs = [] := by unfold RVs at h; exact h
theorem RVs.length : ∀ {ps : List PV} {vs : List V}, RVs w ps vs → ps.length = vs.length
  | [], _, h => by rw [h.inv0]; rfl
  | _ :: _, _, h => by
    obtain ⟨u, us, e, _, r⟩ := h.inv
    rw [e, List.length_cons, List.length_cons, RVs.length r]
theorem RVs.get : ∀ {ps : List PV} {vs : List V} {i : Nat} {p : PV}, RVs w ps vs → ps[i]? = some p → ∃ v, vs[i]? = some v ∧ RV w p v
  | [], _, _, _, _, e => by simp at e
  | x :: xs, _, 0, p, h, e => by
    obtain ⟨u, us, rfl, q, _⟩ := h.inv
    simp at e
    subst e
    exact ⟨u, rfl, q⟩
  | x :: xs, _, i + 1, p, h, e => by
    obtain ⟨u, us, rfl, _, r⟩ := h.inv
    obtain ⟨v, a, b⟩ := RVs.get (i := i) r (by simpa using e)
    exact ⟨v, by simpa using a, b⟩
theorem RVs.get0 {ps : List PV} {vs : List V} {i : Nat} (h : RVs w ps vs) (e : ps[i]? = none) : vs.length ≤ i := by
  rw [← h.length]
  exact List.getElem?_eq_none_iff.mp e
theorem RVs.append : ∀ {ps qs : List PV} {vs us : List V}, RVs w ps vs → RVs w qs us → RVs w (ps ++ qs) (vs ++ us)
  | [], _, _, _, h, r => by rw [h.inv0]; exact r
  | x :: xs, _, _, _, h, r => by
    obtain ⟨u, us', rfl, q, r'⟩ := h.inv
    exact .cons q (RVs.append r' r)
theorem RVs.set {p : PV} {v : V} (hp : RV w p v) : ∀ {ps : List PV} {vs : List V} (i : Nat), RVs w ps vs → RVs w (ps.set i p) (vs.set i v)
  | [], _, _, h => by rw [h.inv0]; exact .nil
  | x :: xs, _, 0, h => by
    obtain ⟨u, us', rfl, q, r'⟩ := h.inv
    exact .cons hp r'
  | x :: xs, _, i + 1, h => by
    obtain ⟨u, us', rfl, q, r'⟩ := h.inv
    exact .cons q (RVs.set hp i r')
theorem RVs.take : ∀ {ps : List PV} {vs : List V} (i : Nat), RVs w ps vs → RVs w (ps.take i) (vs.take i)
  | _, _, 0, _ => by simpa using RVs.nil
  | [], _, _ + 1, h => by rw [h.inv0]; exact .nil
  | x :: xs, _, i + 1, h => by
    obtain ⟨u, us', rfl, q, r'⟩ := h.inv
    exact .cons q (RVs.take i r')
theorem RVs.drop : ∀ {ps : List PV} {vs : List V} (i : Nat), RVs w ps vs → RVs w (ps.drop i) (vs.drop i)
  | _, _, 0, h => h
  | [], _, _ + 1, h => by rw [h.inv0]; exact .nil
  | x :: xs, _, i + 1, h => by
    obtain ⟨u, us', rfl, q, r'⟩ := h.inv
    exact RVs.drop i r'
theorem RVs.reverse : ∀ {ps : List PV} {vs : List V}, RVs w ps vs → RVs w ps.reverse vs.reverse
  | [], _, h => by rw [h.inv0]; exact .nil
  | x :: xs, _, h => by
    obtain ⟨u, us', rfl, q, r'⟩ := h.inv
    rw [List.reverse_cons, List.reverse_cons]
    exact .append (RVs.reverse r') (.cons q .nil)
theorem RVs.erase : ∀ {ps : List PV} {vs : List V} (i : Nat), RVs w ps vs → RVs w (ps.eraseIdx i) (vs.eraseIdx i)
  | [], _, _, h => by rw [h.inv0]; exact .nil
  | x :: xs, _, 0, h => by
    obtain ⟨u, us', rfl, q, r'⟩ := h.inv
    exact r'
  | x :: xs, _, i + 1, h => by
    obtain ⟨u, us', rfl, q, r'⟩ := h.inv
    exact .cons q (RVs.erase i r')
theorem RVs.dropLast {ps : List PV} {vs : List V} (h : RVs w ps vs) : RVs w ps.dropLast vs.dropLast := by
  rw [List.dropLast_eq_take, List.dropLast_eq_take, h.length]
  exact h.take _
theorem RVs.rep {ps : List PV} {vs : List V} (h : RVs w ps vs) : ∀ k : Nat, RVs w (List.replicate k ps).flatten (List.replicate k vs).flatten
  | 0 => .nil
  | k + 1 => by
    rw [List.replicate_succ, List.replicate_succ, List.flatten_cons, List.flatten_cons]
    exact .append h (RVs.rep h k)
theorem RVs.one {p : PV} {vs : List V} (h : RVs w [p] vs) : ∃ v, vs = [v] ∧ RV w p v := by
  obtain ⟨u, us, rfl, a, b⟩ := h.inv
  rw [b.inv0]
  exact ⟨u, rfl, a⟩
theorem RVs.two {p q : PV} {vs : List V} (h : RVs w [p, q] vs) : ∃ v u, vs = [v, u] ∧ RV w p v ∧ RV w q u := by
  obtain ⟨u, us, rfl, a, b⟩ := h.inv
  obtain ⟨v, rfl, c⟩ := b.one
  exact ⟨u, v, rfl, a, c⟩

/-! ### a thing that one slot owns -/
def OW (w : Vw) (p : PV) (a : Addr) : Prop := a ∉ w.ρ ∧ match p with
  | .lv xs => ∃ vs, w.H a = some (.lst vs) ∧ RVs w xs vs
  | .dv t ks xs => ∃ vs, DctA w.H a t ks vs ∧ RVs w xs vs
  | _ => False
/-- a value that is read alone -/
def RW (w : Vw) (p : PV) (v : V) : Prop := RV w p v ∨ ∃ a, v = .ref a ∧ OW w p a
def RWs (w : Vw) : List PV → List V → Prop
  | [], vs => vs = []
  | x :: xs, vs => ∃ u us, vs = u :: us ∧ RW w x u ∧ RWs w xs us
theorem RWs.of : ∀ {ps : List PV} {vs : List V}, RVs w ps vs → RWs w ps vs
  | [], _, h => h.inv0
  | x :: xs, _, h => by
    obtain ⟨u, us, rfl, a, b⟩ := h.inv
    exact ⟨u, us, rfl, .inl a, RWs.of b⟩
theorem RWs.one {p : PV} {vs : List V} (h : RWs w [p] vs) : ∃ v, vs = [v] ∧ RW w p v := by
  obtain ⟨u, us, rfl, a, b⟩ := h
  rw [show us = [] from b]
  exact ⟨u, rfl, a⟩
theorem RWs.two {p q : PV} {vs : List V} (h : RWs w [p, q] vs) : ∃ v u, vs = [v, u] ∧ RW w p v ∧ RW w q u := by
  obtain ⟨u, us, rfl, a, b⟩ := h
  obtain ⟨v, rfl, c⟩ := b.one
  exact ⟨u, v, rfl, a, c⟩
theorem rv_int {i : Int} {v : V} (h : RW w (.int i) v) : v = .int i := by
  rcases h with h | ⟨a, e, h⟩
  · unfold RV at h; exact h
  · exact h.2.elim
theorem rv_bl {i : Bool} {v : V} (h : RW w (.bl i) v) : v = .bl i := by
  rcases h with h | ⟨a, e, h⟩
  · unfold RV at h; exact h
  · exact h.2.elim
theorem rv_str {i : Sg} {v : V} (h : RW w (.str i) v) : v = .str ⟨⟨i⟩⟩ := by
  rcases h with h | ⟨a, e, h⟩
  · unfold RV at h; exact h
  · exact h.2.elim
theorem rv_non {v : V} (h : RW w .non v) : v = .non := by
  rcases h with h | ⟨a, e, h⟩
  · unfold RV at h; exact h
  · exact h.2.elim
theorem rv_tup {xs : List PV} {v : V} (h : RW w (.tup xs) v) : ∃ a vs, v = .ref a ∧ w.H a = some (.tup vs) ∧ RVs w xs vs := by
  rcases h with h | ⟨a, e, h⟩
  · unfold RV at h; exact h
  · exact h.2.elim
theorem rv_lv {xs : List PV} {v : V} (h : RW w (.lv xs) v) : ∃ a vs, v = .ref a ∧ Rd w.H a (.lst vs) ∧ RVs w xs vs := by
  rcases h with h | ⟨a, e, h⟩
  · unfold RV at h
    obtain ⟨a, vs, e, _, q, r⟩ := h
    exact ⟨a, vs, e, q, r⟩
  · obtain ⟨_, vs, q, r⟩ := h
    exact ⟨a, vs, e, .inl q, r⟩
theorem rv_dv {t : Bool} {ks xs : List PV} {v : V} (h : RW w (.dv t ks xs) v) : ∃ a vs, v = .ref a ∧ DctA w.H a t ks vs ∧ RVs w xs vs := by
  rcases h with h | ⟨a, e, h⟩
  · unfold RV at h
    obtain ⟨a, vs, e, _, q, r⟩ := h
    exact ⟨a, vs, e, q, r⟩
  · obtain ⟨_, vs, q, r⟩ := h
    exact ⟨a, vs, e, q, r⟩
theorem rv_ref {n : Nat} {v : V} (h : RW w (.ref n) v) : ∃ a, v = .ref a ∧ w.ρ[n]? = some a := by
  rcases h with h | ⟨a, e, h⟩
  · unfold RV at h; exact h
  · exact h.2.elim
theorem rv_exc {c : Nat} {fs : List PV} {v : V} (h : RW w (.exc c fs) v) : ∃ a, v = .ref a ∧ w.H a = some (ExH (w.cl.A c) a) ∧ fs = [] ∧ w.cl.O c := by
  rcases h with h | ⟨a, e, h⟩
  · unfold RV at h; exact h
  · exact h.2.elim
theorem rv_int' (i : Int) : RV w (.int i) (.int i) := by unfold RV; rfl
theorem rv_bl' (i : Bool) : RV w (.bl i) (.bl i) := by unfold RV; rfl
theorem rv_str' (i : Sg) : RV w (.str i) (.str ⟨⟨i⟩⟩) := by unfold RV; rfl
theorem rv_non' : RV w .non .non := by unfold RV; rfl
theorem rv_tup' {xs : List PV} {a : Addr} {vs : List V} (h : w.H a = some (.tup vs)) (r : RVs w xs vs) : RV w (.tup xs) (.ref a) := by
  unfold RV
  exact ⟨a, vs, rfl, h, r⟩
/-- what a reader of a list, a tuple sees -/
theorem rv_seqL {p : PV} {xs : List PV} {v : V} (h : seqL p = some xs) (r : RW w p v) (K : PySem.W.Frag) : ∃ a vs, v = .ref a ∧ (SqL K w.H a vs ∨ w.H a = some (.tup vs)) ∧ RVs w xs vs := by
  cases p with
  | tup ys =>
    cases h
    obtain ⟨a, vs, e, q, r⟩ := rv_tup r
    exact ⟨a, vs, e, .inr q, r⟩
  | lv ys =>
    cases h
    obtain ⟨a, vs, e, q, r⟩ := rv_lv r
    exact ⟨a, vs, e, .inl (.inl q), r⟩
  | _ => cases h
theorem RVs.ints (f : Nat → Int) : ∀ l : List Nat, RVs w (l.map fun k => PV.int (f k)) (l.map fun k => V.int (f k))
  | [] => .nil
  | _ :: r => .cons (rv_int' _) (RVs.ints f r)
end

/-! ### states -/
structure Rel (w : Vw) (s : St) : Prop where
  len : w.ρ.length = s.length
  nd : w.ρ.Nodup
  pen : ∀ (n : Nat) (xs : List PV) (a : Addr), s[n]? = some xs → w.ρ[n]? = some a → ∃ vs, w.H a = some (.lst vs) ∧ RVs w xs vs
  zin : ∀ a, w.Z a → ∃ o, w.H a = some o
  sh : ∀ (n : Nat) (xs : List PV), s[n]? = some xs → xs.all shP = true
/-- within an expression: nothing but the shared lists changes -/
structure GrE (w w' : Vw) : Prop where
  cls : w'.cl = w.cl
  pre : ∀ (n : Nat) (a : Addr), w.ρ[n]? = some a → w'.ρ[n]? = some a
  all : ∀ a o, w.H a = some o → a ∉ w.ρ → w'.H a = some o
  imm : ∀ a o, w.H a = some o → Imm o → w'.H a = some o
  zE : w'.Z = w.Z
  newρ : ∀ a ∈ w'.ρ, a ∈ w.ρ ∨ w.H a = none
  live : ∀ a, w'.H a = none → w.H a = none
section
variable {w w' w2 : Vw} {s s' : St}
theorem GrE.refl : GrE w w := ⟨rfl, fun _ _ h => h, fun _ _ h _ => h, fun _ _ h _ => h, rfl, fun _ h => .inl h, fun _ h => h⟩
theorem GrE.notρ (a : GrE w w') {x : Addr} {o : HO} (h : w.H x = some o) (h1 : x ∉ w.ρ) : x ∉ w'.ρ := fun z => by
  rcases a.newρ x z with q | q
  · exact h1 q
  · rw [h] at q; cases q
theorem GrE.gr (a : GrE w w') : Gr w w' := ⟨a.cls, a.pre, fun x o h h1 h2 => ⟨a.all x o h h2, by rw [a.zE]; exact h1, a.notρ h h2⟩, a.imm⟩
theorem GrE.trans (a : GrE w w') (b : GrE w' w2) : GrE w w2 :=
  ⟨b.cls.trans a.cls, fun n x h => b.pre n x (a.pre n x h), fun x o h h1 => b.all x o (a.all x o h h1) (a.notρ h h1), fun x o h i => b.imm x o (a.imm x o h i) i, b.zE.trans a.zE, fun x h => by
    rcases b.newρ x h with q | q
    · exact a.newρ x q
    · exact .inr (a.live x q), fun x h => a.live x (b.live x h)⟩
theorem OW.mo (a : GrE w w') {p : PV} {x : Addr} (h : OW w p x) : OW w' p x := by
  obtain ⟨h1, h2⟩ := h
  cases p with
  | lv xs =>
    obtain ⟨vs, q, r⟩ := h2
    exact ⟨a.notρ q h1, vs, a.all _ _ q h1, r.mo a.gr _ _⟩
  | dv t ks xs =>
    obtain ⟨vs, q, r⟩ := h2
    obtain ⟨o, qo⟩ := dct_some q
    exact ⟨a.notρ qo h1, vs, dct_same q fun o h => a.all _ _ h h1, r.mo a.gr _ _⟩
  | _ => exact h2.elim
theorem RW.mo (a : GrE w w') {p : PV} {v : V} (h : RW w p v) : RW w' p v := by
  rcases h with h | ⟨x, e, h⟩
  · exact .inl (h.mo a.gr _ _)
  · exact .inr ⟨x, e, h.mo a⟩
theorem RWs.mo (a : GrE w w') : ∀ {ps : List PV} {vs : List V}, RWs w ps vs → RWs w' ps vs
  | [], _, h => h
  | _ :: _, _, h => by
    obtain ⟨u, us, e, q, r⟩ := h
    exact ⟨u, us, e, q.mo a, RWs.mo a r⟩
/-- a new object -/
abbrev Vw.upd (w : Vw) (a : Addr) (o : HO) : Vw := { w with H := L2.upd w.H a o }
theorem GrE.new {p : Addr} {o : HO} (h : w.H p = none) : GrE w (w.upd p o) := by
  have k : ∀ a u, w.H a = some u → L2.upd w.H p o a = some u := fun a u q => by rw [upd_ne (ne_of_none q h)]; exact q
  refine ⟨rfl, fun _ _ h => h, fun a u q _ => k a u q, fun a u q _ => k a u q, rfl, fun _ h => .inl h, fun a q => ?_⟩
  have q : L2.upd w.H p o a = none := q
  by_cases e : a = p
  · rw [e, upd_same] at q; cases q
  · rw [upd_ne e] at q; exact q
theorem Rel.new (R : Rel w s) {p : Addr} {o : HO} (h : w.H p = none) : Rel (w.upd p o) s where
  len := R.len
  nd := R.nd
  pen := fun n xs a h1 h2 => by
    obtain ⟨vs, q, r⟩ := R.pen n xs a h1 h2
    exact ⟨vs, (by show L2.upd w.H p o a = _; rw [upd_ne (ne_of_none q h)]; exact q), r.mo (GrE.new h).gr _ _⟩
  zin := fun a z => by
    obtain ⟨u, q⟩ := R.zin a z
    exact ⟨u, (by show L2.upd w.H p o a = _; rw [upd_ne (ne_of_none q h)]; exact q)⟩
  sh := R.sh
theorem Rel.notZ (R : Rel w s) {p : Addr} (h : w.H p = none) : ¬ w.Z p := fun z => by
  obtain ⟨o, q⟩ := R.zin p z
  rw [h] at q; cases q
theorem Rel.notρ (R : Rel w s) {p : Addr} (h : w.H p = none) : p ∉ w.ρ := fun z => by
  obtain ⟨n, hn⟩ := List.mem_iff_getElem?.mp z
  have l := lt_of_get hn
  rw [R.len] at l
  obtain ⟨vs, q, _⟩ := R.pen n s[n] p (List.getElem?_eq_getElem l) hn
  rw [h] at q; cases q
/-- a new list, a new tuple, a new dict -/
theorem RV.newL (R : Rel w s) {p : Addr} (h : w.H p = none) {xs : List PV} {vs : List V} (r : RVs w xs vs) : RV (w.upd p (.lst vs)) (.lv xs) (.ref p) := by
  unfold RV
  exact ⟨p, vs, rfl, ⟨R.notZ h, R.notρ h⟩, .inl upd_same, r.mo (GrE.new h).gr _ _⟩
theorem RV.newT {p : Addr} (h : w.H p = none) {xs : List PV} {vs : List V} (r : RVs w xs vs) : RV (w.upd p (.tup vs)) (.tup xs) (.ref p) := by
  unfold RV
  exact ⟨p, vs, rfl, upd_same, r.mo (GrE.new h).gr _ _⟩
end
end Pu

set_option linter.all false
set_option autoImplicit false
set_option maxRecDepth 100000
/-! P3: readings by the evaluator. -/
namespace Pu
open PySem PySem.Spec PyProof.Rows L2

/-- the slots, within an expression; es: those that nobody owns -/
structure XR (w : Vw) (s : St) (es : List Nat) (e : Env) (σ : L2.St) : Prop where
  rel : Rel w s
  len : e.length = σ.length
  val : ∀ (i : Nat) (p : PV), e[i]? = some (some p) → ∃ v, σ[i]? = some (some v) ∧ RW w p v ∧ (i ∈ es → RV w p v)
def exP (fs : List PV) (d : Option Addr) : Prop := fs = [] → d = none
def RzOk {α : Type} (ok : α → St → Prop) (ex : Nat → List PV → St → Prop) : Rz α → Prop
  | .no => False
  | .ok a s => ok a s
  | .ex c fs s => ex c fs s
def Goes {α β : Type} (cl : Cl) (W : WX) (V : Vw → Vw → α → β → Prop) (σ : L2.St) (Q : β → Hp → Prop) (w : Vw) (r : Rz α) : Prop :=
  RzOk (fun a s => ∀ w' u, Rel w' s → GrE w w' → V w w' a u → Q u w'.H) (fun c fs s => ∀ w' d, Rel w' s → GrE w w' → exP fs d → cl.O c → W (.ref (cl.A c)) d σ w'.H) r
def tG {α β : Type} (cl : Cl) (W : WX) (V : Vw → Vw → α → β → Prop) (es : List Nat) (f : Env → St → Rz α) : L2.St → Hp → (β → Hp → Prop) → Prop := fun σ H Q =>
  ∃ (w : Vw) (e : Env) (s : St), w.H = H ∧ w.cl = cl ∧ XR w s es e σ ∧ Goes cl W V σ Q w (f e s)
/-- the list at a is new, and nobody else has it -/
def FrV (w w' : Vw) (p : PV) (u : V) : Prop := p.isM = true → ∃ a, u = .ref a ∧ w.H a = none ∧ OW { w' with Z := fun b => w'.Z b ∨ b = a } p a
abbrev VR : Vw → Vw → PV → V → Prop := fun _ w' p u => RW w' p u
abbrev VV : Vw → Vw → PV → V → Prop := fun _ w' p u => RV w' p u
abbrev VN : Vw → Vw → PV → V → Prop := fun w w' p u => RV w' p u ∧ FrV w w' p u
abbrev VF : Vw → Vw → PV × Bool → V → Prop := fun w w' r u => RV w' r.1 u ∧ (r.2 = true → FrV w w' r.1 u)
abbrev VRs : Vw → Vw → List PV → List V → Prop := fun _ w' p u => RWs w' p u
abbrev VVs : Vw → Vw → List PV → List V → Prop := fun _ w' p u => RVs w' p u
abbrev VB : Vw → Vw → Bool → Bool → Prop := fun _ _ b c => b = c
section
variable {cl : Cl} {W : WX} {σ : L2.St} {H : Hp} {w w1 w' : Vw} {e : Env} {s s' : St} {es es1 es2 : List Nat}
theorem FrV.an (g : GrE w w1) {p : PV} {u : V} (h : FrV w1 w' p u) : FrV w w' p u := fun m => by
  obtain ⟨a, e, q, r⟩ := h m
  exact ⟨a, e, g.live a q, r⟩
def An {α β : Type} (V : Vw → Vw → α → β → Prop) : Prop := ∀ (w w1 w' : Vw) (c : α) (d : β), GrE w w1 → V w1 w' c d → V w w' c d
theorem an_R : An VR := fun _ _ _ _ _ _ h => h
theorem an_V : An VV := fun _ _ _ _ _ _ h => h
theorem an_N : An VN := fun _ _ _ _ _ g h => ⟨h.1, h.2.an g⟩
theorem an_F : An VF := fun _ _ _ _ _ g h => ⟨h.1, fun b => (h.2 b).an g⟩
theorem an_Rs : An VRs := fun _ _ _ _ _ _ h => h
theorem an_Vs : An VVs := fun _ _ _ _ _ _ h => h
theorem an_B : An VB := fun _ _ _ _ _ _ h => h
theorem XR.mo (x : XR w s es e σ) (g : GrE w w1) (R : Rel w1 s') : XR w1 s' es e σ :=
  ⟨R, x.len, fun i p h => by
    obtain ⟨v, a, b, c⟩ := x.val i p h
    exact ⟨v, a, b.mo g, fun z => (c z).mo g.gr _ _⟩⟩
theorem XR.sub (x : XR w s es e σ) (h : ∀ i ∈ es1, i ∈ es) : XR w s es1 e σ :=
  ⟨x.rel, x.len, fun i p q => by
    obtain ⟨v, a, b, c⟩ := x.val i p q
    exact ⟨v, a, b, fun z => c (h i z)⟩⟩
theorem Goes.mo {α β : Type} {V : Vw → Vw → α → β → Prop} (an : An V) {Q : β → Hp → Prop} {r : Rz α} (h : Goes cl W V σ Q w r) (g : GrE w w1) : Goes cl W V σ Q w1 r := by
  unfold Goes at h ⊢
  cases r with
  | no => exact h
  | ok a s => exact fun w' u R g' v => h w' u R (g.trans g') (an _ _ _ _ _ g v)
  | ex c fs s => exact fun w' d R g' x => h w' d R (g.trans g') x
theorem tG_weak {α β : Type} {V V' : Vw → Vw → α → β → Prop} {f : Env → St → Rz α} {Q : β → Hp → Prop} (hv : ∀ w w' a u, V' w w' a u → V w w' a u) (hs : ∀ i ∈ es1, i ∈ es) (h : tG cl W V es f σ H Q) : tG cl W V' es1 f σ H Q := by
  obtain ⟨w, e, s, h1, h2, x, h⟩ := h
  refine ⟨w, e, s, h1, h2, x.sub hs, ?_⟩
  unfold Goes at h ⊢
  cases q : f e s with
  | no => rw [q] at h; exact h
  | ok a s => rw [q] at h; exact fun w' u R g' v => h w' u R g' (hv _ _ _ _ v)
  | ex c fs s => rw [q] at h; exact h
theorem tG_then {α β : Type} {V : Vw → Vw → α → β → Prop} {f : Env → St → Rz α} {P P' : β → Hp → Prop} (h : tG cl W V es f σ H P) (k : ∀ u H1, P u H1 → P' u H1) : tG cl W V es f σ H P' := by
  obtain ⟨w, e, s, h1, h2, x, h⟩ := h
  refine ⟨w, e, s, h1, h2, x, ?_⟩
  unfold Goes at h ⊢
  cases q : f e s with
  | no => rw [q] at h; exact h
  | ok a s => rw [q] at h; exact fun w' u R g' v => k _ _ (h w' u R g' v)
  | ex c fs s => rw [q] at h; exact h
/-- .. from a state that is known -/
theorem tG_from {α β γ δ : Type} {V1 : Vw → α → β → Prop} {V2 : Vw → Vw → γ → δ → Prop} (an : An V2) {f : Env → St → Rz α} {g : α → St → Rz γ} {Q : δ → Hp → Prop} (sub : ∀ i ∈ es1, i ∈ es)
    (hc : w.cl = cl) (x : XR w s es e σ) (h : Goes cl W V2 σ Q w ((f e s).bind g)) :
    tG cl W (fun _ w' => V1 w') es1 f σ w.H fun u H1 => ∃ (w1 : Vw) (a : α) (s1 : St), w1.H = H1 ∧ w1.cl = cl ∧ GrE w w1 ∧ XR w1 s1 es e σ ∧ V1 w1 a u ∧ Goes cl W V2 σ Q w1 (g a s1) := by
  refine ⟨w, e, s, rfl, hc, x.sub sub, ?_⟩
  cases q : f e s with
  | no => simp only [q, Rz.bind] at h; exact h
  | ok a s1 =>
    simp only [q, Rz.bind] at h
    exact fun w1 u R g1 v => ⟨w1, a, s1, rfl, g1.cls.trans hc, g1, x.mo g1 R, v, h.mo an g1⟩
  | ex c fs s1 =>
    simp only [q, Rz.bind] at h
    exact h
/-- one thing, then another -/
theorem tG_bind {α β γ δ : Type} {V1 : Vw → α → β → Prop} {V2 : Vw → Vw → γ → δ → Prop} (an : An V2) {f : Env → St → Rz α} {g : α → Env → St → Rz γ} {Q : δ → Hp → Prop} (sub : ∀ i ∈ es1, i ∈ es)
    (h : tG cl W V2 es (fun e s => (f e s).bind fun a s1 => g a e s1) σ H Q) :
    tG cl W (fun _ w' => V1 w') es1 f σ H fun u H1 => ∃ (w1 : Vw) (a : α) (e : Env) (s1 : St), w1.H = H1 ∧ w1.cl = cl ∧ XR w1 s1 es e σ ∧ V1 w1 a u ∧ Goes cl W V2 σ Q w1 (g a e s1) := by
  obtain ⟨w, e, s, rfl, h2, x, h⟩ := h
  refine tG_then (tG_from (V1 := V1) an sub h2 x h) fun u H1 h => ?_
  obtain ⟨w1, a, s1, h1, h2, g, x, v, h⟩ := h
  exact ⟨w1, a, e, s1, h1, h2, x, v, h⟩
/-- two in a row -/
theorem tG_op' {α β γ δ : Type} {α' β' : Type} {V1 : Vw → α → β → Prop} {V1' : Vw → α' → β' → Prop} {V2 : Vw → Vw → γ → δ → Prop} (an : An V2) (mo : ∀ w w' a u, GrE w w' → V1 w a u → V1 w' a u) {fa : Env → St → Rz α} {fb : Env → St → Rz α'} {op : α → α' → Env → St → Rz γ} {Q : δ → Hp → Prop}
    (sa : ∀ i ∈ es1, i ∈ es) (sb : ∀ i ∈ es2, i ∈ es)
    (h : tG cl W V2 es (fun e s => (fa e s).bind fun x s1 => (fb e s1).bind fun y s2 => op x y e s2) σ H Q) :
    tG cl W (fun _ w' => V1 w') es1 fa σ H fun x H1 => tG cl W (fun _ w' => V1' w') es2 fb σ H1 fun y H2 => ∃ (w2 : Vw) (a : α) (b : α') (e : Env) (s2 : St), w2.H = H2 ∧ w2.cl = cl ∧ XR w2 s2 es e σ ∧ V1 w2 a x ∧ V1' w2 b y ∧ Goes cl W V2 σ Q w2 (op a b e s2) := by
  obtain ⟨w, e, s, rfl, h2, x, h⟩ := h
  refine tG_then (tG_from (V1 := V1) an sa h2 x h) fun u H1 h => ?_
  obtain ⟨w1, a, s1, rfl, h2, g, x, v, h⟩ := h
  refine tG_then (tG_from (V1 := V1') an sb h2 x h) fun u H1 h => ?_
  obtain ⟨w2, b, s2, rfl, h2, g2, x, v2, h⟩ := h
  exact ⟨w2, a, b, e, s2, rfl, h2, x, mo _ _ _ _ g2 v, v2, h⟩
theorem tG_op {α β γ δ : Type} {α' β' : Type} {V1 : Vw → α → β → Prop} {V1' : Vw → α' → β' → Prop} {V2 : Vw → Vw → γ → δ → Prop} (an : An V2) (mo : ∀ w w' a u, GrE w w' → V1 w a u → V1 w' a u) {fa : Env → St → Rz α} {fb : Env → St → Rz α'} {op : α → α' → St → Rz γ} {Q : δ → Hp → Prop}
    (sa : ∀ i ∈ es1, i ∈ es) (sb : ∀ i ∈ es2, i ∈ es)
    (h : tG cl W V2 es (fun e s => (fa e s).bind fun x s1 => (fb e s1).bind fun y s2 => op x y s2) σ H Q) :
    tG cl W (fun _ w' => V1 w') es1 fa σ H fun x H1 => tG cl W (fun _ w' => V1' w') es2 fb σ H1 fun y H2 => ∃ (w2 : Vw) (a : α) (b : α') (s2 : St), w2.H = H2 ∧ w2.cl = cl ∧ Rel w2 s2 ∧ V1 w2 a x ∧ V1' w2 b y ∧ Goes cl W V2 σ Q w2 (op a b s2) := by
  refine tG_then (tG_op' (V1 := V1) (V1' := V1') (op := fun x y _ s => op x y s) an mo sa sb h) fun x H1 h => tG_then h fun y H2 h => ?_
  obtain ⟨w2, a, b, e, s2, h1, h2, x, v, v2, h⟩ := h
  exact ⟨w2, a, b, s2, h1, h2, x.rel, v, v2, h⟩
theorem mo_R {w w' : Vw} {a : PV} {u : V} (g : GrE w w') (h : RW w a u) : RW w' a u := h.mo g
theorem Goes.ofO {α β : Type} {V : Vw → Vw → α → β → Prop} {Q : β → Hp → Prop} {o : Option α} (h : Goes cl W V σ Q w (ofO o s)) : ∃ a, o = some a ∧ ∀ w' u, Rel w' s → GrE w w' → V w w' a u → Q u w'.H := by
  cases o with
  | none => exact h.elim
  | some a => exact ⟨a, rfl, h⟩
end

theorem PE.imp {X : Cx} {e : Expr} {t t' : TE} (h : PE X e t) (w : ∀ σ H Q, t' σ H Q → t σ H Q) : PE X e t' := ⟨fun pins s σ H Q I q => h.run pins s σ H Q I (w σ H Q q)⟩
theorem PT.imp {X : Cx} {e : Expr} {t t' : TT} (h : PT X e t) (w : ∀ σ H Q, t' σ H Q → t σ H Q) : PT X e t' := ⟨fun pins s σ H Q I q => h.run pins s σ H Q I (w σ H Q q)⟩
theorem PA.imp {X : Cx} {e : List Expr} {t t' : TA} (h : PA X e t) (w : ∀ σ H Q, t' σ H Q → t σ H Q) : PA X e t' := ⟨fun pos pins s σ H Q I q => h.run pos pins s σ H Q I (w σ H Q q)⟩
theorem PS.imp {X : Cx} {e : Stmt} {t t' : TS} (h : PS X e t) (w : ∀ D σ H, t' D σ H → t D σ H) : PS X e t' := ⟨fun pins s σ H D I q => h.run pins s σ H D I (w D σ H q)⟩
theorem PSs.imp {X : Cx} {e : List Stmt} {t t' : TS} (h : PSs X e t) (w : ∀ D σ H, t' D σ H → t D σ H) : PSs X e t' := ⟨fun pins s σ H D I q => h.run pins s σ H D I (w D σ H q)⟩

/-! ### operations by values -/
/-- what comes of an operation that makes its value -/
def Makes (w : Vw) (s : St) (v : PV) (Q : VK) : Prop := ∀ w' u, Rel w' s → GrE w w' → RV w' v u → FrV w w' v u → Q u w'.H
def r2 (op : PV → PV → Option PV) : R2 := fun x y H Q => ∃ (w : Vw) (s : St) (p q v : PV), w.H = H ∧ Rel w s ∧ RW w p x ∧ RW w q y ∧ op p q = some v ∧ Makes w s v Q
section
variable {w : Vw} {s : St} {Q : VK}
theorem frV_no {w w' : Vw} {v : PV} {u : V} (h : v.isM = false) : FrV w w' v u := fun m => by rw [h] at m; cases m
theorem Makes.same {v : PV} {u : V} (k : Makes w s v Q) (R : Rel w s) (h : v.isM = false) (r : RV w v u) : Q u w.H := k w u R GrE.refl r (frV_no h)
theorem FrV.newL (R : Rel w s) {p : Addr} (h : w.H p = none) {xs : List PV} {vs : List V} (r : RVs w xs vs) : FrV w (w.upd p (.lst vs)) (.lv xs) (.ref p) := fun _ => by
  refine ⟨p, rfl, h, R.notρ h, vs, upd_same, ?_⟩
  have g : Gr w { w.upd p (.lst vs) with Z := fun b => (w.upd p (.lst vs)).Z b ∨ b = p } := ?g
  · exact r.mo g _ _
  refine ⟨rfl, fun _ _ h => h, fun a o q h1 h2 => ?_, fun a o q _ => ?_⟩
  · have ne : a ≠ p := ne_of_none q h
    refine ⟨by show L2.upd w.H p _ a = _; rw [upd_ne ne]; exact q, fun z => ?_, h2⟩
    rcases z with z | z
    · exact h1 z
    · exact ne z
  · show L2.upd w.H p _ a = _
    rw [upd_ne (ne_of_none q h)]
    exact q
theorem Makes.list {xs : List PV} (k : Makes w s (.lv xs) Q) (R : Rel w s) {p : Addr} (h : w.H p = none) {vs : List V} (r : RVs w xs vs) : Q (.ref p) (L2.upd w.H p (.lst vs)) :=
  k (w.upd p (.lst vs)) _ (R.new h) (GrE.new h) (RV.newL R h r) (FrV.newL R h r)
theorem Makes.tuple {xs : List PV} (k : Makes w s (.tup xs) Q) (R : Rel w s) {p : Addr} (h : w.H p = none) {vs : List V} (r : RVs w xs vs) : Q (.ref p) (L2.upd w.H p (.tup vs)) :=
  k (w.upd p (.tup vs)) _ (R.new h) (GrE.new h) (RV.newT h r) (frV_no rfl)
end
end Pu

set_option linter.all false
set_option autoImplicit false
set_option maxRecDepth 100000
/-! P4: operators. -/
namespace Pu
open PySem PySem.Spec PyProof.Rows L2

theorem line_eq : line = sizeLine := by rw [sizeLine_eq]; rfl
theorem str_len (x : Sg) : (⟨⟨x⟩⟩ : Str).length = x.length := rfl
theorem str_app (x y : Sg) : (⟨⟨x⟩⟩ : Str) ++ (⟨⟨y⟩⟩ : Str) = ⟨⟨x ++ y⟩⟩ := by
  show Str.mk ((⟨x⟩ : Array Nat) ++ (⟨y⟩ : Array Nat)) = _
  rw [List.append_toArray]
section
variable {X : Cx} {H : Hp}
theorem ite_some {α : Type} {c : Prop} [Decidable c] {x y : α} (h : (if c then some x else none) = some y) : c ∧ x = y := by
  by_cases e : c
  · rw [if_pos e] at h
    exact ⟨e, Option.some.inj h⟩
  · rw [if_neg e] at h
    cases h

theorem lstR {pins : List (Addr × Obj)} {σ : L2.St} {s : Shared} {l : Addr} {xs : List V} (I : Inv X pins σ H s) (hH : Rd H l (.lst xs)) : xs.length ≤ sizeLine ∧ ∃ (its : List Value) (n : Nat), Vals xs its ∧ xs.length = its.length ∧ s.heap.get? l = some { cls := .type "list", data := .seq its.toArray n } := by
  obtain ⟨z, its, n, r, e⟩ := hH.ok I.hok
  exact ⟨z, its, n, r, r.length, e⟩
def rCatR : R2 := fun x y H Q => ∃ l b xs zs, x = .ref l ∧ y = .ref b ∧ Rd H l (.lst xs) ∧ Rd H b (.lst zs) ∧ xs.length + zs.length ≤ sizeLine ∧ ∀ p, H p = none → Q (.ref p) (upd H p (.lst (xs ++ zs)))
theorem op_catR : OpR X (binaryOp .Add) rCatR := by
  intro pins s σ H x y v u Q I rx ry h
  obtain ⟨l, b, xs, zs, rfl, rfl, hH, hB, hz, q⟩ := h
  cases rx
  cases ry
  obtain ⟨z, its, n, r, hl, e⟩ := lstR I hH
  obtain ⟨z2, its2, n2, r2, hl2, e2⟩ := lstR I hB
  refine PySem.P.add_list e e2 ?_ (by rw [List.size_toArray, List.size_toArray]; omega)
  have ea : its.toArray ++ its2.toArray = (its ++ its2).toArray := by simp
  rw [ea]
  exact ⟨.ref _, _, I.lnew (t' := s.toks) (r.append r2) (by rw [List.length_append]; omega), rfl, q _ I.fresh⟩
def rRepR : R2 := fun x y H Q => ∃ l k xs, x = .ref l ∧ y = .int k ∧ Rd H l (.lst xs) ∧ -(2 ^ 63) ≤ k ∧ k < 2 ^ 63 ∧ xs.length * k.toNat ≤ sizeLine ∧
  ∀ p, H p = none → Q (.ref p) (upd H p (.lst (List.replicate k.toNat xs).flatten))
theorem op_repR : OpR X (binaryOp .Mult) rRepR := by
  intro pins s σ H x y v u Q I rx ry h
  obtain ⟨l, k, xs, rfl, rfl, hH, h1, h2, hz, q⟩ := h
  cases rx
  obtain ⟨t, rfl⟩ := ry
  obtain ⟨z, its, n, r, hl, e⟩ := lstR I hH
  have hlen : its.toArray.size * k.toNat ≤ sizeLine := by rw [List.size_toArray, ← hl]; exact hz
  have hcap : ¬ its.toArray.size * k.toNat > (2 ^ 63 - 1) / 8 := by
    have : (sizeLine : Nat) ≤ (2 ^ 63 - 1) / 8 := by decide
    omega
  have hfit : ¬ (!Builtin.List.listFitsIndex k) = true := by
    rw [fitsIndex_both h1 h2]
    exact Bool.false_ne_true
  have hlong : ¬ Builtin.List.listTooLong (its.toArray.size * k.toNat) = true := by
    rw [notLongL hlen]
    exact Bool.false_ne_true
  have hnew : List.foldl (fun x1 x2 => x1 ++ x2) #[] (List.replicate (if its.toArray.isEmpty = true then 0 else k.toNat) its.toArray) = (List.replicate k.toNat its).flatten.toArray := by
    have f0 : ∀ m : Nat, List.foldl (fun x1 x2 => x1 ++ x2) #[] (List.replicate m its.toArray) = (List.replicate m its).flatten.toArray := fun m => by
      have := foldl_rep its m []
      rw [List.nil_append] at this
      exact this
    rw [f0]
    cases its with
    | nil => simp
    | cons a r' => rw [if_neg (by simp)]
  refine wpAny_binaryOp_repeat_ref (T := "list") (U := "int") (by decide) ⟨_, e, rfl⟩ (fun s' => typeIs_int s' k t) noFill_list_mul F.fills_int_mul F.slot_int_rmul repeat_list F.slot_int_index.lookup
    (call_meets F.slot_int_rmul (typeIs_int s k t) F.entry_int_rmul (F.args_int_rmul_2 _ _) (int___rmul___int_list k t l its.toArray n)
      ⟨e, rfl, ⟨_, e, rfl⟩, call_meets F.slot_list_mul ⟨_, e, rfl⟩ F.entry_list_mul (F.args_list_mul_2 _ _) (AutoListH.list___mul___list_int_3 l its.toArray n k t hfit hcap hlong) ⟨e, ?_⟩⟩)
  rw [hnew]
  exact ⟨.ref _, _, I.lnew (t' := s.toks) (r.rep k.toNat) (by rw [PyProof.Rows.lm_len_rep_flat, Nat.mul_comm]; exact hz), rfl, q _ I.fresh⟩
theorem or_add : OpR X (binaryOp .Add) (r2 (bop .add)) := by
  intro pins s σ H x y v u Q I rx ry h
  obtain ⟨w, t, p, q, r, rfl, R, hp, hq, h, k⟩ := h
  cases p with
  | int i =>
    cases q with
    | int j =>
      obtain rfl := rv_int hp
      obtain rfl := rv_int hq
      cases h
      exact op_add pins s σ _ _ _ v u Q I rx ry ⟨i, j, rfl, rfl, k.same R rfl (rv_int' _)⟩
    | _ => cases h
  | str a =>
    cases q with
    | str b =>
      obtain rfl := rv_str hp
      obtain rfl := rv_str hq
      obtain ⟨c, e⟩ := ite_some h
      cases e
      refine op_add_str pins s σ _ _ _ v u Q I rx ry ⟨_, _, rfl, rfl, by rw [str_len, str_len, ← line_eq]; exact c, ?_⟩
      rw [str_app]
      exact k.same R rfl (rv_str' _)
    | _ => cases h
  | tup a =>
    cases q with
    | tup b =>
      obtain ⟨pa, va, rfl, ta, ra⟩ := rv_tup hp
      obtain ⟨pb, vb, rfl, tb, rb⟩ := rv_tup hq
      obtain ⟨c, e⟩ := ite_some h
      cases e
      have la := ra.length
      have lb := rb.length
      refine op_catA pins s σ _ _ _ v u Q I rx ry ⟨pa, pb, va, vb, rfl, rfl, SqT.of ta, SqT.of tb, by rw [← la, ← lb, ← line_eq]; exact c, fun e => ?_, fun e1 e2 => ?_, fun e1 e2 p hn => ?_⟩
      · subst e
        have : a = [] := List.eq_nil_of_length_eq_zero la
        subst this
        exact k.same R rfl (rv_tup' tb rb)
      · subst e2
        have : b = [] := List.eq_nil_of_length_eq_zero lb
        subst this
        rw [List.append_nil] at k
        exact k.same R rfl (rv_tup' ta ra)
      · exact k.tuple R hn (ra.append rb)
    | _ => cases h
  | lv xs =>
    cases q with
    | lv ys =>
      obtain ⟨a, va, rfl, ea, ra⟩ := rv_lv hp
      obtain ⟨b, vb, rfl, eb, rb⟩ := rv_lv hq
      obtain ⟨c, e⟩ := ite_some h
      cases e
      refine op_catR pins s σ _ _ _ v u Q I rx ry ⟨a, b, va, vb, rfl, rfl, ea, eb, by rw [← ra.length, ← rb.length, ← line_eq]; exact c, fun p hn => ?_⟩
      exact k.list R hn (ra.append rb)
    | _ => cases h
  | _ => cases h
theorem or_sub : OpR X (binaryOp .Sub) (r2 (bop .sub)) := by
  intro pins s σ H x y v u Q I rx ry h
  obtain ⟨w, t, p, q, r, rfl, R, hp, hq, h, k⟩ := h
  cases p with
  | int i =>
    cases q with
    | int j =>
      obtain rfl := rv_int hp
      obtain rfl := rv_int hq
      cases h
      exact op_sub pins s σ _ _ _ v u Q I rx ry ⟨i, j, rfl, rfl, k.same R rfl (rv_int' _)⟩
    | _ => cases h
  | _ => cases h
theorem or_mod : OpR X (binaryOp .Mod) (r2 (bop .mod)) := by
  intro pins s σ H x y v u Q I rx ry h
  obtain ⟨w, t, p, q, r, rfl, R, hp, hq, h, k⟩ := h
  cases p with
  | int i =>
    cases q with
    | int j =>
      obtain rfl := rv_int hp
      obtain rfl := rv_int hq
      obtain ⟨c, e⟩ := ite_some h
      cases e
      exact op_mod pins s σ _ _ _ v u Q I rx ry ⟨i, j, rfl, rfl, c, k.same R rfl (rv_int' _)⟩
    | _ => cases h
  | _ => cases h
theorem or_fdiv : OpR X (binaryOp .FloorDiv) (r2 (bop .fdiv)) := by
  intro pins s σ H x y v u Q I rx ry h
  obtain ⟨w, t, p, q, r, rfl, R, hp, hq, h, k⟩ := h
  cases p with
  | int i =>
    cases q with
    | int j =>
      obtain rfl := rv_int hp
      obtain rfl := rv_int hq
      obtain ⟨c, e⟩ := ite_some h
      cases e
      obtain ⟨c1, c2⟩ := Bool.and_eq_true_iff.mp c
      exact op_fdivW pins s σ _ _ _ v u Q I rx ry ⟨i, j, rfl, rfl, ⟨of_decide_eq_true c1, of_decide_eq_true c2⟩, k.same R rfl (rv_int' _)⟩
    | _ => cases h
  | _ => cases h
theorem or_pow : OpR X (binaryOp .Pow) (r2 (bop .pow)) := by
  intro pins s σ H x y v u Q I rx ry h
  obtain ⟨w, t, p, q, r, rfl, R, hp, hq, h, k⟩ := h
  cases p with
  | int i =>
    cases q with
    | int j =>
      obtain rfl := rv_int hp
      obtain rfl := rv_int hq
      obtain ⟨c, e⟩ := ite_some h
      cases e
      obtain ⟨c1, c2⟩ := Bool.and_eq_true_iff.mp c
      obtain ⟨c2, c3⟩ := Bool.and_eq_true_iff.mp c2
      exact op_pow pins s σ _ _ _ v u Q I rx ry ⟨i, j, rfl, rfl, ⟨of_decide_eq_true c1, of_decide_eq_true c2, of_decide_eq_true c3⟩, k.same R rfl (rv_int' _)⟩
    | _ => cases h
  | _ => cases h
theorem small64_ok {i : Int} (h : small64 i = true) : -(2 ^ 64) < i ∧ i < 2 ^ 64 := by
  have := of_decide_eq_true h
  omega
theorem tuple_mul1 (l : Addr) (items : Array Value) (n : Nat) (dd : Option Addr) (sl : Array (Option Value)) (x : Int) (u : Tok) (c0 : (decide (x < -(2 ^ 63)) || decide (x ≥ 2 ^ 63)) = false) (c1 : (items.isEmpty || x == 1) = true) :
    Meets (Builtin.«tuple.__mul__» ⟨[.ref l, .int x u], []⟩) (fun _ R s => s.heap.get? l = some { cls := .type "tuple", dict := dd, data := .seq items n, slots := sl } ∧ R (.ok (.ret (Value.ref l))) s) :=
  .of_wp fun prog w A R s h => by
    obtain ⟨hp, g, d, tk, os⟩ := s
    obtain ⟨hl, h⟩ := h
    have f1 := AutoSeq1.idx_int
    wp_walk using wpAny_loadPart' hl
    repeat (first
      | (refine wpAny_ite_false (decide_eq_false (by rw [c0]; exact Bool.false_ne_true)) ?_; wp_walk using wpAny_loadPart' hl)
      | (refine wpAny_ite_true (decide_eq_true (by rw [c1])) ?_; wp_walk using wpAny_loadPart' hl)
      | (refine wpAny_ite_true c1 ?_; wp_walk using wpAny_loadPart' hl))
    exact ⟨_, rfl, h⟩
def rRep1 (K : PySem.W.Frag) : R2 := fun x y H Q => ∃ l k xs, x = .ref l ∧ y = .int k ∧ SqT K H l xs ∧ (xs = [] ∨ k = 1) ∧ 1 ≤ k ∧ k ≤ 1000 ∧ Q (.ref l) H
theorem op_rep1 : OpR X (binaryOp .Mult) (rRep1 X.K) := by
  intro pins s σ H x y v u Q I rx ry h
  obtain ⟨l, k, xs, rfl, rfl, hT, hk, k1, k2, q⟩ := h
  cases rx
  obtain ⟨t, rfl⟩ := ry
  obtain ⟨its, r, ⟨⟨cls, dd, data, sl⟩, ho, hc, n, hd⟩, hs⟩ := I.tuple hT
  simp only at hc hd
  subst hc hd
  have c0 : (decide (k < -(2 ^ 63)) || decide (k ≥ 2 ^ 63)) = false := by
    rw [decide_eq_false (by omega), decide_eq_false (by omega)]
    rfl
  have c1 : (its.toArray.isEmpty || k == 1) = true := by
    rcases hk with rfl | rfl
    · have : its = [] := by
        cases r
        rfl
      rw [this]
      rfl
    · rw [show ((1 : Int) == 1) = true from rfl, Bool.or_true]
  refine wpAny_binaryOp_repeat_ref (T := "tuple") (U := "int") (by decide) ⟨_, ho, rfl⟩ (fun s' => typeIs_int s' k t) noFill_tuple_mul F.fills_int_mul F.slot_int_rmul repeat_tuple F.slot_int_index.lookup
    (call_meets F.slot_int_rmul (typeIs_int s k t) F.entry_int_rmul (F.args_int_rmul_2 _ _) (int_rmul_tuple k t l its.toArray n dd sl)
      ⟨ho, rfl, ⟨_, ho, rfl⟩, call_meets F.slot_tuple_mul ⟨_, ho, rfl⟩ F.entry_tuple_mul (F.args_tuple_mul_2 _ _) (tuple_mul1 l its.toArray n dd sl k t c0 c1) ⟨ho, ?_⟩⟩)
  exact ⟨.ref l, H, I, rfl, q⟩
theorem foldl_arr : ∀ (l : List (Array Nat)) (acc : Array Nat), (l.foldl (· ++ ·) acc).toList = acc.toList ++ (l.map (·.toList)).flatten
  | [], acc => by simp
  | a :: l, acc => by
    rw [List.foldl_cons, foldl_arr l (acc ++ a)]
    simp
theorem txt_mul {x : Sg} {k : Int} (h : 1 ≤ k) : PySem.Txt.mul ⟨⟨x⟩⟩ k = ⟨⟨rep k.toNat x⟩⟩ := by
  unfold PySem.Txt.mul
  rw [if_neg (by omega)]
  by_cases c : (k == 1 || (⟨⟨x⟩⟩ : Str).length == 0) = true
  · rw [if_pos c]
    rcases Bool.or_eq_true_iff.mp c with c | c
    · have e : k = 1 := by simpa using c
      subst e
      have : rep (1 : Int).toNat x = x := by show (List.replicate 1 x).flatten = x; simp
      rw [this]
    · have e : x = [] := List.eq_nil_of_length_eq_zero (by have := beq_iff_eq.mp c; exact this)
      subst e
      have : rep k.toNat ([] : Sg) = [] := by show (List.replicate _ []).flatten = []; simp
      rw [this]
  · rw [if_neg c]
    congr 1
    apply Array.toList_inj.mp
    rw [foldl_arr]
    show [] ++ ((List.replicate k.toNat (⟨x⟩ : Array Nat)).map (·.toList)).flatten = (List.replicate k.toNat x).flatten
    rw [List.map_replicate]
    rfl
theorem mul_okS {x : Sg} {k : Int} (h : 1 ≤ k) (h2 : k ≤ 1000) (h3 : x.length ≤ 1000) : PySem.MulOk ⟨⟨x⟩⟩ k := by
  have hm : (x.length : Int) * k ≤ 1000 * 1000 := Int.mul_le_mul (by omega) h2 (by omega) (by omega)
  refine ⟨by rw [decide_eq_false (by omega), decide_eq_false (by omega)]; rfl, fun _ _ z => ?_, fun _ _ => ?_⟩
  · have : (x.length : Int) ≤ (2 ^ 63 - 1) / k := (Int.le_ediv_iff_mul_le (by omega)).mpr (by omega)
    have z : (x.length : Int) > (2 ^ 63 - 1) / k := z
    omega
  · have hn : x.length * k.toNat ≤ 1000 * 1000 := Nat.mul_le_mul h3 (by omega)
    show decide (x.length * k.toNat > sizeLine) = false
    rw [← line_eq]
    exact decide_eq_false (by unfold line; omega)
theorem or_mul : OpR X (binaryOp .Mult) (r2 (bop .mul)) := by
  intro pins s σ H x y v u Q I rx ry h
  obtain ⟨w, t, p, q, r, rfl, R, hp, hq, h, k⟩ := h
  cases p with
  | int i =>
    cases q with
    | int j =>
      obtain rfl := rv_int hp
      obtain rfl := rv_int hq
      obtain ⟨c, e⟩ := ite_some h
      cases e
      have cm : L2.CMul i j := by
        rcases Bool.or_eq_true_iff.mp c with c | c
        · exact .inl (small64_ok c)
        · exact .inr (small64_ok c)
      exact op_mul pins s σ _ _ _ v u Q I rx ry ⟨i, j, rfl, rfl, cm, k.same R rfl (rv_int' _)⟩
    | _ => cases h
  | str a =>
    cases q with
    | int j =>
      obtain rfl := rv_str hp
      obtain rfl := rv_int hq
      obtain ⟨c, e⟩ := ite_some h
      cases e
      obtain ⟨c2, c3, c4⟩ := c
      obtain ⟨t1, rfl⟩ := rx
      obtain ⟨t2, rfl⟩ := ry
      refine PySem.SB.mul (mul_okS c2 c3 c4) fun t' k' => ?_
      rw [txt_mul c2]
      exact ⟨.str ⟨⟨rep j.toNat a⟩⟩, w.H, I.tok _, ⟨_, rfl⟩, k.same R rfl (rv_str' _)⟩
    | _ => cases h
  | tup a =>
    cases q with
    | int j =>
      obtain ⟨pa, va, rfl, ta, ra⟩ := rv_tup hp
      obtain rfl := rv_int hq
      obtain ⟨c, e⟩ := ite_some h
      cases e
      obtain ⟨c2, c3, c4⟩ := c
      have la := ra.length
      by_cases k0 : va = []
      · have e0 : a = [] := List.eq_nil_of_length_eq_zero (by rw [la, k0]; rfl)
        have e1 : rep j.toNat a = a := by
          rw [e0]
          show (List.replicate _ []).flatten = []
          simp
        rw [e1] at k
        exact op_rep1 pins s σ _ _ _ v u Q I rx ry ⟨pa, j, va, rfl, rfl, SqT.of ta, .inl k0, c2, c3, k.same R rfl (rv_tup' ta ra)⟩
      have ne : va ≠ [] := k0
      by_cases k1 : j = 1
      · subst k1
        have e1 : rep (1 : Int).toNat a = a := by
          show (List.replicate 1 a).flatten = a
          simp
        rw [e1] at k
        exact op_rep1 pins s σ _ _ _ v u Q I rx ry ⟨pa, 1, va, rfl, rfl, SqT.of ta, .inr rfl, by omega, by omega, k.same R rfl (rv_tup' ta ra)⟩
      have c2 : 2 ≤ j := by omega
      refine op_repT pins s σ _ _ _ v u Q I rx ry ⟨pa, j, va, rfl, rfl, SqT.of ta, ne, c2, c3, by rw [← la]; exact c4, fun p hn => ?_⟩
      exact k.tuple R hn (ra.rep _)
    | _ => cases h
  | lv xs =>
    cases q with
    | int j =>
      obtain ⟨a, va, rfl, ea, ra⟩ := rv_lv hp
      obtain rfl := rv_int hq
      obtain ⟨c, e⟩ := ite_some h
      cases e
      refine op_repR pins s σ _ _ _ v u Q I rx ry ⟨a, j, va, rfl, rfl, ea, c.1, c.2.1, by rw [← ra.length, ← line_eq]; exact c.2.2, fun p hn => ?_⟩
      exact k.list R hn (ra.rep _)
    | _ => cases h
  | _ => cases h
def opOf : Bop → Operator
  | .add => .Add | .sub => .Sub | .mul => .Mult | .mod => .Mod | .fdiv => .FloorDiv | .pow => .Pow
theorem or_bop (op : Bop) : OpR X (binaryOp (opOf op)) (r2 (bop op)) := by
  cases op
  · exact or_add
  · exact or_sub
  · exact or_mul
  · exact or_mod
  · exact or_fdiv
  · exact or_pow
end
end Pu

set_option linter.all false
set_option autoImplicit false
set_option maxRecDepth 100000
/-! P5: data, comparisons. -/
namespace Pu
open PySem PySem.Spec PyProof.Rows L2

mutual
def Dt : PV → PyData → Prop
  | .non, D => D = .none
  | .bl b, D => D = .bool b
  | .int i, D => D = .int i
  | .str x, D => D = .str ⟨⟨x⟩⟩
  | .tup xs, D => ∃ ds, D = .tuple ds ∧ Dts xs ds
  | .lv xs, D => ∃ ds, D = .list ds ∧ Dts xs ds
  | .ref _, _ => False
  | .dv _ _ _, _ => False
  | .exc _ _, _ => False
def Dts : List PV → List PyData → Prop
  | [], ds => ds = []
  | x :: xs, ds => ∃ D r, ds = D :: r ∧ Dt x D ∧ Dts xs r
end
mutual
theorem Dt.plain : ∀ (p : PV) (D : PyData), Dt p D → D.plain = true
  | .non, _, h => by unfold Dt at h; subst h; unfold PyData.plain; rfl
  | .bl _, _, h => by unfold Dt at h; subst h; unfold PyData.plain; rfl
  | .int _, _, h => by unfold Dt at h; subst h; unfold PyData.plain; rfl
  | .str _, _, h => by unfold Dt at h; subst h; unfold PyData.plain; rfl
  | .tup xs, _, h => by
    unfold Dt at h
    obtain ⟨ds, rfl, r⟩ := h
    unfold PyData.plain
    exact Dts.plain xs ds r
  | .lv xs, _, h => by
    unfold Dt at h
    obtain ⟨ds, rfl, r⟩ := h
    unfold PyData.plain
    exact Dts.plain xs ds r
  | .ref _, _, h => by unfold Dt at h; exact h.elim
  | .dv _ _ _, _, h => by unfold Dt at h; exact h.elim
  | .exc _ _, _, h => by unfold Dt at h; exact h.elim
theorem Dts.plain : ∀ (ps : List PV) (ds : List PyData), Dts ps ds → PyData.plainAll ds = true
  | [], _, h => by unfold Dts at h; subst h; unfold PyData.plainAll; rfl
  | x :: xs, _, h => by
    unfold Dts at h
    obtain ⟨D, r, rfl, a, b⟩ := h
    unfold PyData.plainAll
    rw [Dt.plain x D a, Dts.plain xs r b]
    rfl
end
mutual
theorem Dt.dep : ∀ (p : PV) (D : PyData), Dt p D → D.depth = p.dep
  | .non, _, h => by unfold Dt at h; subst h; unfold PyData.depth PV.dep; rfl
  | .bl _, _, h => by unfold Dt at h; subst h; unfold PyData.depth PV.dep; rfl
  | .int _, _, h => by unfold Dt at h; subst h; unfold PyData.depth PV.dep; rfl
  | .str _, _, h => by unfold Dt at h; subst h; unfold PyData.depth PV.dep; rfl
  | .tup xs, _, h => by
    unfold Dt at h
    obtain ⟨ds, rfl, r⟩ := h
    unfold PyData.depth PV.dep
    rw [Dts.dep xs ds r]
  | .lv xs, _, h => by
    unfold Dt at h
    obtain ⟨ds, rfl, r⟩ := h
    unfold PyData.depth PV.dep
    rw [Dts.dep xs ds r]
  | .ref _, _, h => by unfold Dt at h; exact h.elim
  | .dv _ _ _, _, h => by unfold Dt at h; exact h.elim
  | .exc _ _, _, h => by unfold Dt at h; exact h.elim
theorem Dts.dep : ∀ (ps : List PV) (ds : List PyData), Dts ps ds → PyData.depthAll ds = PV.deps ps
  | [], _, h => by unfold Dts at h; subst h; unfold PyData.depthAll PV.deps; rfl
  | x :: xs, _, h => by
    unfold Dts at h
    obtain ⟨D, r, rfl, a, b⟩ := h
    unfold PyData.depthAll PV.deps
    rw [Dt.dep x D a, Dts.dep xs r b]
end
theorem str_beq (x y : Sg) : ((⟨⟨x⟩⟩ : Str) == (⟨⟨y⟩⟩ : Str)) = decide (x = y) := by
  by_cases e : x = y
  · subst e
    simp
  · rw [decide_eq_false e]
    refine beq_eq_false_iff_ne.mpr fun z => e ?_
    have := congrArg (fun q : Str => q.cps.toList) z
    exact this
theorem int_beq (x y : Int) : (x == y) = decide (x = y) := by
  by_cases e : x = y
  · subst e
    simp
  · rw [decide_eq_false e]
    exact beq_eq_false_iff_ne.mpr e
mutual
theorem Dt.eqv : ∀ (p : PV) (D : PyData) (q : PV) (E : PyData), Dt p D → Dt q E → PyData.eqv D E = eqv p q
  | .non, _, q, _, h, g => by
    unfold Dt at h; subst h
    cases q <;> unfold Dt at g <;> first | exact g.elim | (subst g; unfold PyData.eqv Pu.eqv; rfl) | (obtain ⟨_, rfl, _⟩ := g; unfold PyData.eqv Pu.eqv; rfl)
  | .bl _, _, q, _, h, g => by
    unfold Dt at h; subst h
    cases q <;> unfold Dt at g <;> first | exact g.elim | (subst g; unfold PyData.eqv Pu.eqv; first | rfl | exact int_beq _ _) | (obtain ⟨_, rfl, _⟩ := g; unfold PyData.eqv Pu.eqv; rfl)
  | .int _, _, q, _, h, g => by
    unfold Dt at h; subst h
    cases q <;> unfold Dt at g <;> first | exact g.elim | (subst g; unfold PyData.eqv Pu.eqv; first | rfl | exact int_beq _ _) | (obtain ⟨_, rfl, _⟩ := g; unfold PyData.eqv Pu.eqv; rfl)
  | .str _, _, q, _, h, g => by
    unfold Dt at h; subst h
    cases q <;> unfold Dt at g <;> first | exact g.elim | (subst g; unfold PyData.eqv Pu.eqv; first | rfl | exact str_beq _ _) | (obtain ⟨_, rfl, _⟩ := g; unfold PyData.eqv Pu.eqv; rfl)
  | .tup xs, _, q, _, h, g => by
    unfold Dt at h
    obtain ⟨ds, rfl, r⟩ := h
    cases q with
    | tup ys =>
      unfold Dt at g
      obtain ⟨es, rfl, r'⟩ := g
      unfold PyData.eqv Pu.eqv
      exact Dts.eqv xs ds ys es r r'
    | lv ys =>
      unfold Dt at g
      obtain ⟨es, rfl, r'⟩ := g
      unfold PyData.eqv Pu.eqv
      rfl
    | ref _ => unfold Dt at g; exact g.elim
    | dv _ _ _ => unfold Dt at g; exact g.elim
    | exc _ _ => unfold Dt at g; exact g.elim
    | _ => unfold Dt at g; subst g; unfold PyData.eqv Pu.eqv; rfl
  | .lv xs, _, q, _, h, g => by
    unfold Dt at h
    obtain ⟨ds, rfl, r⟩ := h
    cases q with
    | lv ys =>
      unfold Dt at g
      obtain ⟨es, rfl, r'⟩ := g
      unfold PyData.eqv Pu.eqv
      exact Dts.eqv xs ds ys es r r'
    | tup ys =>
      unfold Dt at g
      obtain ⟨es, rfl, r'⟩ := g
      unfold PyData.eqv Pu.eqv
      rfl
    | ref _ => unfold Dt at g; exact g.elim
    | dv _ _ _ => unfold Dt at g; exact g.elim
    | exc _ _ => unfold Dt at g; exact g.elim
    | _ => unfold Dt at g; subst g; unfold PyData.eqv Pu.eqv; rfl
  | .ref _, _, _, _, h, _ => by unfold Dt at h; exact h.elim
  | .dv _ _ _, _, _, _, h, _ => by unfold Dt at h; exact h.elim
  | .exc _ _, _, _, _, h, _ => by unfold Dt at h; exact h.elim
theorem Dts.eqv : ∀ (ps : List PV) (ds : List PyData) (qs : List PV) (es : List PyData), Dts ps ds → Dts qs es → PyData.eqvAll ds es = eqvs ps qs
  | [], _, [], _, h, g => by
    unfold Dts at h g; subst h g; unfold PyData.eqvAll eqvs; rfl
  | [], _, y :: ys, _, h, g => by
    unfold Dts at h g; subst h
    obtain ⟨D, r, rfl, a, b⟩ := g
    unfold PyData.eqvAll eqvs; rfl
  | x :: xs, _, [], _, h, g => by
    unfold Dts at h g; subst g
    obtain ⟨D, r, rfl, a, b⟩ := h
    unfold PyData.eqvAll eqvs; rfl
  | x :: xs, _, y :: ys, _, h, g => by
    unfold Dts at h g
    obtain ⟨D, r, rfl, a, b⟩ := h
    obtain ⟨D', r', rfl, a', b'⟩ := g
    unfold PyData.eqvAll eqvs
    rw [Dt.eqv x D y D' a a', Dts.eqv xs r ys r' b b']
end
theorem Dts.any (q : PV) (E : PyData) (g : Dt q E) : ∀ (ps : List PV) (ds : List PyData), Dts ps ds → (ds.any fun y => PyData.eqv y E) = ps.any fun e => Pu.eqv e q
  | [], _, h => by unfold Dts at h; subst h; rfl
  | x :: xs, _, h => by
    unfold Dts at h
    obtain ⟨D, r, rfl, a, b⟩ := h
    rw [List.any_cons, List.any_cons, Dt.eqv x D q E a g, Dts.any q E g xs r b]


section
variable {w : Vw}
mutual
theorem deep_ok (K : PySem.W.Frag) : ∀ (p : PV) (n : Nat) (v : V), p.dk n = true → RV w p v → ∃ D, Dt p D ∧ Dp K w.H v D
  | .non, n, _, h, r => by
    rw [rv_non (.inl r)]
    exact ⟨_, by unfold Dt; rfl, .non⟩
  | .bl b, n, _, h, r => by
    rw [rv_bl (.inl r)]
    exact ⟨_, by unfold Dt; rfl, .bl b⟩
  | .int b, n, _, h, r => by
    rw [rv_int (.inl r)]
    exact ⟨_, by unfold Dt; rfl, .int b⟩
  | .str b, n, _, h, r => by
    rw [rv_str (.inl r)]
    exact ⟨_, by unfold Dt; rfl, .str _⟩
  | .ref _, n, _, h, _ => by unfold PV.dk at h; cases h
  | .dv _ _ _, n, _, h, _ => by unfold PV.dk at h; cases h
  | .exc _ _, n, _, h, _ => by unfold PV.dk at h; cases h
  | .tup xs, n, v, h, r => by
    unfold PV.dk at h
    obtain ⟨_, h⟩ := Bool.and_eq_true_iff.mp h
    obtain ⟨a, vs, rfl, q, rr⟩ := rv_tup (.inl r)
    obtain ⟨Ds, h1, h2⟩ := deeps_ok K xs (n - 1) vs h rr
    exact ⟨.tuple Ds, by unfold Dt; exact ⟨Ds, rfl, h1⟩, .tup (SqT.of q) h2⟩
  | .lv xs, n, v, h, r => by
    unfold PV.dk at h
    obtain ⟨_, h⟩ := Bool.and_eq_true_iff.mp h
    obtain ⟨a, vs, rfl, q, rr⟩ := rv_lv (.inl r)
    obtain ⟨Ds, h1, h2⟩ := deeps_ok K xs (n - 1) vs h rr
    exact ⟨.list Ds, by unfold Dt; exact ⟨Ds, rfl, h1⟩, .lst (.inl q) h2⟩
theorem deeps_ok (K : PySem.W.Frag) : ∀ (ps : List PV) (n : Nat) (vs : List V), PV.dks ps n = true → RVs w ps vs → ∃ Ds, Dts ps Ds ∧ DpAll K w.H vs Ds
  | [], n, _, h, r => by
    rw [r.inv0]
    exact ⟨[], by unfold Dts; rfl, .nil⟩
  | x :: xs, n, _, h, r => by
    unfold PV.dks at h
    obtain ⟨g1, g2⟩ := Bool.and_eq_true_iff.mp h
    obtain ⟨u, us, rfl, q, rr⟩ := r.inv
    obtain ⟨D, h1, h2⟩ := deep_ok K x n u g1 q
    obtain ⟨Ds, h3, h4⟩ := deeps_ok K xs n us g2 rr
    exact ⟨D :: Ds, by unfold Dts; exact ⟨D, Ds, rfl, h1, h3⟩, .cons h2 h4⟩
end
mutual
theorem dk_dep : ∀ (p : PV) (n : Nat), p.dk n = true → p.dep ≤ n
  | .non, n, _ => by unfold PV.dep; omega
  | .bl b, n, _ => by unfold PV.dep; omega
  | .int b, n, _ => by unfold PV.dep; omega
  | .str b, n, _ => by unfold PV.dep; omega
  | .ref _, n, h => by unfold PV.dep; omega
  | .dv _ _ _, n, h => by unfold PV.dep; omega
  | .exc _ _, n, h => by unfold PV.dep; omega
  | .tup xs, n, h => by
    unfold PV.dk at h
    obtain ⟨h0, h⟩ := Bool.and_eq_true_iff.mp h
    have h0 := of_decide_eq_true h0
    have := dks_deps xs (n - 1) h
    unfold PV.dep
    omega
  | .lv xs, n, h => by
    unfold PV.dk at h
    obtain ⟨h0, h⟩ := Bool.and_eq_true_iff.mp h
    have h0 := of_decide_eq_true h0
    have := dks_deps xs (n - 1) h
    unfold PV.dep
    omega
theorem dks_deps : ∀ (ps : List PV) (n : Nat), PV.dks ps n = true → PV.deps ps ≤ n
  | [], n, _ => by unfold PV.deps; omega
  | x :: xs, n, h => by
    unfold PV.dks at h
    obtain ⟨g1, g2⟩ := Bool.and_eq_true_iff.mp h
    have := dk_dep x n g1
    have := dks_deps xs n g2
    unfold PV.deps
    omega
end
/-- .. of a value that is read alone -/
theorem deep_rw (K : PySem.W.Frag) {p : PV} {n : Nat} {v : V} (h : p.dk n = true) (r : RW w p v) : ∃ D, Dt p D ∧ Dp K w.H v D := by
  rcases r with r | ⟨a, rfl, r⟩
  · exact deep_ok K p n v h r
  · cases p with
    | lv xs =>
      obtain ⟨_, vs, q, rr⟩ := r
      unfold PV.dk at h
      obtain ⟨_, h⟩ := Bool.and_eq_true_iff.mp h
      obtain ⟨Ds, h1, h2⟩ := deeps_ok K xs (n - 1) vs h rr
      exact ⟨.list Ds, by unfold Dt; exact ⟨Ds, rfl, h1⟩, .lst (.inl (.inl q)) h2⟩
    | dv _ _ _ => unfold PV.dk at h; cases h
    | _ => exact r.2.elim
end

section
variable {X : Cx} {H : Hp}
theorem eqD_ok {K : PySem.W.Frag} {w : Vw} {p q : PV} {x y : V} {b : Bool} (h : eqD p q = some b) (hp : RW w p x) (hq : RW w q y) :
    ∃ D E, Dp K w.H x D ∧ Dp K w.H y E ∧ D.plain = true ∧ E.plain = true ∧ min D.depth E.depth ≤ 60 ∧ PyData.eqv D E = b := by
  unfold eqD at h
  obtain ⟨c, eb⟩ := ite_some h
  obtain ⟨c1, c2⟩ := Bool.and_eq_true_iff.mp c
  obtain ⟨D, d1, d2⟩ := deep_rw K c1 hp
  obtain ⟨E, g1, g2⟩ := deep_rw K c2 hq
  have := dk_dep p 60 c1
  exact ⟨D, E, d2, g2, d1.plain, g1.plain, by rw [d1.dep, g1.dep]; omega, by rw [Dt.eqv _ _ _ _ d1 g1]; exact eb⟩
theorem inD_ok {K : PySem.W.Frag} {w : Vw} {p : PV} {qs : List PV} {x : V} {ys : List V} {b : Bool} (h : inD p qs = some b) (hp : RW w p x) (hq : RVs w qs ys) :
    ∃ D Es, Dp K w.H x D ∧ DpAll K w.H ys Es ∧ D.plain = true ∧ PyData.plainAll Es = true ∧ min D.depth (PyData.depthAll Es) ≤ 60 ∧ (Es.any fun y => PyData.eqv y D) = b := by
  unfold inD at h
  obtain ⟨c, eb⟩ := ite_some h
  obtain ⟨c1, c2⟩ := Bool.and_eq_true_iff.mp c
  obtain ⟨D, d1, d2⟩ := deep_rw K c1 hp
  obtain ⟨E, g1, g2⟩ := deeps_ok K _ _ _ c2 hq
  have := dk_dep p 60 c1
  exact ⟨D, E, d2, g2, d1.plain, g1.plain, by rw [d1.dep, g1.dep]; omega, by rw [Dts.any _ _ d1 _ _ g1]; exact eb⟩
/-- a comparison by values -/
def rc (op : Cop) : R2 := fun x y H Q => ∃ (w : Vw) (p q : PV) (b : Bool), w.H = H ∧ RW w p x ∧ RW w q y ∧ cop op p q = some b ∧ Q (.bl b) H
theorem oc_eq (hu : X.A.units + 64 < cLine) : OpR X (compareOp .Eq) (rc .eq) := by
  intro pins s σ H x y v u Q I rx ry h
  obtain ⟨w, p, q, b, rfl, hp, hq, h, k⟩ := h
  obtain ⟨D, E, h1, h2, h3, h4, h5, h6⟩ := eqD_ok (K := X.K) h hp hq
  obtain ⟨as, ra⟩ := Dp.reads I D x v h1 rx
  obtain ⟨bs, rb⟩ := Dp.reads I E y u h2 ry
  refine SeqAt.eq_plain ra rb h3 h4 (by omega) ?_
  exact ⟨.bl (PyData.eqv D E), _, I, rfl, by rw [h6]; exact k⟩
theorem oc_ne (hu : X.A.units + 64 < cLine) : OpR X (compareOp .NotEq) (rc .ne) := by
  intro pins s σ H x y v u Q I rx ry h
  obtain ⟨w, p, q, b, rfl, hp, hq, h, k⟩ := h
  unfold cop at h
  simp only [] at h
  obtain ⟨c, e, e2⟩ := Option.map_eq_some_iff.mp h
  subst e2
  obtain ⟨D, E, h1, h2, h3, h4, h5, h6⟩ := eqD_ok (K := X.K) e hp hq
  obtain ⟨as, ra⟩ := Dp.reads I D x v h1 rx
  obtain ⟨bs, rb⟩ := Dp.reads I E y u h2 ry
  refine SeqAt.ne_plain ra rb h3 h4 (by omega) ?_
  exact ⟨.bl (!PyData.eqv D E), _, I, rfl, by rw [h6]; exact k⟩
end

section
variable {X : Cx} {H : Hp}
theorem contains_eq (c : Nat) (y : Sg) : y.contains c = decide (c ∈ y) := by
  by_cases e : c ∈ y
  · rw [decide_eq_true e]; exact List.contains_iff_mem.mpr e
  · rw [decide_eq_false e]
    cases q : y.contains c with
    | false => rfl
    | true => exact absurd (List.contains_iff_mem.mp q) e
/-- what a container holds -/
def inV (p q : PV) : Option Bool :=
  match q with
  | .tup ys => inD p ys
  | .lv ys => inD p ys
  | _ => none
theorem inV_ok {K : PySem.W.Frag} {w : Vw} {p q : PV} {x y : V} {b : Bool} (h : inV p q = some b) (hp : RW w p x) (hq : RW w q y) :
    ∃ D Es, Dp K w.H x D ∧ (Dp K w.H y (.list Es) ∨ Dp K w.H y (.tuple Es)) ∧ D.plain = true ∧ PyData.plainAll Es = true ∧ min (PyData.depthAll Es) D.depth ≤ 60 ∧ (Es.any fun y => PyData.eqv y D) = b := by
  cases q with
  | tup ys =>
    obtain ⟨a, vs, rfl, q, rr⟩ := rv_tup hq
    obtain ⟨D, Es, h1, h2, h3, h4, h5, h6⟩ := inD_ok (K := K) (show inD p ys = some b from h) hp rr
    exact ⟨D, Es, h1, .inr (.tup (SqT.of q) h2), h3, h4, by omega, h6⟩
  | lv ys =>
    obtain ⟨a, vs, rfl, q, rr⟩ := rv_lv hq
    obtain ⟨D, Es, h1, h2, h3, h4, h5, h6⟩ := inD_ok (K := K) (show inD p ys = some b from h) hp rr
    exact ⟨D, Es, h1, .inl (.lst (.inl q) h2), h3, h4, by omega, h6⟩
  | _ => cases h
theorem cop_in {p q : PV} {b : Bool} (h : cop .isin p q = some b) : (∃ c y, p = .str [c] ∧ q = .str y ∧ b = y.contains c) ∨ inV p q = some b := by
  unfold cop at h
  simp only [] at h
  split at h
  · cases h
    exact .inl ⟨_, _, rfl, rfl, rfl⟩
  · exact .inr h
  · exact .inr h
  · cases h
theorem cop_notin {p q : PV} {b : Bool} (h : cop .notin p q = some b) : (∃ c y, p = .str [c] ∧ q = .str y ∧ b = !y.contains c) ∨ ∃ c, inV p q = some c ∧ b = !c := by
  unfold cop at h
  simp only [] at h
  split at h
  · cases h
    exact .inl ⟨_, _, rfl, rfl, rfl⟩
  · refine .inr ?_
    unfold inV
    simp only []
    obtain ⟨c, e, e2⟩ := Option.map_eq_some_iff.mp h
    exact ⟨c, e, e2.symm⟩
  · refine .inr ?_
    unfold inV
    simp only []
    obtain ⟨c, e, e2⟩ := Option.map_eq_some_iff.mp h
    exact ⟨c, e, e2.symm⟩
  · cases h
theorem oc_in (hu : X.A.units + 64 < cLine) : OpR X (compareOp .In) (rc .isin) := by
  intro pins s σ H x y v u Q I rx ry h
  obtain ⟨w, p, q, b, rfl, hp, hq, h, k⟩ := h
  rcases cop_in h with ⟨c, z, rfl, rfl, rfl⟩ | h
  · obtain rfl := rv_str hp
    obtain rfl := rv_str hq
    refine op_in_sign pins s σ _ _ _ v u Q I rx ry ⟨c, _, rfl, rfl, ?_⟩
    rw [contains_eq] at k
    exact k
  · obtain ⟨D, Es, h1, h2, h3, h4, h5, h6⟩ := inV_ok (K := X.K) h hp hq
    obtain ⟨as, ra⟩ := Dp.reads I D x v h1 rx
    rcases h2 with h2 | h2
    · obtain ⟨bs, rb⟩ := Dp.reads I _ y u h2 ry
      refine SeqAt.in_list_data rb ra h4 h3 (by omega) ?_
      exact ⟨.bl _, _, I, rfl, by rw [h6]; exact k⟩
    · obtain ⟨bs, rb⟩ := Dp.reads I _ y u h2 ry
      refine SeqAt.in_tuple_data rb ra h4 h3 (by omega) ?_
      exact ⟨.bl _, _, I, rfl, by rw [h6]; exact k⟩
theorem oc_notin (hu : X.A.units + 64 < cLine) : OpR X (compareOp .NotIn) (rc .notin) := by
  intro pins s σ H x y v u Q I rx ry h
  obtain ⟨w, p, q, b, rfl, hp, hq, h, k⟩ := h
  rcases cop_notin h with ⟨c, z, rfl, rfl, rfl⟩ | ⟨c, hc, rfl⟩
  · obtain rfl := rv_str hp
    obtain rfl := rv_str hq
    refine op_notIn_sign pins s σ _ _ _ v u Q I rx ry ⟨c, _, rfl, rfl, ?_⟩
    rw [contains_eq] at k
    exact k
  · obtain ⟨D, Es, h1, h2, h3, h4, h5, h6⟩ := inV_ok (K := X.K) hc hp hq
    obtain ⟨as, ra⟩ := Dp.reads I D x v h1 rx
    rcases h2 with h2 | h2
    · obtain ⟨bs, rb⟩ := Dp.reads I _ y u h2 ry
      refine SeqAt.notIn_list_data rb ra h4 h3 (by omega) ?_
      exact ⟨.bl _, _, I, rfl, by rw [h6]; exact k⟩
    · obtain ⟨bs, rb⟩ := Dp.reads I _ y u h2 ry
      refine SeqAt.notIn_tuple_data rb ra h4 h3 (by omega) ?_
      exact ⟨.bl _, _, I, rfl, by rw [h6]; exact k⟩
theorem isNon_ok {w : Vw} {p : PV} {x : V} (h : RW w p x) : decide (x = .non) = isNon p := by
  cases p with
  | non => rw [rv_non h]; rfl
  | bl b => rw [rv_bl h]; rfl
  | int b => rw [rv_int h]; rfl
  | str b => rw [rv_str h]; rfl
  | tup xs =>
    obtain ⟨a, vs, rfl, _⟩ := rv_tup h
    rfl
  | ref n =>
    obtain ⟨a, rfl, _⟩ := rv_ref h
    rfl
  | lv xs =>
    obtain ⟨a, vs, rfl, _⟩ := rv_lv h
    rfl
  | dv t ks xs =>
    obtain ⟨a, vs, rfl, _⟩ := rv_dv h
    rfl
  | exc c fs =>
    obtain ⟨a, rfl, _⟩ := rv_exc h
    rfl
theorem bool_dec (a b : Bool) : decide (a = b) = (a == b) := by cases a <;> cases b <;> rfl
theorem oc_is : OpR X (compareOp .Is) (rc .is) := by
  intro pins s σ H x y v u Q I rx ry h
  obtain ⟨w, p, q, b, rfl, hp, hq, h, k⟩ := h
  unfold cop at h
  simp only [] at h
  split at h
  · cases h
    obtain rfl := rv_bl hp
    obtain rfl := rv_bl hq
    refine op_is_bl pins s σ _ _ _ v u Q I rx ry ⟨_, _, rfl, rfl, ?_⟩
    rw [bool_dec]
    exact k
  · cases h
    obtain rfl := rv_non hq
    refine op_isN pins s σ _ _ _ v u Q I rx ry ⟨rfl, ?_⟩
    rw [isNon_ok hp]
    exact k
  · cases h
theorem oc_isnot : OpR X (compareOp .IsNot) (rc .isnot) := by
  intro pins s σ H x y v u Q I rx ry h
  obtain ⟨w, p, q, b, rfl, hp, hq, h, k⟩ := h
  unfold cop at h
  simp only [] at h
  split at h
  · cases h
    obtain rfl := rv_bl hp
    obtain rfl := rv_bl hq
    refine op_isnot_bl pins s σ _ _ _ v u Q I rx ry ⟨_, _, rfl, rfl, ?_⟩
    rw [bool_dec]
    exact k
  · cases h
    obtain rfl := rv_non hq
    refine op_notN pins s σ _ _ _ v u Q I rx ry ⟨rfl, ?_⟩
    rw [isNon_ok hp]
    exact k
  · cases h
theorem oc_lt : OpR X (compareOp .Lt) (rc .lt) := by
  intro pins s σ H x y v u Q I rx ry h
  obtain ⟨w, p, q, b, rfl, hp, hq, h, k⟩ := h
  unfold cop at h
  simp only [] at h
  split at h
  · cases h
    obtain rfl := rv_int hp
    obtain rfl := rv_int hq
    exact op_lt pins s σ _ _ _ v u Q I rx ry ⟨_, _, rfl, rfl, k⟩
  · cases h
    obtain rfl := rv_str hp
    obtain rfl := rv_str hq
    exact op_lt_str pins s σ _ _ _ v u Q I rx ry ⟨_, _, rfl, rfl, k⟩
  · cases h
theorem oc_le : OpR X (compareOp .LtE) (rc .le) := by
  intro pins s σ H x y v u Q I rx ry h
  obtain ⟨w, p, q, b, rfl, hp, hq, h, k⟩ := h
  unfold cop at h
  simp only [] at h
  split at h
  · cases h
    obtain rfl := rv_int hp
    obtain rfl := rv_int hq
    exact op_le pins s σ _ _ _ v u Q I rx ry ⟨_, _, rfl, rfl, k⟩
  · cases h
    obtain rfl := rv_str hp
    obtain rfl := rv_str hq
    exact op_le_str pins s σ _ _ _ v u Q I rx ry ⟨_, _, rfl, rfl, k⟩
  · cases h
theorem oc_gt : OpR X (compareOp .Gt) (rc .gt) := by
  intro pins s σ H x y v u Q I rx ry h
  obtain ⟨w, p, q, b, rfl, hp, hq, h, k⟩ := h
  unfold cop at h
  simp only [] at h
  split at h
  · cases h
    obtain rfl := rv_int hp
    obtain rfl := rv_int hq
    exact op_gt pins s σ _ _ _ v u Q I rx ry ⟨_, _, rfl, rfl, k⟩
  · cases h
    obtain rfl := rv_str hp
    obtain rfl := rv_str hq
    exact op_gt_str pins s σ _ _ _ v u Q I rx ry ⟨_, _, rfl, rfl, k⟩
  · cases h
theorem oc_ge : OpR X (compareOp .GtE) (rc .ge) := by
  intro pins s σ H x y v u Q I rx ry h
  obtain ⟨w, p, q, b, rfl, hp, hq, h, k⟩ := h
  unfold cop at h
  simp only [] at h
  split at h
  · cases h
    obtain rfl := rv_int hp
    obtain rfl := rv_int hq
    exact op_ge pins s σ _ _ _ v u Q I rx ry ⟨_, _, rfl, rfl, k⟩
  · cases h
    obtain rfl := rv_str hp
    obtain rfl := rv_str hq
    exact op_ge_str pins s σ _ _ _ v u Q I rx ry ⟨_, _, rfl, rfl, k⟩
  · cases h
def copOf : Cop → CmpOp
  | .eq => .Eq | .ne => .NotEq | .lt => .Lt | .le => .LtE | .gt => .Gt | .ge => .GtE | .isin => .In | .notin => .NotIn | .is => .Is | .isnot => .IsNot
theorem oc_cop (hu : X.A.units + 64 < cLine) (op : Cop) : OpR X (compareOp (copOf op)) (rc op) := by
  cases op
  · exact oc_eq hu
  · exact oc_ne hu
  · exact oc_lt
  · exact oc_le
  · exact oc_gt
  · exact oc_ge
  · exact oc_in hu
  · exact oc_notin hu
  · exact oc_is
  · exact oc_isnot
end
end Pu

set_option linter.all false
set_option autoImplicit false
set_option maxRecDepth 100000
/-! P6: order and sorting of data. -/
namespace Pu
open PySem PySem.Spec PyProof.Rows L2

theorem toDs_map : ∀ xs : List PV, toDs xs = xs.map toD
  | [] => by unfold toDs; rfl
  | x :: xs => by unfold toDs; rw [toDs_map xs]; rfl
mutual
theorem Dt.toD : ∀ p : PV, p.rf = true → Dt p (Pu.toD p)
  | .non, _ => by unfold Dt Pu.toD; rfl
  | .bl _, _ => by unfold Dt Pu.toD; rfl
  | .int _, _ => by unfold Dt Pu.toD; rfl
  | .str _, _ => by unfold Dt Pu.toD; rfl
  | .tup xs, h => by
    unfold PV.rf at h
    unfold Dt Pu.toD
    exact ⟨_, rfl, Dts.toD xs h⟩
  | .lv xs, h => by unfold PV.rf at h; cases h
  | .ref n, h => by unfold PV.rf at h; cases h
  | .dv _ _ _, h => by unfold PV.rf at h; cases h
  | .exc _ _, h => by unfold PV.rf at h; cases h
theorem Dts.toD : ∀ ps : List PV, rfs ps = true → Dts ps (toDs ps)
  | [], _ => by unfold Dts toDs; rfl
  | x :: xs, h => by
    unfold rfs at h
    obtain ⟨h1, h2⟩ := Bool.and_eq_true_iff.mp h
    unfold Dts toDs
    exact ⟨_, _, rfl, Dt.toD x h1, Dts.toD xs h2⟩
end
mutual
theorem alike_toD : ∀ p q : PV, alikeP p q = true → PySem.W.alike (toD p) (toD q) = true
  | .int _, q, h => by cases q <;> unfold alikeP at h <;> first | exact absurd h Bool.false_ne_true | (unfold toD PySem.W.alike; rfl)
  | .str _, q, h => by cases q <;> unfold alikeP at h <;> first | exact absurd h Bool.false_ne_true | (unfold toD PySem.W.alike; rfl)
  | .bl _, q, h => by cases q <;> unfold alikeP at h <;> first | exact absurd h Bool.false_ne_true | (unfold toD PySem.W.alike; rfl)
  | .tup xs, q, h => by
    cases q <;> unfold alikeP at h <;> first | exact absurd h Bool.false_ne_true | skip
    unfold toD PySem.W.alike
    exact alikes_toD _ _ h
  | .non, q, h => by unfold alikeP at h; cases h
  | .ref _, q, h => by unfold alikeP at h; cases h
  | .lv _, q, h => by unfold alikeP at h; cases h
  | .dv _ _ _, q, h => by unfold alikeP at h; cases h
  | .exc _ _, q, h => by unfold alikeP at h; cases h
theorem alikes_toD : ∀ ps qs : List PV, alikePs ps qs = true → PySem.W.alikeAll (toDs ps) (toDs qs) = true
  | [], _, _ => by unfold toDs; rw [PySem.W.alikeAll]
  | _ :: _, [], _ => by unfold toDs; rw [PySem.W.alikeAll]
  | x :: xs, y :: ys, h => by
    unfold alikePs at h
    obtain ⟨h1, h2⟩ := Bool.and_eq_true_iff.mp h
    unfold toDs
    rw [PySem.W.alikeAll, alike_toD x y h1, alikes_toD xs ys h2]
    rfl
end
theorem toD_eqv (p q : PV) (hp : p.rf = true) (hq : q.rf = true) : PyData.eqv (toD p) (toD q) = eqv p q := Dt.eqv _ _ _ _ (Dt.toD p hp) (Dt.toD q hq)
mutual
theorem dataLt_ltv : ∀ p q : PV, p.rf = true → q.rf = true → alikeP p q = true → PySem.W.dataLt (toD p) (toD q) = ltv p q
  | .int i, q, _, _, h => by
    cases q <;> unfold alikeP at h <;> first | exact absurd h Bool.false_ne_true | skip
    unfold toD ltv
    exact PySem.W.dataLt_int _ _
  | .str i, q, _, _, h => by
    cases q <;> unfold alikeP at h <;> first | exact absurd h Bool.false_ne_true | skip
    unfold toD ltv
    exact PySem.W.dataLt_str _ _
  | .bl i, .bl b, _, _, h => by
    unfold toD ltv
    rw [PySem.W.dataLt_bool]
    cases i <;> cases b <;> rfl
  | .bl i, .non, _, _, h | .bl i, .int _, _, _, h | .bl i, .str _, _, _, h | .bl i, .tup _, _, _, h | .bl i, .ref _, _, _, h | .bl i, .lv _, _, _, h | .bl i, .dv _ _ _, _, _, h | .bl i, .exc _ _, _, _, h => by unfold alikeP at h; exact absurd h Bool.false_ne_true
  | .tup xs, q, hp, hq, h => by
    cases q <;> unfold alikeP at h <;> first | exact absurd h Bool.false_ne_true | skip
    rename_i ys
    unfold toD ltv
    rw [PySem.W.dataLt_tuple]
    unfold PV.rf at hp hq
    exact dataLt_ltvs xs ys hp hq h
  | .non, q, _, _, h => by unfold alikeP at h; exact absurd h Bool.false_ne_true
  | .ref _, q, _, _, h => by unfold alikeP at h; exact absurd h Bool.false_ne_true
  | .lv _, q, _, _, h => by unfold alikeP at h; exact absurd h Bool.false_ne_true
  | .dv _ _ _, q, _, _, h => by unfold alikeP at h; exact absurd h Bool.false_ne_true
  | .exc _ _, q, _, _, h => by unfold alikeP at h; exact absurd h Bool.false_ne_true
theorem dataLt_ltvs : ∀ ps qs : List PV, rfs ps = true → rfs qs = true → alikePs ps qs = true → PyProof.Rows.lexLt itemOrd (PySem.W.keyToksAll (toDs ps)) (PySem.W.keyToksAll (toDs qs)) = ltvs ps qs
  | [], [], _, _, _ => by unfold toDs ltvs; exact PyProof.Rows.lex_irrefl (O := itemOrd) _
  | [], y :: ys, _, _, _ => by
    unfold toDs ltvs
    rw [PySem.W.keyToksAll, PySem.W.keyToksAll]
    exact (PySem.W.lex_atom (by simp) _ _).trans (by rw [PySem.W.lex_one]; rfl)
  | x :: xs, [], _, _, _ => by
    unfold toDs ltvs
    rw [PySem.W.keyToksAll, PySem.W.keyToksAll]
    exact (PySem.W.lex_atom (by simp) _ _).trans (by rw [PySem.W.lex_one]; rfl)
  | x :: xs, y :: ys, hp, hq, h => by
    unfold rfs at hp hq
    unfold alikePs at h
    obtain ⟨p1, p2⟩ := Bool.and_eq_true_iff.mp hp
    obtain ⟨q1, q2⟩ := Bool.and_eq_true_iff.mp hq
    obtain ⟨h1, h2⟩ := Bool.and_eq_true_iff.mp h
    unfold toDs ltvs
    rw [PySem.W.dataLt_cons (alike_toD x y h1), toD_eqv x y p1 q1, dataLt_ltvs xs ys p2 q2 h2, dataLt_ltv x y p1 q1 h1]
end
mutual
theorem eqv_alike : ∀ p q : PV, alikeP p q = true → eqv p q = true → p = q
  | .int i, q, h, a => by
    cases q <;> unfold alikeP at h <;> first | exact absurd h Bool.false_ne_true | skip
    unfold eqv at a
    rw [of_decide_eq_true a]
  | .str i, q, h, a => by
    cases q <;> unfold alikeP at h <;> first | exact absurd h Bool.false_ne_true | skip
    unfold eqv at a
    rw [of_decide_eq_true a]
  | .bl i, q, h, a => by
    cases q <;> unfold alikeP at h <;> first | exact absurd h Bool.false_ne_true | skip
    unfold eqv at a
    rw [eq_of_beq a]
  | .tup xs, q, h, a => by
    cases q <;> unfold alikeP at h <;> first | exact absurd h Bool.false_ne_true | skip
    unfold eqv at a
    rw [eqvs_alike xs _ h a]
  | .non, q, h, _ => by unfold alikeP at h; exact absurd h Bool.false_ne_true
  | .ref _, q, h, _ => by unfold alikeP at h; exact absurd h Bool.false_ne_true
  | .lv _, q, h, _ => by unfold alikeP at h; exact absurd h Bool.false_ne_true
  | .dv _ _ _, q, h, _ => by unfold alikeP at h; exact absurd h Bool.false_ne_true
  | .exc _ _, q, h, _ => by unfold alikeP at h; exact absurd h Bool.false_ne_true
theorem eqvs_alike : ∀ ps qs : List PV, alikePs ps qs = true → eqvs ps qs = true → ps = qs
  | [], [], _, _ => rfl
  | [], y :: ys, _, a => by unfold eqvs at a; cases a
  | x :: xs, [], _, a => by unfold eqvs at a; cases a
  | x :: xs, y :: ys, h, a => by
    unfold alikePs at h
    unfold eqvs at a
    obtain ⟨h1, h2⟩ := Bool.and_eq_true_iff.mp h
    obtain ⟨a1, a2⟩ := Bool.and_eq_true_iff.mp a
    rw [eqv_alike x y h1 a1, eqvs_alike xs ys h2 a2]
end
mutual
theorem eqv_self : ∀ p : PV, alikeP p p = true → eqv p p = true
  | .int i, _ => by unfold eqv; exact decide_eq_true rfl
  | .str i, _ => by unfold eqv; exact decide_eq_true rfl
  | .bl i, _ => by unfold eqv; exact beq_self_eq_true _
  | .tup xs, h => by
    unfold alikeP at h
    unfold eqv
    exact eqvs_self xs h
  | .non, h => by unfold alikeP at h; exact absurd h Bool.false_ne_true
  | .ref _, h => by unfold alikeP at h; exact absurd h Bool.false_ne_true
  | .lv _, h => by unfold alikeP at h; exact absurd h Bool.false_ne_true
  | .dv _ _ _, h => by unfold alikeP at h; exact absurd h Bool.false_ne_true
  | .exc _ _, h => by unfold alikeP at h; exact absurd h Bool.false_ne_true
theorem eqvs_self : ∀ ps : List PV, alikePs ps ps = true → eqvs ps ps = true
  | [], _ => by unfold eqvs; rfl
  | x :: xs, h => by
    unfold alikePs at h
    obtain ⟨h1, h2⟩ := Bool.and_eq_true_iff.mp h
    unfold eqvs
    rw [eqv_self x h1, eqvs_self xs h2]
    rfl
end
mutual
theorem alike_comm : ∀ p q : PV, alikeP p q = true → alikeP q p = true
  | .int i, q, h => by cases q <;> unfold alikeP at h ⊢ <;> first | exact absurd h Bool.false_ne_true | rfl
  | .str i, q, h => by cases q <;> unfold alikeP at h ⊢ <;> first | exact absurd h Bool.false_ne_true | rfl
  | .bl i, q, h => by cases q <;> unfold alikeP at h ⊢ <;> first | exact absurd h Bool.false_ne_true | rfl
  | .tup xs, q, h => by
    cases q <;> unfold alikeP at h ⊢ <;> first | exact absurd h Bool.false_ne_true | skip
    exact alikes_comm xs _ h
  | .non, q, h => by unfold alikeP at h; exact absurd h Bool.false_ne_true
  | .ref _, q, h => by unfold alikeP at h; exact absurd h Bool.false_ne_true
  | .lv _, q, h => by unfold alikeP at h; exact absurd h Bool.false_ne_true
  | .dv _ _ _, q, h => by unfold alikeP at h; exact absurd h Bool.false_ne_true
  | .exc _ _, q, h => by unfold alikeP at h; exact absurd h Bool.false_ne_true
theorem alikes_comm : ∀ ps qs : List PV, alikePs ps qs = true → alikePs qs ps = true
  | [], [], _ => by unfold alikePs; rfl
  | [], y :: ys, _ => by unfold alikePs; rfl
  | x :: xs, [], _ => by unfold alikePs; rfl
  | x :: xs, y :: ys, h => by
    unfold alikePs at h ⊢
    obtain ⟨h1, h2⟩ := Bool.and_eq_true_iff.mp h
    rw [alike_comm x y h1, alikes_comm xs ys h2]
    rfl
end
mutual
theorem alike_left : ∀ p q : PV, alikeP p q = true → eqv p q = true → alikeP p p = true
  | .int i, q, h, _ => by unfold alikeP; rfl
  | .str i, q, h, _ => by unfold alikeP; rfl
  | .bl i, q, h, _ => by unfold alikeP; rfl
  | .tup xs, q, h, a => by
    have e := eqv_alike _ _ h a
    subst e
    exact h
  | .non, q, h, _ => by unfold alikeP at h; exact absurd h Bool.false_ne_true
  | .ref _, q, h, _ => by unfold alikeP at h; exact absurd h Bool.false_ne_true
  | .lv _, q, h, _ => by unfold alikeP at h; exact absurd h Bool.false_ne_true
  | .dv _ _ _, q, h, _ => by unfold alikeP at h; exact absurd h Bool.false_ne_true
  | .exc _ _, q, h, _ => by unfold alikeP at h; exact absurd h Bool.false_ne_true
end
mutual
/-- alike and neither less: the same -/
theorem tri : ∀ p q : PV, alikeP p q = true → ltv p q = false → ltv q p = false → p = q
  | .int i, .int j, h, a, b => by
    unfold ltv at a b
    have := of_decide_eq_false a
    have := of_decide_eq_false b
    rw [show i = j by omega]
  | .str i, .str j, h, a, b => by
    unfold ltv at a b
    have h1 := of_decide_eq_false a
    have h2 := of_decide_eq_false b
    rw [List.le_antisymm (List.not_lt.mp h2) (List.not_lt.mp h1)]
  | .bl i, .bl j, h, a, b => by
    unfold ltv at a b
    cases i <;> cases j <;> first | rfl | simp at a b
  | .tup xs, .tup ys, h, a, b => by
    unfold alikeP at h
    unfold ltv at a b
    rw [tris xs ys h a b]
  | .int i, .non, h, _, _ | .int i, .str _, h, _, _ | .int i, .bl _, h, _, _ | .int i, .tup _, h, _, _ | .int i, .ref _, h, _, _ | .int i, .lv _, h, _, _ | .int i, .dv _ _ _, h, _, _ | .int i, .exc _ _, h, _, _ => by unfold alikeP at h; exact absurd h Bool.false_ne_true
  | .bl i, .non, h, _, _ | .bl i, .str _, h, _, _ | .bl i, .int _, h, _, _ | .bl i, .tup _, h, _, _ | .bl i, .ref _, h, _, _ | .bl i, .lv _, h, _, _ | .bl i, .dv _ _ _, h, _, _ | .bl i, .exc _ _, h, _, _ => by unfold alikeP at h; exact absurd h Bool.false_ne_true
  | .str i, .non, h, _, _ | .str i, .int _, h, _, _ | .str i, .bl _, h, _, _ | .str i, .tup _, h, _, _ | .str i, .ref _, h, _, _ | .str i, .lv _, h, _, _ | .str i, .dv _ _ _, h, _, _ | .str i, .exc _ _, h, _, _ => by unfold alikeP at h; exact absurd h Bool.false_ne_true
  | .tup i, .non, h, _, _ | .tup i, .int _, h, _, _ | .tup i, .bl _, h, _, _ | .tup i, .str _, h, _, _ | .tup i, .ref _, h, _, _ | .tup i, .lv _, h, _, _ | .tup i, .dv _ _ _, h, _, _ | .tup i, .exc _ _, h, _, _ => by unfold alikeP at h; exact absurd h Bool.false_ne_true
  | .non, q, h, _, _ => by unfold alikeP at h; exact absurd h Bool.false_ne_true
  | .ref _, q, h, _, _ => by unfold alikeP at h; exact absurd h Bool.false_ne_true
  | .lv _, q, h, _, _ => by unfold alikeP at h; exact absurd h Bool.false_ne_true
  | .dv _ _ _, q, h, _, _ => by unfold alikeP at h; exact absurd h Bool.false_ne_true
  | .exc _ _, q, h, _, _ => by unfold alikeP at h; exact absurd h Bool.false_ne_true
theorem tris : ∀ ps qs : List PV, alikePs ps qs = true → ltvs ps qs = false → ltvs qs ps = false → ps = qs
  | [], [], _, _, _ => rfl
  | [], y :: ys, _, a, _ => by unfold ltvs at a; cases a
  | x :: xs, [], _, _, b => by unfold ltvs at b; cases b
  | x :: xs, y :: ys, h, a, b => by
    unfold alikePs at h
    obtain ⟨h1, h2⟩ := Bool.and_eq_true_iff.mp h
    unfold ltvs at a b
    have exy : x = y := by
      cases c : eqv x y with
      | true => exact eqv_alike x y h1 c
      | false =>
        rw [c, if_neg (by simp)] at a
        cases d : eqv y x with
        | true => exact (eqv_alike y x (alike_comm x y h1) d).symm
        | false =>
          rw [d, if_neg (by simp)] at b
          exact tri x y h1 a b
    subst exy
    rw [eqv_self x h1, if_pos rfl] at a b
    rw [tris xs ys h2 a b]
end

mutual
theorem Dt.det : ∀ (p : PV) (D E : PyData), Dt p D → Dt p E → D = E
  | .non, _, _, h, g => by unfold Dt at h g; rw [h, g]
  | .bl _, _, _, h, g => by unfold Dt at h g; rw [h, g]
  | .int _, _, _, h, g => by unfold Dt at h g; rw [h, g]
  | .str _, _, _, h, g => by unfold Dt at h g; rw [h, g]
  | .tup xs, _, _, h, g => by
    unfold Dt at h g
    obtain ⟨a, rfl, ha⟩ := h
    obtain ⟨b, rfl, hb⟩ := g
    rw [Dts.det xs _ _ ha hb]
  | .lv xs, _, _, h, g => by
    unfold Dt at h g
    obtain ⟨a, rfl, ha⟩ := h
    obtain ⟨b, rfl, hb⟩ := g
    rw [Dts.det xs _ _ ha hb]
  | .ref _, _, _, h, _ => by unfold Dt at h; exact h.elim
theorem Dts.det : ∀ (ps : List PV) (D E : List PyData), Dts ps D → Dts ps E → D = E
  | [], _, _, h, g => by unfold Dts at h g; rw [h, g]
  | x :: xs, _, _, h, g => by
    unfold Dts at h g
    obtain ⟨a, as, rfl, h1, h2⟩ := h
    obtain ⟨b, bs, rfl, g1, g2⟩ := g
    rw [Dt.det x _ _ h1 g1, Dts.det xs _ _ h2 g2]
end
/-! ### insertion -/
section
variable {α : Type} (lt : α → α → Bool)
def insB (x : α) : List α → List α
  | [] => [x]
  | y :: ys => if lt x y then x :: y :: ys else y :: insB x ys
theorem insB_perm (x : α) : ∀ l : List α, (insB lt x l).Perm (x :: l)
  | [] => .refl _
  | y :: ys => by
    unfold insB
    split
    · exact .refl _
    · exact ((insB_perm x ys).cons y).trans (.swap _ _ _)
/-- not less the other way round: in order -/
theorem insB_sorted (neg : ∀ a b c, lt a b = false → lt b c = false → lt a c = false) (asym : ∀ a b, lt a b = true → lt b a = false) (x : α) : ∀ l : List α, l.Pairwise (fun a b => lt b a = false) → (insB lt x l).Pairwise (fun a b => lt b a = false)
  | [], _ => by unfold insB; exact List.pairwise_singleton _ _
  | y :: ys, h => by
    obtain ⟨h1, h2⟩ := List.pairwise_cons.mp h
    unfold insB
    by_cases c : lt x y = true
    · rw [if_pos c]
      refine List.pairwise_cons.mpr ⟨fun z hz => ?_, h⟩
      rcases List.mem_cons.mp hz with e | e
      · rw [e]; exact asym _ _ c
      · exact neg _ _ _ (h1 z e) (asym _ _ c)
    · rw [if_neg c]
      refine List.pairwise_cons.mpr ⟨fun z hz => ?_, insB_sorted neg asym x ys h2⟩
      rcases List.mem_cons.mp ((insB_perm lt x ys).mem_iff.mp hz) with e | e
      · rw [e]
        cases q : lt x y with
        | true => exact absurd q c
        | false => rfl
      · exact h1 z e
end
theorem ins1_eq (x : PV) : ∀ l : List PV, ins1 x l = insB ltv x l
  | [] => rfl
  | y :: ys => by
    unfold ins1 insB
    rw [ins1_eq x ys]

def ltD (p q : PV) : Bool := PySem.W.dataLt (toD p) (toD q)
theorem ltD_irrefl (p : PV) : ltD p p = false := PyProof.Rows.lex_irrefl (O := itemOrd) _
theorem ltD_trans (a b c : PV) (h : ltD a b = true) (g : ltD b c = true) : ltD a c = true := PyProof.Rows.lex_trans (O := itemOrd) _ _ _ h g
theorem ltD_neg (a b c : PV) (h : ltD a b = false) (g : ltD b c = false) : ltD a c = false := by
  cases q : ltD a c with
  | false => rfl
  | true =>
    have := PyProof.Rows.lex_negTrans (O := itemOrd) (PySem.W.keyToks (toD a)) (PySem.W.keyToks (toD b)) (PySem.W.keyToks (toD c)) q
    rcases this with z | z
    · exact absurd (h.symm.trans z) Bool.false_ne_true
    · exact absurd (g.symm.trans z) Bool.false_ne_true
theorem ltD_asym (a b : PV) (h : ltD a b = true) : ltD b a = false := by
  cases q : ltD b a with
  | false => rfl
  | true =>
    have := ltD_trans _ _ _ h q
    rw [ltD_irrefl] at this
    cases this
/-- all of one kind -/
def AlkL (l : List PV) : Prop := ∀ p ∈ l, ∀ q ∈ l, alikeP p q = true
theorem alikeAll_mem {x : PV} : ∀ {l : List PV}, Pu.alikeAll x l = true → ∀ q ∈ l, alikeP x q = true
  | [], _, _, h => nomatch h
  | y :: ys, h, q, hq => by
    unfold Pu.alikeAll at h
    obtain ⟨h1, h2⟩ := Bool.and_eq_true_iff.mp h
    rcases List.mem_cons.mp hq with e | e
    · rw [e]; exact h1
    · exact alikeAll_mem h2 q e
theorem alikeEach_mem : ∀ {l : List PV}, alikeEach l = true → AlkL l
  | [], _, _, h, _, _ => nomatch h
  | x :: xs, h, p, hp, q, hq => by
    unfold alikeEach at h
    obtain ⟨h12, h3⟩ := Bool.and_eq_true_iff.mp h
    obtain ⟨h1, h2⟩ := Bool.and_eq_true_iff.mp h12
    rcases List.mem_cons.mp hp with e | e
    · rcases List.mem_cons.mp hq with f | f
      · rw [e, f]; exact h1
      · rw [e]; exact alikeAll_mem h2 q f
    · rcases List.mem_cons.mp hq with f | f
      · rw [f]; exact alike_comm _ _ (alikeAll_mem h2 p e)
      · exact alikeEach_mem h3 p e q f
theorem rfs_iff : ∀ {xs : List PV}, rfs xs = true ↔ ∀ x ∈ xs, x.rf = true
  | [] => ⟨fun _ _ h => absurd h (by simp), fun _ => by unfold rfs; rfl⟩
  | x :: xs => by
    unfold rfs
    rw [Bool.and_eq_true_iff, rfs_iff (xs := xs)]
    exact ⟨fun h y hy => by
      rcases List.mem_cons.mp hy with e | e
      · rw [e]; exact h.1
      · exact h.2 y e, fun h => ⟨h x List.mem_cons_self, fun y hy => h y (List.mem_cons_of_mem _ hy)⟩⟩
theorem rfs_mem {l : List PV} (h : rfs l = true) : ∀ p ∈ l, p.rf = true := rfs_iff.mp h
theorem ltv_ltD {l : List PV} (a : AlkL l) (r : rfs l = true) {p q : PV} (hp : p ∈ l) (hq : q ∈ l) : ltv p q = ltD p q :=
  (dataLt_ltv p q (rfs_mem r p hp) (rfs_mem r q hq) (a p hp q hq)).symm
theorem insB_congr {lt lt' : PV → PV → Bool} {x : PV} : ∀ {l : List PV}, (∀ y ∈ l, lt x y = lt' x y) → insB lt x l = insB lt' x l
  | [], _ => rfl
  | y :: ys, h => by
    unfold insB
    rw [h y List.mem_cons_self, insB_congr fun z hz => h z (List.mem_cons_of_mem _ hz)]
theorem fold_sorted (lt : PV → PV → Bool) (neg : ∀ a b c, lt a b = false → lt b c = false → lt a c = false) (asym : ∀ a b, lt a b = true → lt b a = false) : ∀ (xs acc : List PV), acc.Pairwise (fun a b => lt b a = false) →
    (xs.foldl (fun acc x => insB lt x acc) acc).Pairwise (fun a b => lt b a = false) ∧ (xs.foldl (fun acc x => insB lt x acc) acc).Perm (xs ++ acc)
  | [], acc, h => ⟨h, .refl _⟩
  | x :: xs, acc, h => by
    obtain ⟨a, b⟩ := fold_sorted lt neg asym xs _ (insB_sorted lt neg asym x acc h)
    refine ⟨a, b.trans ?_⟩
    exact ((insB_perm lt x acc).append_left xs).trans List.perm_middle
theorem fold_congr {lt lt' : PV → PV → Bool} {l : List PV} (h : ∀ x ∈ l, ∀ y ∈ l, lt x y = lt' x y) : ∀ (xs acc : List PV), (∀ x ∈ xs, x ∈ l) → (∀ x ∈ acc, x ∈ l) →
    xs.foldl (fun acc x => insB lt x acc) acc = xs.foldl (fun acc x => insB lt' x acc) acc
  | [], _, _, _ => rfl
  | x :: xs, acc, hx, ha => by
    rw [List.foldl_cons, List.foldl_cons, insB_congr fun y hy => h x (hx x List.mem_cons_self) y (ha y hy)]
    refine fold_congr h xs _ (fun z hz => hx z (List.mem_cons_of_mem _ hz)) fun z hz => ?_
    rcases List.mem_cons.mp ((insB_perm lt' x acc).mem_iff.mp hz) with e | e
    · rw [e]; exact hx x List.mem_cons_self
    · exact ha z e
theorem isort_fold (xs : List PV) : isort xs = xs.foldl (fun acc x => insB ltv x acc) [] := by
  unfold isort
  congr 1
  funext acc x
  exact ins1_eq x acc
theorem isort_spec {xs : List PV} (a : AlkL xs) (r : rfs xs = true) : (isort xs).Pairwise (fun p q => ltD q p = false) ∧ (isort xs).Perm xs := by
  rw [isort_fold, fold_congr (l := xs) (fun x hx y hy => ltv_ltD a r hx hy) xs [] (fun _ h => h) (fun _ h => nomatch h)]
  have := fold_sorted ltD ltD_neg ltD_asym xs [] .nil
  rw [List.append_nil] at this
  exact this
theorem dataLe_ltD (p q : PV) : PySem.W.dataLe false toD p q = !ltD q p := rfl
/-- what the program's sorted gives -/
theorem isort_merge {xs : List PV} (a : AlkL xs) (r : rfs xs = true) : xs.mergeSort (PySem.W.dataLe false toD) = isort xs := by
  obtain ⟨s1, p1⟩ := isort_spec a r
  have p2 : (xs.mergeSort (PySem.W.dataLe false toD)).Perm xs := List.mergeSort_perm _ _
  have s2 : (xs.mergeSort (PySem.W.dataLe false toD)).Pairwise (fun p q => ltD q p = false) := by
    refine (List.pairwise_mergeSort (le := PySem.W.dataLe false toD) (fun a b c h g => ?_) (fun a b => ?_) xs).imp fun {p q} h => ?_
    · rw [dataLe_ltD] at h g ⊢
      have h' : ltD b a = false := by simpa using h
      have g' : ltD c b = false := by simpa using g
      rw [ltD_neg c b a g' h']
      rfl
    · rw [dataLe_ltD, dataLe_ltD]
      cases q : ltD b a with
      | false => rfl
      | true => rw [ltD_asym _ _ q]; rfl
    · rw [dataLe_ltD] at h
      simpa using h
  refine List.Perm.eq_of_pairwise (le := fun p q => ltD q p = false) (fun p q hp hq h g => ?_) s2 s1 (p2.trans p1.symm)
  have mp := p2.mem_iff.mp hp
  have mq := p1.mem_iff.mp hq
  exact tri p q (a p mp q mq) (by rw [ltv_ltD a r mp mq]; exact g) (by rw [ltv_ltD a r mq mp]; exact h)

mutual
theorem rf_dk : ∀ (p : PV), p.rf = true → p.dk p.dep = true
  | .non, _ => by unfold PV.dk; rfl
  | .bl _, _ => by unfold PV.dk; rfl
  | .int _, _ => by unfold PV.dk; rfl
  | .str _, _ => by unfold PV.dk; rfl
  | .tup xs, h => by
    unfold PV.rf at h
    unfold PV.dk PV.dep
    rw [decide_eq_true (Nat.succ_pos _), Nat.add_sub_cancel, rfs_dks xs h _ (Nat.le_refl _)]
    rfl
  | .lv xs, h => by unfold PV.rf at h; cases h
  | .ref n, h => by unfold PV.rf at h; cases h
  | .dv _ _ _, h => by unfold PV.rf at h; cases h
  | .exc _ _, h => by unfold PV.rf at h; cases h
theorem dk_up : ∀ (p : PV) (n m : Nat), n ≤ m → p.dk n = true → p.dk m = true
  | .non, _, _, _, _ => by unfold PV.dk; rfl
  | .bl _, _, _, _, _ => by unfold PV.dk; rfl
  | .int _, _, _, _, _ => by unfold PV.dk; rfl
  | .str _, _, _, _, _ => by unfold PV.dk; rfl
  | .tup xs, n, m, l, h => by
    unfold PV.dk at h ⊢
    obtain ⟨h0, h⟩ := Bool.and_eq_true_iff.mp h
    have h0 := of_decide_eq_true h0
    rw [decide_eq_true (by omega), dks_up xs (n - 1) (m - 1) (by omega) h]
    rfl
  | .lv xs, n, m, l, h => by
    unfold PV.dk at h ⊢
    obtain ⟨h0, h⟩ := Bool.and_eq_true_iff.mp h
    have h0 := of_decide_eq_true h0
    rw [decide_eq_true (by omega), dks_up xs (n - 1) (m - 1) (by omega) h]
    rfl
  | .ref n, _, _, _, h => by unfold PV.dk at h; cases h
  | .dv _ _ _, _, _, _, h => by unfold PV.dk at h; cases h
  | .exc _ _, _, _, _, h => by unfold PV.dk at h; cases h
theorem dks_up : ∀ (ps : List PV) (n m : Nat), n ≤ m → PV.dks ps n = true → PV.dks ps m = true
  | [], _, _, _, _ => by unfold PV.dks; rfl
  | x :: xs, n, m, l, h => by
    unfold PV.dks at h ⊢
    obtain ⟨h1, h2⟩ := Bool.and_eq_true_iff.mp h
    rw [dk_up x n m l h1, dks_up xs n m l h2]
    rfl
theorem rfs_dks : ∀ (ps : List PV), rfs ps = true → ∀ n, PV.deps ps ≤ n → PV.dks ps n = true
  | [], _, _, _ => by unfold PV.dks; rfl
  | x :: xs, h, n, l => by
    unfold rfs at h
    unfold PV.deps at l
    obtain ⟨h1, h2⟩ := Bool.and_eq_true_iff.mp h
    unfold PV.dks
    rw [dk_up x x.dep n (by omega) (rf_dk x h1), rfs_dks xs h2 n (by omega)]
    rfl
end
mutual
theorem alike_rf : ∀ p : PV, alikeP p p = true → p.rf = true
  | .int i, _ => by unfold PV.rf; rfl
  | .str i, _ => by unfold PV.rf; rfl
  | .bl i, _ => by unfold PV.rf; rfl
  | .tup xs, h => by
    unfold alikeP at h
    unfold PV.rf
    exact alikes_rf xs h
  | .non, h => by unfold alikeP at h; exact absurd h Bool.false_ne_true
  | .ref _, h => by unfold alikeP at h; exact absurd h Bool.false_ne_true
  | .lv _, h => by unfold alikeP at h; exact absurd h Bool.false_ne_true
  | .dv _ _ _, h => by unfold alikeP at h; exact absurd h Bool.false_ne_true
  | .exc _ _, h => by unfold alikeP at h; exact absurd h Bool.false_ne_true
theorem alikes_rf : ∀ ps : List PV, alikePs ps ps = true → rfs ps = true
  | [], _ => by unfold rfs; rfl
  | x :: xs, h => by
    unfold alikePs at h
    obtain ⟨h1, h2⟩ := Bool.and_eq_true_iff.mp h
    unfold rfs
    rw [alike_rf x h1, alikes_rf xs h2]
    rfl
end
theorem AlkL.rf {l : List PV} (a : AlkL l) : rfs l = true := rfs_iff.mpr fun p hp => alike_rf p (a p hp p hp)
theorem dp_of (K : PySem.W.Frag) {w : Vw} {p : PV} {v : V} (r : RV w p v) (h : p.rf = true) : Dp K w.H v (toD p) := by
  obtain ⟨D, d1, d2⟩ := deep_ok K p _ v (rf_dk p h) r
  have e := Dt.det p _ _ d1 (Dt.toD p h)
  rw [← e]
  exact d2
end Pu

set_option linter.all false
set_option autoImplicit false
set_option maxRecDepth 100000
set_option maxHeartbeats 4000000
/-! P8: sorted(set(xs)), len(set(xs)) of ints and texts. -/
namespace Pu
open PySem PySem.Spec PyProof.Rows L2

def pK : PV → Key
  | .int i => .inl i
  | .str x => .inr ⟨⟨x⟩⟩
  | _ => .inl 0
theorem kP_inj {a b : Key} (h : kP a = kP b) : a = b := by
  cases a <;> cases b <;> unfold kP at h
  · rw [PV.int.inj h]
  · cases h
  · cases h
  · rename_i x y
    obtain ⟨⟨x⟩⟩ := x
    obtain ⟨⟨y⟩⟩ := y
    have : x = y := PV.str.inj h
    rw [this]
/-- what sets are made of here -/
inductive KeyV : PV → Prop | int (i : Int) : KeyV (.int i) | str (x : Sg) : KeyV (.str x)
theorem pK_kP {p : PV} (h : KeyV p) : kP (pK p) = p := by cases h <;> rfl
theorem allInt_mem : ∀ {xs : List PV}, allInt xs = true → ∀ p ∈ xs, ∃ i, p = .int i
  | [], _, _, h => nomatch h
  | x :: xs, h, p, hp => by
    cases x <;> unfold allInt at h <;> first | exact absurd h Bool.false_ne_true | skip
    rcases List.mem_cons.mp hp with e | e
    · exact ⟨_, e⟩
    · exact allInt_mem h p e
theorem allStr_mem : ∀ {xs : List PV}, allStr xs = true → ∀ p ∈ xs, ∃ i, p = .str i
  | [], _, _, h => nomatch h
  | x :: xs, h, p, hp => by
    cases x <;> unfold allStr at h <;> first | exact absurd h Bool.false_ne_true | skip
    rcases List.mem_cons.mp hp with e | e
    · exact ⟨_, e⟩
    · exact allStr_mem h p e
theorem setable_ok {xs : List PV} (h : setable xs = true) : (∀ p ∈ xs, KeyV p) ∧ AlkL xs ∧ xs.length < 64 := by
  obtain ⟨h1, h2⟩ := Bool.and_eq_true_iff.mp h
  refine ⟨?_, ?_, of_decide_eq_true h2⟩
  · intro p hp
    rcases Bool.or_eq_true_iff.mp h1 with c | c
    · obtain ⟨i, rfl⟩ := allInt_mem c p hp
      exact .int i
    · obtain ⟨i, rfl⟩ := allStr_mem c p hp
      exact .str i
  · intro p hp q hq
    rcases Bool.or_eq_true_iff.mp h1 with c | c
    · obtain ⟨i, rfl⟩ := allInt_mem c p hp
      obtain ⟨j, rfl⟩ := allInt_mem c q hq
      unfold alikeP; rfl
    · obtain ⟨i, rfl⟩ := allStr_mem c p hp
      obtain ⟨j, rfl⟩ := allStr_mem c q hq
      unfold alikeP; rfl
theorem keyV_rf {p : PV} (h : KeyV p) : p.rf = true := by cases h <;> (unfold PV.rf; rfl)
theorem keyVs {w : Vw} : ∀ {xs : List PV} {vs : List V}, (∀ p ∈ xs, KeyV p) → RVs w xs vs → vs = (xs.map pK).map kV
  | [], _, _, h => by rw [h.inv0]; rfl
  | x :: xs, _, k, h => by
    obtain ⟨u, us, rfl, a, b⟩ := h.inv
    rw [List.map_cons, List.map_cons, ← keyVs (fun p hp => k p (List.mem_cons_of_mem _ hp)) b]
    have e : u = kV (pK x) := by
      cases k x List.mem_cons_self with
      | int i => exact rv_int (.inl a)
      | str i => exact rv_str (.inl a)
    rw [e]

theorem kP_rf (k : Key) : (kP k).rf = true := by cases k <;> (unfold kP PV.rf; rfl)
theorem rfs_sub {xs ys : List PV} (h : rfs xs = true) (s : ∀ y ∈ ys, y ∈ xs) : rfs ys = true := rfs_iff.mpr fun y hy => rfs_iff.mp h y (s y hy)
/-! ### strictly ascending -/
theorem insU_mem {x y : PV} : ∀ {l : List PV}, (∀ z ∈ l, alikeP x z = true) → (y ∈ insU x l ↔ y = x ∨ y ∈ l)
  | [], _ => by unfold insU; simp
  | z :: zs, h => by
    unfold insU
    by_cases c : ltv x z = true
    · rw [if_pos c, List.mem_cons]
    · rw [if_neg c]
      by_cases d : ltv z x = true
      · rw [if_pos d, List.mem_cons, insU_mem (fun q hq => h q (List.mem_cons_of_mem _ hq)), List.mem_cons]
        exact or_left_comm
      · rw [if_neg d]
        have e : x = z := tri x z (h z List.mem_cons_self) (by simpa using c) (by simpa using d)
        subst e
        simp
theorem insU_asc {x : PV} : ∀ {l : List PV}, AlkL (x :: l) → rfs (x :: l) = true → l.Pairwise (fun a b => ltD a b = true) → (insU x l).Pairwise (fun a b => ltD a b = true)
  | [], _, _, _ => by unfold insU; exact List.pairwise_singleton _ _
  | z :: zs, h, r, p => by
    obtain ⟨p1, p2⟩ := List.pairwise_cons.mp p
    have lx : ltv x z = ltD x z := ltv_ltD h r List.mem_cons_self (List.mem_cons_of_mem _ List.mem_cons_self)
    have lz : ltv z x = ltD z x := ltv_ltD h r (List.mem_cons_of_mem _ List.mem_cons_self) List.mem_cons_self
    unfold insU
    by_cases c : ltv x z = true
    · rw [if_pos c]
      refine List.pairwise_cons.mpr ⟨fun y hy => ?_, p⟩
      rcases List.mem_cons.mp hy with e | e
      · rw [e, ← lx]; exact c
      · exact ltD_trans _ _ _ (by rw [← lx]; exact c) (p1 y e)
    · rw [if_neg c]
      by_cases d : ltv z x = true
      · rw [if_pos d]
        have h' : AlkL (x :: zs) := fun a ha b hb => h a (by
          rcases List.mem_cons.mp ha with e | e
          · rw [e]; exact List.mem_cons_self
          · exact List.mem_cons_of_mem _ (List.mem_cons_of_mem _ e)) b (by
          rcases List.mem_cons.mp hb with e | e
          · rw [e]; exact List.mem_cons_self
          · exact List.mem_cons_of_mem _ (List.mem_cons_of_mem _ e))
        have r' : rfs (x :: zs) = true := rfs_sub r fun y hy => by
          rcases List.mem_cons.mp hy with e | e
          · rw [e]; exact List.mem_cons_self
          · exact List.mem_cons_of_mem _ (List.mem_cons_of_mem _ e)
        refine List.pairwise_cons.mpr ⟨fun y hy => ?_, insU_asc h' r' p2⟩
        rcases (insU_mem (fun q hq => h' x List.mem_cons_self q (List.mem_cons_of_mem _ hq))).mp hy with e | e
        · rw [e, ← lz]; exact d
        · exact p1 y e
      · rw [if_neg d]; exact p
theorem usort_fold {l : List PV} (a : AlkL l) (r : rfs l = true) : ∀ (xs acc : List PV), (∀ x ∈ xs, x ∈ l) → (∀ x ∈ acc, x ∈ l) → acc.Pairwise (fun a b => ltD a b = true) →
    (xs.foldl (fun acc x => insU x acc) acc).Pairwise (fun a b => ltD a b = true) ∧ ∀ y, y ∈ xs.foldl (fun acc x => insU x acc) acc ↔ y ∈ xs ∨ y ∈ acc
  | [], acc, _, _, p => ⟨p, fun y => by simp⟩
  | x :: xs, acc, hx, ha, p => by
    have mx := hx x List.mem_cons_self
    have al : ∀ z ∈ acc, alikeP x z = true := fun z hz => a x mx z (ha z hz)
    have ax : AlkL (x :: acc) := fun u hu v hv => a u (by
      rcases List.mem_cons.mp hu with e | e
      · rw [e]; exact mx
      · exact ha u e) v (by
      rcases List.mem_cons.mp hv with e | e
      · rw [e]; exact mx
      · exact ha v e)
    have rx : rfs (x :: acc) = true := rfs_sub r fun y hy => by
      rcases List.mem_cons.mp hy with e | e
      · rw [e]; exact mx
      · exact ha y e
    obtain ⟨q1, q2⟩ := usort_fold a r xs (insU x acc) (fun z hz => hx z (List.mem_cons_of_mem _ hz)) (fun z hz => by
      rcases (insU_mem al).mp hz with e | e
      · rw [e]; exact mx
      · exact ha z e) (insU_asc ax rx p)
    refine ⟨q1, fun y => ?_⟩
    rw [List.foldl_cons, q2 y, insU_mem al, List.mem_cons]
    constructor
    · rintro (h | h | h)
      · exact .inl (.inr h)
      · exact .inl (.inl h)
      · exact .inr h
    · rintro ((h | h) | h)
      · exact .inr (.inl h)
      · exact .inl h
      · exact .inr (.inr h)
theorem usort_spec {xs : List PV} (a : AlkL xs) (r : rfs xs = true) : (usort xs).Pairwise (fun a b => ltD a b = true) ∧ ∀ y, y ∈ usort xs ↔ y ∈ xs := by
  obtain ⟨h1, h2⟩ := usort_fold a r xs [] (fun _ h => h) (fun _ h => nomatch h) .nil
  exact ⟨h1, fun y => (h2 y).trans (by simp)⟩
/-- two strictly ascending lists of the same members -/
theorem asc_unique {l m : List PV} (hl : l.Pairwise (fun a b => ltD a b = true)) (hm : m.Pairwise (fun a b => ltD a b = true)) (e : ∀ y, y ∈ l ↔ y ∈ m) : l = m := by
  have nd : ∀ {k : List PV}, k.Pairwise (fun a b => ltD a b = true) → k.Nodup := fun h => h.imp fun {a b} q z => by
    subst z
    rw [ltD_irrefl] at q
    cases q
  have p : l.Perm m := (List.perm_ext_iff_of_nodup (nd hl) (nd hm)).mpr e
  refine List.Perm.eq_of_pairwise (le := fun a b => ltD a b = true) (fun a b _ _ h g => ?_) hl hm p
  have := ltD_asym _ _ h
  rw [g] at this
  cases this
theorem usort_of {xs bs : List PV} (a : AlkL xs) (r : rfs xs = true) (e : ∀ y, y ∈ bs ↔ y ∈ xs) (nd : bs.Nodup) : isort bs = usort xs := by
  have ab : AlkL bs := fun p hp q hq => a p ((e p).mp hp) q ((e q).mp hq)
  have rb : rfs bs = true := rfs_sub r fun y hy => (e y).mp hy
  obtain ⟨s1, p1⟩ := isort_spec ab rb
  obtain ⟨s2, m2⟩ := usort_spec a r
  refine asc_unique ?_ s2 fun y => (p1.mem_iff.trans (e y)).trans (m2 y).symm
  have nd1 : (isort bs).Nodup := p1.nodup_iff.mpr nd
  have both := s1.and nd1
  refine List.Pairwise.imp_of_mem (fun {p q} hp hq h => ?_) both
  cases c : ltD p q with
  | true => rfl
  | false =>
    have mp := p1.mem_iff.mp hp
    have mq := p1.mem_iff.mp hq
    exact absurd (tri p q (ab p mp q mq) (by rw [ltv_ltD ab rb mp mq]; exact c) (by rw [ltv_ltD ab rb mq mp]; exact h.1)) h.2
theorem usort_length {xs bs : List PV} (a : AlkL xs) (r : rfs xs = true) (e : ∀ y, y ∈ bs ↔ y ∈ xs) (nd : bs.Nodup) : bs.length = (usort xs).length := by
  rw [← usort_of a r e nd]
  have ab : AlkL bs := fun p hp q hq => a p ((e p).mp hp) q ((e q).mp hq)
  exact (isort_spec ab (rfs_sub r fun y hy => (e y).mp hy)).2.length_eq.symm

/-! ### the set, as an object that the reading knows -/
def SetM (w : World) (a : Addr) (L : List Key) : HO := .ext fun h => Mem w h a L
section
variable {X : Cx}
theorem setM_new {w : World} {P : Program} {H : Hp} {h : Heap} {a : Addr} {L : List Key} (M : Mem w h a L) : ObjOk P w H h a (SetM w a L) := by
  have ⟨o, _, _, _, ho, _⟩ := M
  exact ⟨M, ⟨o, ho⟩, fun h1 h2 p k => Mem.keep p k⟩
theorem setM_get {pins : List (Addr × Obj)} {σ : L2.St} {H : Hp} {s : Shared} {a : Addr} {L : List Key} (I : L2.Inv X pins σ H s) (ha : H a = some (SetM X.w a L)) : Mem X.w s.heap a L := (I.hok a _ ha).1
/-- set(xs) -/
def rSetM (K : PySem.W.Frag) (w : World) : List V → Hp → VK → Prop := fun xs H Q => ∃ (a : Addr) (ks : List Key), xs = [.ref a] ∧ (SqL K H a (ks.map kV) ∨ SqT K H a (ks.map kV)) ∧ ks.length < 64 ∧
  ∀ p L, H p = none → (∀ k, k ∈ L ↔ k ∈ ks) → L.Nodup → Q (.ref p) (upd H p (SetM w p L))
theorem mem_take_succ {α : Type} {l : List α} {i : Nat} {x : α} (h : l[i]? = some x) (k : α) : k ∈ l.take (i + 1) ↔ k ∈ l.take i ∨ k = x := by
  rw [List.take_add_one, h]
  simp
theorem cb_setM (hc : X.calm = true) (hu : X.A.units + 64 < cLine) : CallR X (.type "set") (rSetM X.K X.w) := by
  intro pins s σ H xs us Q I r h
  obtain ⟨a, ks, rfl, hs, h64, q⟩ := h
  have hits : ∃ its : List Value, Vals (ks.map kV) its ∧ (s.heap.IsList a its.toArray ∨ s.heap.IsTuple a its.toArray) := by
    rcases hs with hs | hs
    · obtain ⟨its, rv, hl, _⟩ := I.list hs
      exact ⟨its, rv, .inl hl.isList⟩
    · obtain ⟨its, rv, hl, _⟩ := I.tuple hs
      exact ⟨its, rv, .inr hl⟩
  obtain ⟨its, rv, hl⟩ := hits
  rw [Vals.ref1 r]
  have lits : its.length = ks.length := by
    have := rv.length
    rw [List.length_map] at this
    exact this.symm
  refine call_set_gen (I.ok.hd hc) hl (fun i h => ∃ L, Mem X.w h s.heap.objs.size L ∧ (∀ k, k ∈ L ↔ k ∈ ks.take i) ∧ L.length ≤ i) ?_ ?_ ?_ ?_
  · rintro i h h' ⟨L, M, e, l⟩ k
    exact ⟨L, M.keep fun o ho => k _ (Nat.ne_of_lt (Nat.lt_succ_self _)) o ho, e, l⟩
  · intro h k hn
    exact ⟨[], ⟨_, #[], 0, _, hn, ⟨⟨rfl, rfl, rfl⟩, rfl⟩, ⟨fun e he => by simp at he, .nil, .nil⟩, ⟨by decide, by rfl⟩, by simp [Ris, SetTable.fresh], by
      cases c : X.w.params.followText "set-order" with
      | true => exact .inl rfl
      | false => exact .inr rfl⟩, fun k => by simp, Nat.le_refl _⟩
  · rintro i v s' A' Q' E' hv hu' ⟨L, M, e, l⟩ hQ
    have hv' : its[i]? = some v := by simpa using hv
    have il := lt_of_get hv'
    obtain ⟨k, hk⟩ : ∃ k, ks[i]? = some k := ⟨ks[i]'(by omega), List.getElem?_eq_getElem _⟩
    obtain ⟨u, hu2, ru⟩ := rv.get (i := i) (x := kV k) (by rw [List.getElem?_map, hk]; rfl)
    rw [hv'] at hu2
    cases hu2
    have hkey : keyIs k v = true := kV_is (P := X.prog) (w := X.w) ru
    unfold setAdd
    refine wpAny_holding (wpAny_bind ((mixKind X.prog X.w).pyHash hkey ?_))
    refine add_hashed (s := { s' with toks := s'.toks + 1 }) hkey M (by unfold scanBound; omega) fun b h' L' sb hL' M' => hQ b h' _ sb (Nat.le_succ _) ⟨L', M', fun k' => ?_, ?_⟩
    · rw [mem_take_succ hk, ← e]
      rcases hL' with ⟨m, rfl⟩ | ⟨m, rfl⟩
      · exact ⟨.inl, fun z => z.elim id fun z => z ▸ m⟩
      · rw [List.mem_cons]
        exact or_comm
    · rcases hL' with ⟨m, rfl⟩ | ⟨m, rfl⟩
      · omega
      · rw [List.length_cons]; omega
  · rintro h' tk ⟨L, M, e, l⟩ kp
    have hn : H s.heap.objs.size = none := I.hok.fresh (Nat.le_refl _)
    have e2 : ∀ k, k ∈ L ↔ k ∈ ks := fun k => by
      rw [e k, List.size_toArray, lits, List.take_length]
    have ndL : L.Nodup := by
      obtain ⟨_, _, _, _, _, _, ⟨_, _, nd⟩, _⟩ := M
      exact nd
    exact ⟨.ref _, upd H s.heap.objs.size (SetM X.w s.heap.objs.size L), I.laid (t' := tk) kp (Nat.le_refl _) (setM_new M), rfl, q _ L hn e2 ndL⟩
end

section
variable {X : Cx}
theorem reads_key {w : World} {h : Heap} {e : Int × Value} (g : Good w e) : ∃ as, Reads h e.2 (toD (kP (kE e))) as := by
  rcases keyIs_shape g.1 with ⟨i, t, ek, ev⟩ | ⟨x, t, ek, ev⟩
  · rw [ek, ev]; unfold kP toD; exact ⟨_, Reads.int i t⟩
  · rw [ek, ev]; unfold kP toD; exact ⟨_, Reads.str x t⟩
theorem each_of {α β : Type} {R : α → β → Prop} (f : α → β) : ∀ l : List α, (∀ a ∈ l, R a (f a)) → PySem.W.EachIs R l (l.map f)
  | [], _ => .nil
  | a :: l, h => .cons (h a List.mem_cons_self) (each_of f l fun b hb => h b (List.mem_cons_of_mem _ hb))
theorem each_vals : ∀ {out : List Value} {ps : List PV}, PySem.W.EachIs (fun v p => ∃ k : Key, p = kP k ∧ keyIs k v = true) out ps → ∃ ks : List Key, ps = ks.map kP ∧ Vals (ks.map kV) out
  | _, _, .nil => ⟨[], rfl, .nil⟩
  | _, _, .cons ⟨k, e, hk⟩ r => by
    obtain ⟨ks, e2, rv⟩ := each_vals r
    refine ⟨k :: ks, by rw [e, e2]; rfl, .cons ?_ rv⟩
    rcases keyIs_shape hk with ⟨i, t, rfl, rfl⟩ | ⟨x, t, rfl, rfl⟩
    · exact ⟨t, rfl⟩
    · exact ⟨t, rfl⟩
/-- sorted(s), s a set -/
def rSortM (w : World) : List V → Hp → VK → Prop := fun xs H Q => ∃ (a : Addr) (L : List Key), xs = [.ref a] ∧ H a = some (SetM w a L) ∧ AlkL (L.map kP) ∧ L.length < 4096 ∧
  ∀ (p : Addr) (ks : List Key), H p = none → ks.map kP = isort (L.map kP) → Q (.ref p) (upd H p (.lst (ks.map kV)))
theorem isort_perm {xs ys : List PV} (a : AlkL xs) (r : rfs xs = true) (p : xs.Perm ys) : isort xs = isort ys := by
  have a' : AlkL ys := fun u hu v hv => a u (p.mem_iff.mpr hu) v (p.mem_iff.mpr hv)
  have r' : rfs ys = true := rfs_sub r fun y hy => p.mem_iff.mpr hy
  obtain ⟨s1, p1⟩ := isort_spec a r
  obtain ⟨s2, p2⟩ := isort_spec a' r'
  refine List.Perm.eq_of_pairwise (le := fun p q => ltD q p = false) (fun u v hu hv h g => ?_) s1 s2 (p1.trans (p.trans p2.symm))
  have mu := p1.mem_iff.mp hu
  have mv := p.mem_iff.mpr (p2.mem_iff.mp hv)
  exact tri u v (a u mu v mv) (by rw [ltv_ltD a r mu mv]; exact g) (by rw [ltv_ltD a r mv mu]; exact h)
theorem cb_sortM (hc : X.calm = true) (hu : X.A.units + 64 < cLine) : CallR X (.builtin "sorted") (rSortM X.w) := by
  intro pins s σ H xs us Q I r h
  obtain ⟨a, L, rfl, ha, al, lt, q⟩ := h
  obtain ⟨o, es, ep, t, ho, ⟨hex, hd⟩, ⟨g, pL, nd⟩, ⟨hb, hf⟩, hr, hl⟩ := setM_get I ha
  rw [Vals.ref1 r]
  refine Calls.call_function_entry kind_sorted plain_sorted entry_sorted (args_sorted1 _) ?_
  unfold Builtin.«sorted»
  refine wpAny_bind (m := checkCount "sorted" 1 1 _) (wpAny_pure ?_)
  refine wpAny_bind (collect_set (A := X.A.in1) (I.ok.hd hc) ⟨o, ho, hex.1, hd⟩ hf hb hr hl fun s1 vs k1 hz g1 o1 pm => ?_)
  have gv : ∀ v ∈ vs, ∃ e ∈ es.toList, e.2 = v := fun v hv => by
    obtain ⟨e, he, q⟩ := List.mem_map.mp (pm.mem_iff.mp hv)
    exact ⟨e, he, q⟩
  let f : Value → PV := fun v => kP (kOf v)
  have pf : (vs.map f).Perm (L.map kP) := by
    have q1 := pm.map f
    rw [List.map_map] at q1
    have q2 := pL.map kP
    rw [List.map_map] at q2
    exact q1.trans q2
  have lv : vs.length = L.length := by
    have := pf.length_eq
    rw [List.length_map, List.length_map] at this
    exact this
  have rL : rfs (L.map kP) = true := rfs_iff.mpr fun y hy => by
    obtain ⟨k, _, rfl⟩ := List.mem_map.mp hy
    exact kP_rf k
  have rf : rfs (vs.map f) = true := rfs_sub rL fun y hy => pf.mem_iff.mp hy
  have af : AlkL (vs.map f) := fun u hu v hv => al u (pf.mem_iff.mp hu) v (pf.mem_iff.mp hv)
  have keyv : ∀ v ∈ vs, ∃ k : Key, f v = kP k ∧ keyIs k v = true := fun v hv => by
    obtain ⟨e, he, rfl⟩ := gv v hv
    exact ⟨kE e, rfl, (g e he).1⟩
  refine wpAny_bind (wpAny_newList ?_ (by rw [lv, sizeLine_eq]; omega))
  have hoL : (s1.heap.push (seqObj "list" vs.toArray 0)).get? s1.heap.objs.size = some (seqObj "list" vs.toArray 0) := Heap.get?_push_size _ rfl
  have ksrt : PySem.W.Sortable ((vs.map f).map toD) := .inr fun d hd => by
    obtain ⟨p, hp, rfl⟩ := List.mem_map.mp hd
    obtain ⟨v, hv, rfl⟩ := List.mem_map.mp hp
    obtain ⟨k, ek, _⟩ := keyv v hv
    rw [ek]
    cases k <;> (unfold kP toD; exact ⟨fun z => (by cases z), fun xs z => (by cases z)⟩)
  have hal : PySem.W.AllAlike ((vs.map f).map toD) := fun d hd d' hd' => by
    obtain ⟨p, hp, rfl⟩ := List.mem_map.mp hd
    obtain ⟨p', hp', rfl⟩ := List.mem_map.mp hd'
    exact alike_toD _ _ (af p hp p' hp')
  have dep0 : ∀ b ∈ vs.map f, (toD b).depth = 0 := fun b hb => by
    obtain ⟨v, hv, rfl⟩ := List.mem_map.mp hb
    obtain ⟨k, ek, _⟩ := keyv v hv
    rw [ek]
    cases k <;> (unfold kP toD PyData.depth; rfl)
  have rds : ∀ v ∈ vs, ∃ as, Reads (s1.heap.push (seqObj "list" vs.toArray 0)) v (toD (f v)) as ∧ s1.heap.objs.size ∉ as := fun v hv => by
    obtain ⟨k, ek, hk⟩ := keyv v hv
    rw [ek]
    rcases keyIs_shape hk with ⟨i, t, rfl, rfl⟩ | ⟨x, t, rfl, rfl⟩
    · unfold kP toD; exact ⟨_, Reads.int i t, by simp⟩
    · unfold kP toD; exact ⟨_, Reads.str x t, by simp⟩
  refine wpAny_bind (wpAny_holding (PySem.W.list_sort_data (R := fun v p => ∃ k : Key, p = kP k ∧ keyIs k v = true) (enc := toD) (bs := vs.map f) hoL (each_of f vs keyv) (each_of f vs rds) hal ksrt (by rw [List.length_map, lv, sizeLine_eq]; omega) (fun b hb => by
    rw [dep0 b hb]
    show X.A.units + 1 + 1 + 0 < cLine
    omega) fun out lo eo => ?_))
  rw [isort_merge af rf, isort_perm af rf pf] at eo
  obtain ⟨c, hc2⟩ := sortedHeap_at (vs := vs) (out := out.toArray) hoL
  obtain ⟨ks, ek, rv⟩ := each_vals eo
  have hlen : (ks.map kV).length ≤ sizeLine := by
    rw [rv.length, lo, List.length_map, lv, sizeLine_eq]; omega
  have hnew : s.heap.objs.size ≤ s1.heap.objs.size := hz
  have hn : H s1.heap.objs.size = none := I.hok.fresh hnew
  have keep : ∀ b u, s.heap.get? b = some u → (sortedHeap (s1.heap.push (seqObj "list" vs.toArray 0)) s1.heap.objs.size vs out.toArray).get? b = some u := fun b u e => by
    have e1 := k1 b u e
    have l1 := Heap.lt_size e1
    rw [sortedHeap_old (Nat.ne_of_lt l1) (by rw [size_push']; exact Nat.lt_succ_of_lt l1)]
    exact Heap.get?_push_of_some _ e1
  have J : L2.Inv X pins σ (upd H s1.heap.objs.size (.lst (ks.map kV))) { s with heap := sortedHeap (s1.heap.push (seqObj "list" vs.toArray 0)) s1.heap.objs.size vs out.toArray, gens := s1.gens, drawn := s1.drawn, toks := s1.toks } :=
    I.call (ch := []) (Un.laid keep hnew hn) (I.hok.laid keep hnew ⟨hlen, out, c, rv, hc2⟩) (by rw [g1]; exact I.bare) (fun _ z => nomatch z)
  have es1 : ({ s1 with heap := sortedHeap (s1.heap.push (seqObj "list" vs.toArray 0)) s1.heap.objs.size vs out.toArray } : Shared) = { s with heap := sortedHeap (s1.heap.push (seqObj "list" vs.toArray 0)) s1.heap.objs.size vs out.toArray, gens := s1.gens, drawn := s1.drawn, toks := s1.toks } := by
    cases s1
    cases s
    cases o1
    rfl
  refine wpAny_pure ⟨_, rfl, ?_⟩
  have fin : EP X pins σ Q (.ref s1.heap.objs.size) { s with heap := sortedHeap (s1.heap.push (seqObj "list" vs.toArray 0)) s1.heap.objs.size vs out.toArray, gens := s1.gens, drawn := s1.drawn, toks := s1.toks } := ⟨.ref _, _, J, rfl, q _ ks hn ek.symm⟩
  rw [← es1] at fin
  exact fin
/-- len(s) -/
def rLenM (w : World) : List V → Hp → VK → Prop := fun xs H Q => ∃ (a : Addr) (L : List Key), xs = [.ref a] ∧ H a = some (SetM w a L) ∧ Q (.int L.length) H
theorem cb_lenM : CallR X (.builtin "len") (rLenM X.w) := by
  intro pins s σ H xs us Q I r h
  obtain ⟨a, L, rfl, ha, q⟩ := h
  obtain ⟨o, es, ep, t, ho, ⟨hex, hd⟩, ⟨g, pL, nd⟩, ⟨hb, hf⟩, hr, hl⟩ := setM_get I ha
  rw [Vals.ref1 r]
  have e : es.size = L.length := by
    have := pL.length_eq
    rw [List.length_map, Array.length_toList] at this
    exact this
  refine call_len_set ho hex hd hf (by unfold scanBound at hb; omega) ?_
  rw [e]
  exact ⟨.int L.length, H, I.tok _, ⟨_, rfl⟩, q⟩
end
end Pu

set_option linter.all false
set_option autoImplicit false
set_option maxRecDepth 100000
set_option maxHeartbeats 4000000
/-! P9: places, built-in functions, methods. -/
namespace Pu
open PySem PySem.Spec PyProof.Rows L2

section
variable {X : Cx} {H : Hp} {w : Vw}
theorem ixE_eq (n : Nat) (i : Int) : ixE n i = L2.ixN n i := rfl
theorem at_eq {α : Type} (xs : List α) (i : Int) : at? xs i = L2.atI xs i := rfl
theorem RVs.at {xs : List PV} {vs : List V} {i : Int} {p : PV} (r : RVs w xs vs) (h : at? xs i = some p) : ∃ v, L2.atI vs i = some v ∧ RV w p v := by
  unfold at? at h
  cases e : ixE xs.length i with
  | none => rw [e] at h; cases h
  | some j =>
    rw [e] at h
    obtain ⟨v, a, b⟩ := r.get (show xs[j]? = some p from h)
    refine ⟨v, ?_, b⟩
    unfold L2.atI
    rw [← r.length, ← ixE_eq, e]
    exact a
/-- an item, by values -/
def rIt : R2 := fun x y H Q => ∃ (w : Vw) (s : St) (p q v : PV), w.H = H ∧ Rel w s ∧ RW w p x ∧ RW w q y ∧ item s p q = some v ∧ ∀ u, RV w v u → Q u H
theorem ix_item : IxR X rIt := by
  intro value sl pins s σ H x y v u Q I rx ry h hs
  obtain ⟨w, t, p, q, r, rfl, R, hp, hq, h, k⟩ := h
  refine ix_seq value sl pins s σ _ x y v u Q I rx ry ?_ hs
  unfold item at h
  split at h
  · obtain ⟨a, vs, rfl, ta, ra⟩ := rv_tup hp
    obtain rfl := rv_int hq
    obtain ⟨z, e, rz⟩ := ra.at h
    exact .inr (.inl ⟨a, vs, _, z, rfl, rfl, SqT.of ta, e, k z rz⟩)
  · obtain rfl := rv_str hp
    obtain rfl := rv_int hq
    rename_i l j
    by_cases c : l.length ≤ line
    · rw [if_pos c] at h
      cases e : at? l j with
      | none => rw [e] at h; cases h
      | some d =>
        rw [e] at h
        cases h
        exact .inr (.inr ⟨_, j, d, rfl, rfl, by rw [str_len, ← line_eq]; exact c, e, k _ (rv_str' _)⟩)
    · rw [if_neg c] at h
      cases h
  · obtain ⟨a, vs, rfl, ta, ra⟩ := rv_lv hp
    obtain rfl := rv_int hq
    obtain ⟨z, e, rz⟩ := ra.at h
    exact .inl ⟨a, vs, _, z, rfl, rfl, .inl ta, e, k z rz⟩
  · obtain rfl := rv_int hq
    rename_i n j
    cases e : t[n]? with
    | none => rw [e] at h; cases h
    | some xs =>
      rw [e] at h
      obtain ⟨a, rfl, ha⟩ := rv_ref hp
      obtain ⟨vs, ta, ra⟩ := R.pen n xs a e ha
      obtain ⟨z, e, rz⟩ := ra.at h
      exact .inl ⟨a, vs, _, z, rfl, rfl, SqL.of ta, e, k z rz⟩
  · cases h
theorem cutIx_eq (n d : Nat) (o : Option Int) : cutIx n d o = HT.sIx n d o := by cases o <;> rfl
theorem RVs.cutV {xs : List PV} {vs : List V} (r : RVs w xs vs) (lo hi : Option Int) : RVs w (Pu.cut xs lo hi) (L2.cutV vs lo hi) := by
  unfold Pu.cut L2.cutV
  rw [r.length, cutIx_eq, cutIx_eq]
  exact (r.drop _).take _
theorem cut_whole {α : Type} {xs : List α} {lo hi : Option Int} (h : HT.sIx xs.length 0 lo = 0 ∧ HT.sIx xs.length xs.length hi = xs.length) : cut xs lo hi = xs := by
  unfold cut
  rw [cutIx_eq, cutIx_eq, h.1, h.2]
  simp
/-- a slice, by values -/
def rSl : V → Option Int → Option Int → Hp → VK → Prop := fun x lo hi H Q => ∃ (w : Vw) (s : St) (p v : PV), w.H = H ∧ Rel w s ∧ RW w p x ∧ slice p lo hi = some v ∧ Makes w s v Q
theorem sl_slice : SlR X rSl := by
  intro pins s σ H x v vl vu lo hi sl Q I rx hs pl pu h
  obtain ⟨w, t, p, r, rfl, R, hp, h, k⟩ := h
  unfold slice at h
  split at h
  · cases h
    obtain ⟨a, vs, rfl, ta, ra⟩ := rv_tup hp
    refine sl_tupA pins s σ _ _ v vl vu lo hi sl Q I rx hs pl pu ⟨a, vs, rfl, SqT.of ta, fun e => ?_, fun _ p hn => ?_⟩
    · rw [← ra.length] at e
      have := cut_whole e
      rw [this] at k
      exact k.same R rfl (rv_tup' ta ra)
    · exact k.tuple R hn (ra.cutV lo hi)
  · obtain ⟨c, e⟩ := ite_some h
    cases e
    obtain rfl := rv_str hp
    refine sl_str pins s σ _ _ v vl vu lo hi sl Q I rx hs pl pu ⟨_, rfl, by rw [str_len, ← line_eq]; exact c, ?_⟩
    exact k.same R rfl (rv_str' _)
  · cases h
    obtain ⟨a, vs, rfl, ta, ra⟩ := rv_lv hp
    refine sl_list pins s σ _ _ v vl vu lo hi sl Q I rx hs pl pu ⟨a, vs, rfl, .inl ta, fun p hn => ?_⟩
    exact k.list R hn (ra.cutV lo hi)
  · cases h
end
mutual
theorem Dt.isD : ∀ (p : PV) (D : PyData), Dt p D → D = Pu.toD p
  | .non, _, h => by unfold Dt at h; rw [h, Pu.toD]
  | .bl _, _, h => by unfold Dt at h; rw [h, Pu.toD]
  | .int _, _, h => by unfold Dt at h; rw [h, Pu.toD]
  | .str _, _, h => by unfold Dt at h; rw [h, Pu.toD]
  | .tup xs, _, h => by
    unfold Dt at h
    obtain ⟨a, rfl, ha⟩ := h
    rw [Pu.toD, Dts.isD xs _ ha]
  | .lv xs, _, h => by
    unfold Dt at h
    obtain ⟨a, rfl, ha⟩ := h
    rw [Pu.toD, Dts.isD xs _ ha]
  | .ref _, _, h => by unfold Dt at h; exact h.elim
  | .dv _ _ _, _, h => by unfold Dt at h; exact h.elim
  | .exc _ _, _, h => by unfold Dt at h; exact h.elim
theorem Dts.isD : ∀ (ps : List PV) (D : List PyData), Dts ps D → D = toDs ps
  | [], _, h => by unfold Dts at h; rw [h, toDs]
  | x :: xs, _, h => by
    unfold Dts at h
    obtain ⟨a, as, rfl, h1, h2⟩ := h
    rw [toDs, Dt.isD x _ h1, Dts.isD xs _ h2]
end
mutual
theorem show_ok : ∀ p : PV, showP p = true → (Pu.toD p).showable = true ∧ (Pu.toD p).hasDict = false
  | .non, _ => by rw [Pu.toD]; exact ⟨by unfold PyData.showable; rfl, by unfold PyData.hasDict; rfl⟩
  | .bl _, _ => by rw [Pu.toD]; exact ⟨by unfold PyData.showable; rfl, by unfold PyData.hasDict; rfl⟩
  | .int i, h => by
    rw [Pu.toD]
    unfold showP at h
    exact ⟨by unfold PyData.showable; exact h, by unfold PyData.hasDict; rfl⟩
  | .str _, _ => by rw [Pu.toD]; exact ⟨by unfold PyData.showable; rfl, by unfold PyData.hasDict; rfl⟩
  | .tup xs, h => by
    rw [Pu.toD]
    unfold showP at h
    obtain ⟨a, b⟩ := shows_ok xs h
    exact ⟨by unfold PyData.showable; exact a, by unfold PyData.hasDict; exact b⟩
  | .lv xs, h => by
    rw [Pu.toD]
    unfold showP at h
    obtain ⟨a, b⟩ := shows_ok xs h
    exact ⟨by unfold PyData.showable; exact a, by unfold PyData.hasDict; exact b⟩
  | .ref _, h => by unfold showP at h; cases h
  | .dv _ _ _, h => by unfold showP at h; cases h
  | .exc _ _, h => by unfold showP at h; cases h
theorem shows_ok : ∀ ps : List PV, showPs ps = true → PyData.showableAll (toDs ps) = true ∧ PyData.hasDictAll (toDs ps) = false
  | [], _ => by rw [toDs]; exact ⟨by unfold PyData.showableAll; rfl, by unfold PyData.hasDictAll; rfl⟩
  | x :: xs, h => by
    rw [toDs]
    unfold showPs at h
    obtain ⟨h1, h2⟩ := Bool.and_eq_true_iff.mp h
    obtain ⟨a, b⟩ := show_ok x h1
    obtain ⟨c, d⟩ := shows_ok xs h2
    exact ⟨by unfold PyData.showableAll; rw [a, c] <;> rfl, by unfold PyData.hasDictAll; rw [b, d] <;> rfl⟩
end

section
variable {X : Cx} {H : Hp} {w : Vw}
def rB (f : Blt) : List V → Hp → VK → Prop := fun xs H Q => ∃ (w : Vw) (s : St) (ps : List PV) (v : PV), w.H = H ∧ Rel w s ∧ RWs w ps xs ∧ blt s f ps = some v ∧ Makes w s v Q
theorem cb_len : CallR X (.builtin "len") (rB .len) := by
  intro pins s σ H xs us Q I r h
  obtain ⟨w, t, ps, v, rfl, R, hs, h, k⟩ := h
  replace h : bLen t ps = some v := h
  unfold bLen at h
  split at h
  · obtain ⟨c, e⟩ := ite_some h
    cases e
    obtain ⟨v, rfl, hv⟩ := hs.one
    obtain rfl := rv_str hv
    exact call_len_str pins s σ _ _ us Q I r ⟨_, rfl, by rw [str_len, ← line_eq]; exact c, k.same R rfl (rv_int' _)⟩
  · cases h
    rename_i ks xs'
    obtain ⟨v, rfl, hv⟩ := hs.one
    obtain ⟨a, vs, rfl, q, rr⟩ := rv_dv hv
    obtain ⟨l, hl, e1, e2⟩ := q
    refine call_lenD pins s σ _ _ us Q I r ⟨a, l, rfl, hl, ?_⟩
    have : ks.length = l.length := by rw [← e1, List.length_map]
    rw [← this]
    exact k.same R rfl (rv_int' _)
  · rename_i p _ _
    obtain ⟨ys, e, e2⟩ := Option.map_eq_some_iff.mp h
    subst e2
    obtain ⟨v, rfl, hv⟩ := hs.one
    cases p with
    | ref n =>
      obtain ⟨a, rfl, ha⟩ := rv_ref hv
      obtain ⟨vs, ta, ra⟩ := R.pen n ys a e ha
      refine call_len_seq pins s σ _ _ us Q I r ⟨a, vs, rfl, .inl (SqL.of ta), ?_⟩
      rw [← ra.length]
      exact k.same R rfl (rv_int' _)
    | tup xs =>
      cases e
      obtain ⟨a, vs, rfl, ta, ra⟩ := rv_tup hv
      refine call_len_seq pins s σ _ _ us Q I r ⟨a, vs, rfl, .inr (SqT.of ta), ?_⟩
      rw [← ra.length]
      exact k.same R rfl (rv_int' _)
    | lv xs =>
      cases e
      obtain ⟨a, vs, rfl, ta, ra⟩ := rv_lv hv
      refine call_len_seq pins s σ _ _ us Q I r ⟨a, vs, rfl, .inl (.inl ta), ?_⟩
      rw [← ra.length]
      exact k.same R rfl (rv_int' _)
    | _ => cases e
  · cases h
theorem cb_list : CallR X (.type "list") (rB .list) := by
  intro pins s σ H xs us Q I r h
  obtain ⟨w, t, ps, v, rfl, R, hs, h, k⟩ := h
  replace h : bList ps = some v := h
  unfold bList at h
  split at h
  · obtain ⟨ys, e, e2⟩ := Option.map_eq_some_iff.mp h
    subst e2
    obtain ⟨v, rfl, hv⟩ := hs.one
    obtain ⟨a, vs, rfl, ha, ra⟩ := rv_seqL e hv X.K
    exact call_list_of pins s σ _ _ us Q I r ⟨a, vs, rfl, ha.imp id SqT.of, fun p hn => k.list R hn ra⟩
  · cases h
theorem vals_nth : ∀ {vs : List V} {us : List Value}, vs.length = us.length → (∀ (i : Nat) (v : V) (u : Value), vs[i]? = some v → us[i]? = some u → RelV v u) → Vals vs us
  | [], [], _, _ => .nil
  | [], _ :: _, h, _ => by cases h
  | _ :: _, [], h, _ => by cases h
  | v :: vs, u :: us, h, r => .cons (r 0 v u rfl rfl) (vals_nth (by simpa using h) fun i v u a b => r (i + 1) v u a b)
theorem rvs_chars : ∀ x : Sg, RVs w (x.map fun c => PV.str [c]) (x.map fun c => V.str ⟨⟨[c]⟩⟩)
  | [] => .nil
  | c :: x => .cons (rv_str' _) (rvs_chars x)
theorem cb_tuple (hc : X.calm = true) : CallR X (.type "tuple") (rB .tuple) := by
  intro pins s σ H xs us Q I r h
  obtain ⟨w, t, ps, v, rfl, R, hs, h, k⟩ := h
  replace h : bTuple ps = some v := h
  unfold bTuple at h
  split at h
  · rename_i x
    obtain ⟨c, e⟩ := ite_some h
    cases e
    obtain ⟨v, rfl, hv⟩ := hs.one
    obtain rfl := rv_str hv
    cases r with
    | cons r1 r =>
      cases r
      obtain ⟨tk0, rfl⟩ := r1
      refine call_tuple_str (I.ok.hd hc) _ tk0 (fun h' tk acc hk hacc => ?_) (by rw [← line_eq]; exact c)
      have I1 : Inv X pins σ w.H { s with heap := h', toks := tk } := I.kept hk
      have hv2 : Vals (x.map fun c => V.str ⟨⟨[c]⟩⟩) acc.toList := by
        refine vals_nth (by rw [List.length_map]; exact hacc.1.symm) fun i v u a b => ?_
        rw [Array.getElem?_toList] at b
        obtain ⟨c1, u1, e1, rfl⟩ := hacc.2 i u b
        rw [List.getElem?_map] at a
        have e1' : x[i]? = some c1 := by
          have : (⟨x⟩ : Array Nat)[i]? = some c1 := e1
          simpa using this
        rw [e1'] at a
        cases a
        exact ⟨u1, rfl⟩
      have I2 : Inv X pins σ (L2.upd w.H h'.objs.size (.tup (x.map fun c => V.str ⟨⟨[c]⟩⟩))) { s with heap := h'.push { cls := .type "tuple", data := .seq acc }, toks := tk } :=
        I1.laid (fun b o e => Heap.get?_push_of_some _ e) (Nat.le_refl _) (show ObjOk X.prog X.w _ _ _ (.tup _) from ⟨by rw [List.length_map, ← line_eq]; exact c, acc.toList, hv2, by
          have : (acc.toList.toArray) = acc := by simp
          rw [this]
          exact IsTup.new _ _⟩)
      have hn : w.H h'.objs.size = none := I1.hok.fresh (Nat.le_refl _)
      exact ⟨.ref h'.objs.size, _, I2, rfl, k.tuple R hn (rvs_chars x)⟩
  · obtain ⟨ys, e, e2⟩ := Option.map_eq_some_iff.mp h
    subst e2
    obtain ⟨v, rfl, hv⟩ := hs.one
    obtain ⟨a, vs, rfl, ha, ra⟩ := rv_seqL e hv X.K
    refine call_tuple_of pins s σ _ _ us Q I r ⟨a, vs, rfl, ?_⟩
    rcases ha with ha | ha
    · exact .inl ⟨ha, fun p hn => k.tuple R hn ra⟩
    · exact .inr ⟨SqT.of ha, k.same R rfl (rv_tup' ha ra)⟩
  · cases h
theorem bools_ok : ∀ {xs : List PV} {vs : List V} {bs : List Bool}, RVs w xs vs → boolsOf xs = some bs → vs = bs.map V.bl
  | [], _, _, h, e => by cases e; rw [h.inv0]; rfl
  | x :: xs, _, _, h, e => by
    obtain ⟨u, us, rfl, a, b⟩ := h.inv
    cases x <;> first | cases e | skip
    obtain ⟨bs, e1, e2⟩ := Option.map_eq_some_iff.mp e
    subst e2
    rw [bools_ok b e1, rv_bl (.inl a)]
    rfl
theorem ints_ok : ∀ {xs : List PV} {vs : List V} {bs : List Int}, RVs w xs vs → intsOf xs = some bs → vs = bs.map V.int
  | [], _, _, h, e => by cases e; rw [h.inv0]; rfl
  | x :: xs, _, _, h, e => by
    obtain ⟨u, us, rfl, a, b⟩ := h.inv
    cases x <;> first | cases e | skip
    obtain ⟨bs, e1, e2⟩ := Option.map_eq_some_iff.mp e
    subst e2
    rw [ints_ok b e1, rv_int (.inl a)]
    rfl
theorem bAll_inv {any : Bool} {ps : List PV} {v : PV} (h : bAll any ps = some v) : ∃ xs bs, ps = [.lv xs] ∧ boolsOf xs = some bs ∧ v = .bl (if any then bs.any id else bs.all id) := by
  unfold bAll at h
  split at h
  · split at h
    · rename_i e
      cases h
      exact ⟨_, _, rfl, e, rfl⟩
    · cases h
  · cases h
theorem cb_all (hc : X.calm = true) : CallR X (.builtin "all") (rB .all) := by
  intro pins s σ H xs us Q I r h
  obtain ⟨w, t, ps, v, rfl, R, hs, h, k⟩ := h
  obtain ⟨ys, bs, rfl, e2, rfl⟩ := bAll_inv (show bAll false ps = some v from h)
  obtain ⟨v, rfl, hv⟩ := hs.one
  obtain ⟨a, vs, rfl, ha, ra⟩ := rv_lv hv
  have e3 := bools_ok ra e2
  subst e3
  exact cr_all hc pins s σ _ _ us Q I r ⟨a, bs, rfl, .inl ha, k.same R rfl (rv_bl' _)⟩
theorem cb_any (hc : X.calm = true) : CallR X (.builtin "any") (rB .any) := by
  intro pins s σ H xs us Q I r h
  obtain ⟨w, t, ps, v, rfl, R, hs, h, k⟩ := h
  obtain ⟨ys, bs, rfl, e2, rfl⟩ := bAll_inv (show bAll true ps = some v from h)
  obtain ⟨v, rfl, hv⟩ := hs.one
  obtain ⟨a, vs, rfl, ha, ra⟩ := rv_lv hv
  have e3 := bools_ok ra e2
  subst e3
  exact cr_any hc pins s σ _ _ us Q I r ⟨a, bs, rfl, .inl ha, k.same R rfl (rv_bl' _)⟩
theorem cb_int : CallR X (.type "int") (rB .int) := by
  intro pins s σ H xs us Q I r h
  obtain ⟨w, t, ps, v, rfl, R, hs, h, k⟩ := h
  replace h : bInt ps = some v := h
  unfold bInt at h
  split at h
  · cases h
    obtain ⟨v, rfl, hv⟩ := hs.one
    obtain rfl := rv_int hv
    exact call_int1 pins s σ _ _ us Q I r (.inl ⟨_, rfl, k.same R rfl (rv_int' _)⟩)
  · cases h
    obtain ⟨v, rfl, hv⟩ := hs.one
    obtain rfl := rv_bl hv
    exact call_int1 pins s σ _ _ us Q I r (.inr ⟨_, rfl, k.same R rfl (rv_int' _)⟩)
  · cases h
theorem bMm_inv {big : Bool} {ps : List PV} {v : PV} (h : bMm big ps = some v) : ∃ xs i is, ps = [.lv xs] ∧ intsOf xs = some (i :: is) ∧ v = .int (if big then is.foldl max i else is.foldl min i) := by
  unfold bMm at h
  split at h
  · split at h
    · rename_i e
      cases h
      exact ⟨_, _, _, rfl, e, rfl⟩
    · cases h
  · cases h
theorem foldmax_ge : ∀ (l : List Int) (i : Int), i ≤ l.foldl max i ∧ ∀ y ∈ l, y ≤ l.foldl max i
  | [], i => ⟨Int.le_refl _, fun _ h => nomatch h⟩
  | x :: xs, i => by
    obtain ⟨a, b⟩ := foldmax_ge xs (max i x)
    refine ⟨Int.le_trans (Int.le_max_left _ _) a, fun y hy => ?_⟩
    rcases List.mem_cons.mp hy with e | e
    · rw [e]; exact Int.le_trans (Int.le_max_right _ _) a
    · exact b y e
theorem foldmax_mem : ∀ (l : List Int) (i : Int), l.foldl max i ∈ i :: l
  | [], i => List.mem_cons_self
  | x :: xs, i => by
    have h := foldmax_mem xs (max i x)
    rcases List.mem_cons.mp h with e | e
    · rw [List.foldl_cons, e]
      rcases Int.max_def i x ▸ (show (if i ≤ x then x else i) = x ∨ (if i ≤ x then x else i) = i by split <;> simp) with z | z
      · rw [Int.max_def]; split <;> simp
      · rw [Int.max_def]; split <;> simp
    · exact List.mem_cons_of_mem _ (List.mem_cons_of_mem _ e)
theorem foldmin_le : ∀ (l : List Int) (i : Int), l.foldl min i ≤ i ∧ ∀ y ∈ l, l.foldl min i ≤ y
  | [], i => ⟨Int.le_refl _, fun _ h => nomatch h⟩
  | x :: xs, i => by
    obtain ⟨a, b⟩ := foldmin_le xs (min i x)
    refine ⟨Int.le_trans a (Int.min_le_left _ _), fun y hy => ?_⟩
    rcases List.mem_cons.mp hy with e | e
    · rw [e]; exact Int.le_trans a (Int.min_le_right _ _)
    · exact b y e
theorem foldmin_mem : ∀ (l : List Int) (i : Int), l.foldl min i ∈ i :: l
  | [], i => List.mem_cons_self
  | x :: xs, i => by
    have h := foldmin_mem xs (min i x)
    rcases List.mem_cons.mp h with e | e
    · rw [List.foldl_cons, e, Int.min_def]
      split <;> simp
    · exact List.mem_cons_of_mem _ (List.mem_cons_of_mem _ e)
theorem cb_max (hc : X.calm = true) : CallR X (.builtin "max") (rB .max) := by
  intro pins s σ H xs us Q I r h
  obtain ⟨w, t, ps, v, rfl, R, hs, h, k⟩ := h
  obtain ⟨ys, i, is, rfl, e2, rfl⟩ := bMm_inv (show bMm true ps = some v from h)
  obtain ⟨v, rfl, hv⟩ := hs.one
  obtain ⟨a, vs, rfl, ha, ra⟩ := rv_lv hv
  have e3 := ints_ok ra e2
  subst e3
  refine cr_max hc pins s σ _ _ us Q I r ⟨a, i :: is, rfl, .inl ha, Nat.succ_pos _, fun m hm hy => ?_⟩
  obtain ⟨g1, g2⟩ := foldmax_ge is i
  have e : m = is.foldl max i := Int.le_antisymm (by
    rcases List.mem_cons.mp hm with z | z
    · rw [z]; exact g1
    · exact g2 m z) (hy _ (foldmax_mem is i))
  rw [e]
  exact k.same R rfl (rv_int' _)
theorem cb_min (hc : X.calm = true) : CallR X (.builtin "min") (rB .min) := by
  intro pins s σ H xs us Q I r h
  obtain ⟨w, t, ps, v, rfl, R, hs, h, k⟩ := h
  obtain ⟨ys, i, is, rfl, e2, rfl⟩ := bMm_inv (show bMm false ps = some v from h)
  obtain ⟨v, rfl, hv⟩ := hs.one
  obtain ⟨a, vs, rfl, ha, ra⟩ := rv_lv hv
  have e3 := ints_ok ra e2
  subst e3
  refine cr_min hc pins s σ _ _ us Q I r ⟨a, i :: is, rfl, .inl ha, Nat.succ_pos _, fun m hm hy => ?_⟩
  obtain ⟨g1, g2⟩ := foldmin_le is i
  have e : m = is.foldl min i := Int.le_antisymm (hy _ (foldmin_mem is i)) (by
    rcases List.mem_cons.mp hm with z | z
    · rw [z]; exact g1
    · exact g2 m z)
  rw [e]
  exact k.same R rfl (rv_int' _)
/-! isinstance -/
def kindTy : Nat → String
  | 0 => "NoneType" | 1 => "bool" | 2 => "int" | 3 => "str" | 4 => "tuple" | _ => "list"
theorem kind_ok {K : PySem.W.Frag} {p : PV} {v : V} {n : Nat} (r : RW w p v) (h : kind p = some n) : TyX K w.H v (.type (kindTy n)) := by
  cases p with
  | non => cases h; rw [rv_non r]; exact .base .non
  | bl b => cases h; rw [rv_bl r]; exact .base (.bl _)
  | int b => cases h; rw [rv_int r]; exact .base (.int _)
  | str b => cases h; rw [rv_str r]; exact .base (.str _)
  | tup xs =>
    cases h
    obtain ⟨a, vs, rfl, q, _⟩ := rv_tup r
    exact .base (.tup q)
  | lv xs =>
    cases h
    obtain ⟨a, vs, rfl, q, _⟩ := rv_lv r
    rcases q with q | ⟨o, q⟩
    · exact .base (.lst q)
    · exact .base (.frz q)
  | _ => cases h
/-- isinstance(x, T) -/
def rIs (T : String) (ks : List Nat) : List V → Hp → VK → Prop := fun xs H Q => ∃ (w : Vw) (p : PV) (x : V) (n : Nat), w.H = H ∧ xs = [x, .ty T] ∧ RW w p x ∧ kind p = some n ∧ Q (.bl (ks.contains n)) H
theorem kind_le {p : PV} {n : Nat} (h : kind p = some n) : n ≤ 5 := by
  cases p <;> first | (cases h; done) | (cases h; decide)
theorem cb_is {T : String} {ks : List Nat} (hk : ∀ n, n ≤ 5 → kitB (kindTy n) T = some (ks.contains n)) : CallR X (.builtin "isinstance") (rIs T ks) := by
  intro pins s σ H xs us Q I r h
  obtain ⟨w, p, x, n, rfl, rfl, hp, h, k⟩ := h
  exact call_isi pins s σ _ _ us Q I r ⟨x, .ty T, .type (kindTy n), .type T, _, rfl, .ty T, kind_ok hp h, kit_ty (hk n (kind_le h)), k⟩
theorem is_tuple : ∀ n, n ≤ 5 → kitB (kindTy n) "tuple" = some ([4].contains n) := by
  intro n h
  match n, h with
  | 0, _ => decide +kernel
  | 1, _ => decide +kernel
  | 2, _ => decide +kernel
  | 3, _ => decide +kernel
  | 4, _ => decide +kernel
  | 5, _ => decide +kernel
theorem is_int : ∀ n, n ≤ 5 → kitB (kindTy n) "int" = some ([1, 2].contains n) := by
  intro n h
  match n, h with
  | 0, _ => decide +kernel
  | 1, _ => decide +kernel
  | 2, _ => decide +kernel
  | 3, _ => decide +kernel
  | 4, _ => decide +kernel
  | 5, _ => decide +kernel
theorem is_str : ∀ n, n ≤ 5 → kitB (kindTy n) "str" = some ([3].contains n) := by
  intro n h
  match n, h with
  | 0, _ => decide +kernel
  | 1, _ => decide +kernel
  | 2, _ => decide +kernel
  | 3, _ => decide +kernel
  | 4, _ => decide +kernel
  | 5, _ => decide +kernel
theorem is_bool : ∀ n, n ≤ 5 → kitB (kindTy n) "bool" = some ([1].contains n) := by
  intro n h
  match n, h with
  | 0, _ => decide +kernel
  | 1, _ => decide +kernel
  | 2, _ => decide +kernel
  | 3, _ => decide +kernel
  | 4, _ => decide +kernel
  | 5, _ => decide +kernel
theorem is_list : ∀ n, n ≤ 5 → kitB (kindTy n) "list" = some ([5].contains n) := by
  intro n h
  match n, h with
  | 0, _ => decide +kernel
  | 1, _ => decide +kernel
  | 2, _ => decide +kernel
  | 3, _ => decide +kernel
  | 4, _ => decide +kernel
  | 5, _ => decide +kernel

/-! isinstance(an error, a class) -/
/-- the class by its number -/
def clV (cl : Cl) (c : Nat) : V := if c = 1000 then .ty "ValueError" else .ref (cl.A c)
def clU (cl : Cl) (c : Nat) : Value := if c = 1000 then .type "ValueError" else .ref (cl.A c)
theorem clV_rel {cl : Cl} {c : Nat} : RelV (clV cl c) (clU cl c) := by
  unfold clV clU
  by_cases e : c = 1000
  · rw [if_pos e, if_pos e]; rfl
  · rw [if_neg e, if_neg e]; rfl
theorem clV_eq {cl : Cl} {c : Nat} {u : Value} (h : RelV (clV cl c) u) : u = clU cl c := by
  unfold clV clU at *
  by_cases e : c = 1000
  · rw [if_pos e] at h ⊢; exact h
  · rw [if_neg e] at h ⊢; exact h
/-- what is known of the errors' classes -/
structure ClOk (K : PySem.W.Frag) (cl : Cl) : Prop where
  exc : ∀ c, cl.O c → ExcC K (cl.A c)
  kit : ∀ c d, cl.O c → (cl.O d ∨ d = 1000) → PySem.W.kitOne K (.ref (cl.A c)) (clU cl d) = some (subC c d)
  exm : ∀ c d, cl.O c → cl.O d → PySem.W.exmOne K (.ref (cl.A c)) (.ref (cl.A d)) = some (subC c d)
def rIsX (cl : Cl) (c : Nat) : List V → Hp → VK → Prop := fun xs H Q => ∃ (w : Vw) (d : Nat) (fs : List PV) (x : V), w.H = H ∧ w.cl = cl ∧ xs = [x, clV cl c] ∧ RW w (.exc d fs) x ∧ Q (.bl (subC d c)) H
theorem cb_isx {cl : Cl} {c : Nat} (K : ClOk X.K cl) (hc : cl.O c ∨ c = 1000) : CallR X (.builtin "isinstance") (rIsX cl c) := by
  intro pins s σ H xs us Q I r h
  obtain ⟨w, d, fs, x, rfl, rfl, rfl, hp, k⟩ := h
  obtain ⟨a, rfl, ha, _, od⟩ := rv_exc hp
  cases r with
  | cons rx rr =>
    cases rr with
    | cons rt rr =>
      cases rr
      cases rx
      have ec := clV_eq rt
      subst ec
      obtain ⟨⟨oe, vs, hget, hz, hv⟩, _⟩ := I.hok a _ ha
      have J : PySem.W.InstAt s.heap a oe (w.cl.A d) none := by
        obtain ⟨oc, od, oda, osl⟩ := oe
        obtain ⟨h1, h2⟩ := hz
        dsimp only at h1 h2 hv
        subst h1 h2 hv
        exact ⟨hget, rfl, rfl, trivial⟩
      have C := K.exc d od
      exact PySem.W.kia_one (PySem.W.handS_kitx_exc C.hg C.hk C.hs C.hd C.ha C.hn C.ht C.hm) I.kIn J (K.kit d c od hc) (fun z => by cases z) fun tk => ⟨.bl _, _, I.kept (t' := tk) fun _ _ z => z, rfl, k⟩
/-! repr -/
theorem cb_repr (hG : X.A.guards = some []) (hu : X.A.units + 64 < cLine) : CallR X (.builtin "repr") (rB .repr) := by
  intro pins s σ H vs us Q I r h
  obtain ⟨w, t, ps, v, rfl, R, hs, h, k⟩ := h
  replace h : bRepr ps = some v := h
  unfold bRepr at h
  split at h
  · rename_i d
    obtain ⟨c, e⟩ := ite_some h
    cases e
    obtain ⟨c1, c2⟩ := Bool.and_eq_true_iff.mp c
    obtain ⟨c2, c3⟩ := Bool.and_eq_true_iff.mp c2
    have c3 := of_decide_eq_true c3
    obtain ⟨v, rfl, hv⟩ := hs.one
    obtain ⟨D, d1, d2⟩ := deep_rw X.K c2 hv
    have c2 := dk_dep _ _ c2
    have eD := Dt.isD d D d1
    obtain ⟨s1, s2⟩ := show_ok d c1
    rw [← eD] at s1 s2
    have dep := Dt.dep d D d1
    have eS : D.shown = ⟨⟨reprP d⟩⟩ := by rw [eD]; rfl
    have szL : D.shown.length ≤ sizeLine := by rw [eS, str_len, ← line_eq]; exact c3
    cases r with
    | cons rv rr =>
      cases rr
      rename_i u
      obtain ⟨as, rd⟩ := Dp.reads I D v u d2 rv
      have fin : ∀ (h' : Heap) (tk t2 : Nat), (∀ b o, s.heap.get? b = some o → h'.get? b = some o) → EP X pins σ Q (.str D.shown t2) { s with heap := h', toks := tk } := fun h' tk t2 hk =>
        ⟨.str D.shown, w.H, I.kept hk, ⟨_, rfl⟩, k.same R rfl (by rw [eS]; exact rv_str' _)⟩
      cases u with
      | ref a => exact repr_of_reads' (h₀ := s.heap) rd s1 (fun z => by rw [s2] at z; cases z) hG (by omega) (fun _ _ e => e) (fun h' u tk hk => fin h' tk u hk) szL
      | int i t =>
        cases rd
        refine P.repr_of_int ?_ ?_
        · unfold PyData.showable at s1
          exact of_decide_eq_true s1
        · exact fin s.heap _ _ fun _ _ e => e
      | str x t =>
        cases rd
        exact P.repr_of_str (fin s.heap _ _ fun _ _ e => e) szL
      | bool b =>
        cases rd
        exact P.repr_of_bool (fin s.heap _ _ fun _ _ e => e)
      | none =>
        cases rd
        exact P.repr_of_none (fin s.heap _ _ fun _ _ e => e)
      | _ => cases rd
  · cases h
end
/-! ### tuple[::-1] -/
section
variable {prog : Program} {w : World} {A : Around} {E : Value → Shared → Prop} {s : Shared}
theorem adjust_rev (n : Nat) : Builtin.Slice.sliceAdjust none none (-1) (n : Int) = ((n : Int) - 1, -1) := by
  unfold Builtin.Slice.sliceAdjust
  rfl
theorem places_rev (n : Nat) : Builtin.Slice.slicePlaces ((n : Int) - 1) (-1) (-1) = n := by
  unfold Builtin.Slice.slicePlaces
  have h1 : ¬ ((-1 : Int) > 0) := by omega
  have h2 : (- -1 : Int) = 1 := by decide
  simp only [h1, if_false, h2, Int.ediv_one]
  split <;> omega
theorem sliceApplied_rev {sl : Addr} {vl vu vs : Value} {n : Nat} {Q : Int × Int × Nat → Shared → Prop} (hs : s.heap.IsSliceOf sl vl vu vs) (pl : IsPart vl none) (pu : IsPart vu none) (ps : IsPart vs (some (-1)))
    (h : Q ((n : Int) - 1, -1, n) s) : wpAny (model prog w) A (Builtin.Slice.sliceApplied (.ref sl) (pure (n : Int))) Q E s := by
  obtain ⟨os, hos, hcs, hds⟩ := id hs
  unfold Builtin.Slice.sliceApplied Builtin.Slice.sliceFields
  refine wpAny_bind (wpAny_bind (wpAny_field hos hds (x := vl) rfl (wpAny_bind (wpAny_field hos hds (x := vu) rfl (wpAny_bind (wpAny_field hos hds (x := vs) rfl (wpAny_pure ?_)))))))
  refine wpAny_bind (HT.slicePart_ ps ?_)
  show wpAny _ _ (if ((-1 : Int) == 0) = true then _ else _) _ _ s
  rw [if_neg (by decide)]
  refine wpAny_bind (HT.slicePart_ pl (wpAny_bind (HT.slicePart_ pu (wpAny_bind (wpAny_pure ?_)))))
  show wpAny _ _ (match Builtin.Slice.sliceAdjust none none (-1) (n : Int) with | (lo, hi) => pure (lo, (-1 : Int), Builtin.Slice.slicePlaces lo hi (-1))) _ _ s
  rw [adjust_rev n]
  show wpAny _ _ (pure ((n : Int) - 1, (-1 : Int), Builtin.Slice.slicePlaces ((n : Int) - 1) (-1) (-1))) _ _ s
  rw [places_rev]
  exact wpAny_pure h
theorem pick_rev (xs : Array Value) : ((List.range xs.size).filterMap fun (k : Nat) => xs[((xs.size : Int) - 1 + (k : Int) * (-1)).toNat]?).toArray = xs.toList.reverse.toArray := by
  have e : (fun (k : Nat) => xs[((xs.size : Int) - 1 + (k : Int) * (-1)).toNat]?) = (fun i => xs[i]?) ∘ fun k => xs.size - 1 - k := by
    funext k
    have : ((xs.size : Int) - 1 + (k : Int) * (-1)).toNat = xs.size - 1 - k := by omega
    rw [this]
    rfl
  rw [e, ← List.filterMap_map, PySem.W.krv_range, List.filterMap_reverse, PySem.W.krv_all]
theorem getItem_tuple_rev {t sl : Addr} {items : Array Value} {vl vu vs : Value} {Q : Value → Shared → Prop} (ht : IsTup s.heap t items) (hs : s.heap.IsSliceOf sl vl vu vs) (pl : IsPart vl none) (pu : IsPart vu none) (ps : IsPart vs (some (-1)))
    (h : Q (.ref s.heap.objs.size) { s with heap := s.heap.push { cls := .type "tuple", data := .seq items.toList.reverse.toArray } }) (hsz : items.size ≤ sizeLine) : wpAny (model prog w) A (getItem (.ref t) (.ref sl)) Q E s := by
  have htake : sizeOk (.seq items.toList.reverse.toArray) := by
    show items.toList.reverse.toArray.size ≤ sizeLine
    rw [List.size_toArray, List.length_reverse, Array.length_toList]
    exact hsz
  obtain ⟨os, hos, hcs, hds⟩ := id hs
  have hTs : s.TypeIs (.ref sl) "slice" := ⟨os, hos, hcs⟩
  unfold getItem
  refine wpAny_holding ?_
  refine wpAny_bind (wpAny_sequenceKey ht.typeIs (by decide) ?_)
  refine wpAny_bind (wpAny_callSpecial?_slot (name := Str.ofString "__getitem__") ht.typeIs PyProof.Rows.slot_tuple_getitem
    (wpAny_call_entry PyProof.Rows.slot_tuple_getitem ht.typeIs entry_tuple_getitem ?_ (args_tuple_getitem _ _)))
  show wpAny _ _ (Builtin.Tuple.tupleItemsOf (.ref t) >>= _) _ _ s
  refine wpAny_bind (tupleItemsOf_ ht ?_)
  refine wpAny_bind (wpAny_typeOf hTs ?_)
  rw [if_pos (by decide)]
  refine wpAny_bind (sliceApplied_rev hs pl pu ps ?_)
  show wpAny _ _ (if (((items.size : Int) - 1) == 0 && (-1 : Int) == 1 && items.size == items.size) = true then _ else _) _ _ s
  rw [if_neg (by
    rw [show ((-1 : Int) == 1) = false from by decide, Bool.and_false, Bool.false_and]
    exact Bool.false_ne_true), pick_rev]
  first
    | exact wpAny_bind (m := Builtin.Tuple.tupleExact _) (wpAny_newObj_type (wpAny_pure ⟨_, rfl, wpAny_pure h⟩) htake)
    | exact wpAny_bind (m := Builtin.Tuple.tupleExact _) (wpAny_newObj_type (wpAny_bind (wpAny_pure (wpAny_pure ⟨_, rfl, wpAny_pure h⟩))) htake)
    | exact wpAny_bind (wpAny_bind (m := Builtin.Tuple.tupleExact _) (wpAny_newObj_type (wpAny_pure (wpAny_pure ⟨_, rfl, wpAny_pure h⟩)) htake))
    | exact wpAny_bind (wpAny_bind (m := Builtin.Tuple.tupleExact _) (wpAny_newObj_type (wpAny_pure ⟨_, rfl, wpAny_pure h⟩) htake))
end
def tRevT (K : PySem.W.Frag) (te : TE) : TE := fun σ H Q => te σ H fun x H1 => ∃ a xs, x = .ref a ∧ SqT K H1 a xs ∧ ∀ p, H1 p = none → Q (.ref p) (upd H1 p (.tup xs.reverse))
theorem pe_revT {X : Cx} {e : Expr} {te : TE} {k : Nat} {p1 p2 p3 pos : Pos} (he : PE X e te) : PE X (.Subscript e (.Slice none none (some (.UnaryOp .USub (.Constant (.int 1) k p1) p2)) p3) pos) (tRevT X.K te) := by
  refine ⟨fun pins s σ H Q I h => ?_⟩
  refine Subscript_ (thn (he.run pins s σ H _ I h) fun v s1 ⟨x, H1, I1, r1, a, xs, ex, hx, q⟩ => ?_)
  subst ex
  cases r1
  have hst : PO X (some (.UnaryOp .USub (.Constant (.int 1) k p1) p2)) (tPart (tUn (rU fun i => .int (-i)) (tC (.int 1)))) := po_some (pe_un un_neg pe_int)
  refine wpAny_Slice (thn (po_none.run pins s1 σ H1 (fun o H2 => o = none ∧ H2 = H1) I1 ⟨rfl, rfl⟩) fun vl s2 ⟨l, H2, I2, pl, el, e2⟩ => ?_)
  subst el e2
  refine thn (po_none.run pins s2 σ H2 (fun o H3 => o = none ∧ H3 = H2) I2 ⟨rfl, rfl⟩) fun vu s3 ⟨u, H3, I3, pu, eu, e3⟩ => ?_
  subst eu e3
  refine thn (hst.run pins s3 σ H3 (fun o H4 => o = some (-1) ∧ H4 = H3) I3 ⟨1, rfl, -1, rfl, rfl, rfl⟩) fun vs s4 ⟨o, H4, I4, ps, eo, e4⟩ => ?_
  subst eo e4
  have I5 : L2.Inv X pins σ H4 { s4 with heap := s4.heap.push { cls := .type "slice", data := .fields #[vl, vu, vs] } } := I4.kept (t' := s4.toks) fun b ob q => Heap.get?_push_of_some _ q
  obtain ⟨its, r, ht, hz⟩ := I5.tuple hx
  have hlen := r.length
  show wpAny (model X.prog X.w) X.A (subscriptTail e (.Slice none none (some (.UnaryOp .USub (.Constant (.int 1) k p1) p2)) p3) (.ref a) (.ref s4.heap.objs.size)) (EP X pins σ Q) X.xe { s4 with heap := s4.heap.push { cls := .type "slice", data := .fields #[vl, vu, vs] } }
  refine tail_any (ops := [.ref a, .ref s4.heap.objs.size]) ht.typeIs (PyProof.Rows.slot_tuple_getitem.lookup) ?_ (by with_unfolding_all rfl)
  refine getItem_tuple_rev ht (Heap.IsSliceOf.new _ vl vu vs) pl pu ps ?_ (by rw [List.size_toArray]; omega)
  refine ⟨.ref _, _, I5.laid (t' := s4.toks) (o := .tup xs.reverse) (fun b ob q => Heap.get?_push_of_some _ q) (Nat.le_refl _) ?_, rfl, q _ (I5.hok.fresh (Nat.le_refl _))⟩
  exact ⟨by rw [List.length_reverse]; exact hz, _, r.reverse, IsTup.new _ _⟩

end Pu

set_option linter.all false
set_option autoImplicit false
set_option maxRecDepth 100000
set_option maxHeartbeats 4000000
/-! P10: sorted, methods, changes of lists. -/
namespace Pu
open PySem PySem.Spec PyProof.Rows L2
section
variable {X : Cx} {H : Hp} {w : Vw}
theorem deps_le {p : PV} : ∀ {xs : List PV}, p ∈ xs → p.dep ≤ PV.deps xs
  | x :: xs, h => by
    unfold PV.deps
    rcases List.mem_cons.mp h with e | h
    · rw [e]; exact Nat.le_max_left _ _
    · exact Nat.le_trans (deps_le h) (Nat.le_max_right _ _)
/-- v is the value of p -/
def VP (w : Vw) (v : Value) (p : PV) : Prop := ∃ x, RelV x v ∧ RV w p x
theorem each_vp : ∀ {xs : List PV} {vs : List V} {us : List Value}, RVs w xs vs → Vals vs us → PySem.W.EachIs (VP w) us xs
  | [], _, _, h, r => by
    rw [h.inv0] at r
    cases r
    exact .nil
  | x :: xs, _, _, h, r => by
    obtain ⟨u, us, rfl, a, b⟩ := h.inv
    cases r with
    | cons r rr => exact .cons ⟨u, r, a⟩ (each_vp b rr)
theorem vp_each : ∀ {xs : List PV} {us : List Value}, PySem.W.EachIs (VP w) us xs → ∃ vs, Vals vs us ∧ RVs w xs vs
  | _, _, .nil => ⟨[], .nil, .nil⟩
  | _, _, .cons ⟨x, r, a⟩ h => by
    obtain ⟨vs, rv, b⟩ := vp_each h
    exact ⟨x :: vs, .cons r rv, .cons a b⟩
theorem each_mono {α β : Type} {R R' : α → β → Prop} : ∀ {as : List α} {bs : List β}, PySem.W.EachIs R as bs → (∀ a b, b ∈ bs → R a b → R' a b) → PySem.W.EachIs R' as bs
  | _, _, .nil, _ => .nil
  | _, _, .cons h r, k => .cons (k _ _ List.mem_cons_self h) (each_mono r fun a b m => k a b (List.mem_cons_of_mem _ m))
theorem sortable_ok {xs : List PV} (h : sortable xs = true) : alikeEach xs = true ∧ PySem.W.Sortable (xs.map toD) ∧ xs.length ≤ line ∧ PV.deps xs ≤ 60 := by
  unfold sortable at h
  obtain ⟨h1, h⟩ := Bool.and_eq_true_iff.mp h
  obtain ⟨h3, h⟩ := Bool.and_eq_true_iff.mp h
  obtain ⟨h4, h5⟩ := Bool.and_eq_true_iff.mp h
  refine ⟨h1, ?_, of_decide_eq_true h4, dks_deps _ _ h5⟩
  have h2 := (alikeEach_mem h1).rf
  rcases Bool.or_eq_true_iff.mp h3 with z | z
  · refine .inl fun d hd => ?_
    obtain ⟨p, hp, rfl⟩ := List.mem_map.mp hd
    have := List.all_eq_true.mp z p hp
    cases p with
    | tup ys =>
      cases ys with
      | nil => cases this
      | cons y ys => exact ⟨toD y, toDs ys, by rw [toD, toDs]⟩
    | _ => cases this
  · refine .inr fun d hd => ?_
    obtain ⟨p, hp, rfl⟩ := List.mem_map.mp hd
    have := List.all_eq_true.mp z p hp
    have rp := rfs_iff.mp h2 p hp
    cases p with
    | non => cases this
    | tup ys => cases this
    | bl b => unfold toD; exact ⟨fun q => (by cases q), fun _ q => (by cases q)⟩
    | int b => unfold toD; exact ⟨fun q => (by cases q), fun _ q => (by cases q)⟩
    | str b => unfold toD; exact ⟨fun q => (by cases q), fun _ q => (by cases q)⟩
    | ref n => unfold PV.rf at rp; cases rp
    | lv ys => unfold PV.rf at rp; cases rp
    | dv _ _ _ => unfold PV.rf at rp; cases rp
    | exc _ _ => unfold PV.rf at rp; cases rp
theorem cb_sorted (hu : X.A.units + 64 < cLine) : CallR X (.builtin "sorted") (rB .sorted) := by
  intro pins s σ H vs us Q I r h
  obtain ⟨w, t, ps, v, rfl, R, hs, h, k⟩ := h
  replace h : bSorted ps = some v := h
  unfold bSorted at h
  split at h
  · rename_i xs
    obtain ⟨c, e⟩ := ite_some h
    cases e
    obtain ⟨v, rfl, hv⟩ := hs.one
    obtain ⟨a, ys, rfl, ha, ra⟩ := rv_lv hv
    obtain ⟨its, rv, hl, hz⟩ := I.list (.inl ha)
    rw [Vals.ref1 r]
    obtain ⟨c1, c3, c4, c5⟩ := sortable_ok c
    have ak := alikeEach_mem c1
    have c2 := ak.rf
    have hal : PySem.W.AllAlike (xs.map toD) := fun d hd d' hd' => by
      obtain ⟨p, hp, rfl⟩ := List.mem_map.mp hd
      obtain ⟨p', hp', rfl⟩ := List.mem_map.mp hd'
      exact alike_toD _ _ (ak p hp p' hp')
    have ev := each_vp ra rv
    have er : PySem.W.EachIs (fun v p => ∃ as, Reads s.heap v (toD p) as) its xs := each_mono ev fun v p hp ⟨x, hx, rx⟩ => Dp.reads I (toD p) x v (dp_of X.K rx (rfs_iff.mp c2 p hp)) hx
    refine PySem.W.sorted_data hl.isList ev er hal c3 (by rw [← line_eq]; exact c4) (fun p hp => ?_) fun out lo eo => ?_
    · have d1 := Dt.dep p _ (Dt.toD p (rfs_iff.mp c2 p hp))
      have := deps_le hp
      omega
    · rw [isort_merge ak c2] at eo
      obtain ⟨zs, rz, rr⟩ := vp_each eo
      obtain ⟨ep, he'⟩ := PyProof.Rows.sortedAll_at s.heap its out.toArray
      have hn : w.H (s.heap.objs.size + 1) = none := I.hok.fresh (Nat.le_succ _)
      have hlen : zs.length ≤ sizeLine := by
        rw [rz.length, lo, ← line_eq]; exact c4
      refine ⟨.ref _, L2.upd w.H (s.heap.objs.size + 1) (.lst zs), I.laid (t' := s.toks) (fun _ _ => PyProof.Rows.sortedAll_old) (Nat.le_succ _) ⟨hlen, out, ep, rz, by simpa using he'⟩, rfl, k.list R hn rr⟩
  · cases h

/-! ### methods that change nothing -/
def rM (m : Mth) : V → List V → Hp → VK → Prop := fun x xs H Q => ∃ (w : Vw) (s : St) (p : PV) (ps : List PV) (v : PV), w.H = H ∧ Rel w s ∧ RW w p x ∧ RWs w ps xs ∧ mth m p ps = some v ∧ Makes w s v Q
theorem reads_all {xs : List PV} {vs : List V} {its : List Value} {pins : List (Addr × Obj)} {σ : L2.St} {s : Shared} (I : Inv X pins σ w.H s) (h : PV.dks xs 60 = true) (r : RVs w xs vs) (rv : Vals vs its) :
    ∃ Ds as, Dts xs Ds ∧ ReadsAll s.heap its Ds as := by
  obtain ⟨Ds, d1, d2⟩ := deeps_ok X.K xs 60 vs h r
  obtain ⟨as, q⟩ := Dp.readsAll I Ds vs its d2 rv
  exact ⟨Ds, as, d1, q⟩
theorem dts_get : ∀ {xs : List PV} {Ds : List PyData} {j : Nat} {D : PyData}, Dts xs Ds → Ds[j]? = some D → ∃ p, xs[j]? = some p ∧ Dt p D
  | [], _, _, _, h, e => by unfold Dts at h; subst h; cases e
  | x :: xs, _, 0, _, h, e => by
    unfold Dts at h
    obtain ⟨D, r, rfl, a, b⟩ := h
    cases e
    exact ⟨x, rfl, a⟩
  | x :: xs, _, j + 1, _, h, e => by
    unfold Dts at h
    obtain ⟨D, r, rfl, a, b⟩ := h
    exact dts_get (j := j) b (by simpa using e)
theorem dts_len : ∀ {xs : List PV} {Ds : List PyData}, Dts xs Ds → xs.length = Ds.length
  | [], _, h => by unfold Dts at h; subst h; rfl
  | x :: xs, _, h => by
    unfold Dts at h
    obtain ⟨D, r, rfl, a, b⟩ := h
    rw [List.length_cons, List.length_cons, dts_len b]
theorem indexOf_get {x : PV} : ∀ {xs : List PV} {j : Nat}, indexOf x xs = some j → (∃ z, xs[j]? = some z ∧ eqv z x = true) ∧ ∀ m, m < j → ∀ y, xs[m]? = some y → eqv y x = false
  | [], _, h => by cases h
  | y :: ys, j, h => by
    unfold indexOf at h
    cases c : eqv y x with
    | true =>
      rw [c, if_pos rfl] at h
      cases h
      exact ⟨⟨y, rfl, c⟩, fun m hm => absurd hm (Nat.not_lt_zero _)⟩
    | false =>
      rw [c, if_neg (by simp)] at h
      obtain ⟨i, e1, e2⟩ := Option.map_eq_some_iff.mp h
      subst e2
      obtain ⟨⟨z, h1, h2⟩, h3⟩ := indexOf_get e1
      refine ⟨⟨z, by simpa using h1, h2⟩, fun m hm q hq => ?_⟩
      cases m with
      | zero => simp at hq; subst hq; exact c
      | succ m => exact h3 m (by omega) q (by simpa using hq)
theorem mm_index (hu : X.A.units + 64 < cLine) : MtR X "list.index" (rM .index) := by
  intro pins s σ H x xs v us Q I rx rv h
  obtain ⟨w, t, p, ps, r, rfl, R, hp, hs, h, k⟩ := h
  replace h : mIndex p ps = some r := h
  unfold mIndex at h
  split at h
  · rename_i ys y
    by_cases c : (y.dk 60 && PV.dks ys 60) = true
    · rw [if_pos c] at h
      obtain ⟨j, ej, e2⟩ := Option.map_eq_some_iff.mp h
      subst e2
      obtain ⟨c1, c2⟩ := Bool.and_eq_true_iff.mp c
      obtain ⟨a, vs, rfl, ha, ra⟩ := rv_lv hp
      obtain ⟨z, rfl, rz⟩ := hs.one
      cases rx
      cases rv with
      | cons ry rt =>
        rename_i uy ut
        cases rt
        obtain ⟨its, rvs, ⟨⟨cls, dd, data, sl⟩, n, ho, hc, hdn, hd⟩, hlen⟩ := I.list (.inl ha)
        simp only at hc hd
        subst hc hd
        obtain ⟨Ds, as, d1, d2⟩ := reads_all I c2 ra rvs
        obtain ⟨D, e1, e2⟩ := deep_rw X.K c1 rz
        obtain ⟨bs, rb⟩ := Dp.reads I D z uy e2 ry
        have hpl := d1.plain
        have dd1 := dk_dep _ _ c1
        have it := SeqAt.items_plain (A := X.A) (vs := its.toArray) (by simpa using d2) rb hpl e1.plain (by rw [e1.dep]; omega)
        obtain ⟨⟨q, hq1, hq2⟩, hno⟩ := indexOf_get ej
        have lj := lt_of_get hq1
        have l1 := ra.length
        have l2 := rvs.length
        have l3 := dts_len d1
        have hsl := sizeLine_eq
        have key : ∀ (m : Nat) (hm : m < its.toArray.size), ∃ y', ys[m]? = some y' ∧ PyData.eqv (SeqAt.readOf s.heap its.toArray[m]) D = eqv y' y := fun m hm => by
          have hm' : m < its.length := by simpa using hm
          have e := SeqAt.readsAll_map_plain Ds its as hpl d2
          have hD : Ds[m]? = some (SeqAt.readOf s.heap its[m]) := by
            rw [← e, List.getElem?_map, List.getElem?_eq_getElem hm']
            rfl
          obtain ⟨y', hy', dy'⟩ := dts_get d1 hD
          exact ⟨y', hy', by simpa using Dt.eqv _ _ _ _ dy' e1⟩
        have hj : j < its.toArray.size := by simp only [List.size_toArray]; omega
        refine call_meets PySem.F.slot_list_index ⟨_, ho, rfl⟩ PySem.F.entry_list_index (PySem.F.args_list_index_2 _ _)
          (SeqAt.list_indexAt a its.toArray n dd sl uy (fun v => PyData.eqv (SeqAt.readOf s.heap v) D) j hj (by simp only [List.size_toArray] at hj; have := line_eq; unfold line at this; omega) ?_ ?_) ⟨ho, it, ?_⟩
        · obtain ⟨y', h1, h2⟩ := key j hj
          rw [hq1] at h1
          cases h1
          rw [h2]; exact hq2
        · intro m hm hmj
          obtain ⟨y', h1, h2⟩ := key m hm
          rw [h2]
          exact hno m hmj y' h1
        · exact ⟨.int (j : Nat), _, I.tok _, ⟨_, rfl⟩, k.same R rfl (rv_int' _)⟩
    · rw [if_neg c] at h; cases h
  · cases h
theorem countP_ok {f : Value → Bool} {y : PV} : ∀ {ys : List PV} {its : List Value}, ys.length = its.length → (∀ (m : Nat) (hm : m < its.length), ∃ y', ys[m]? = some y' ∧ f its[m] = eqv y' y) → its.countP f = countOf y ys
  | [], [], _, _ => rfl
  | [], _ :: _, h, _ => by cases h
  | _ :: _, [], h, _ => by cases h
  | q :: ys, u :: its, h, k => by
    have h0 := k 0 (by simp)
    obtain ⟨y', e1, e2⟩ := h0
    simp at e1
    subst e1
    have ih := countP_ok (f := f) (y := y) (ys := ys) (its := its) (by simpa using h) fun m hm => by
      obtain ⟨y', a, b⟩ := k (m + 1) (by simpa using hm)
      exact ⟨y', by simpa using a, by simpa using b⟩
    have e2 : f u = eqv q y := e2
    unfold countOf
    rw [List.countP_cons, ih, e2]
    cases eqv q y <;> simp
theorem mm_count (hu : X.A.units + 64 < cLine) : MtR X "list.count" (rM .count) := by
  intro pins s σ H x xs v us Q I rx rv h
  obtain ⟨w, t, p, ps, r, rfl, R, hp, hs, h, k⟩ := h
  replace h : mCount p ps = some r := h
  unfold mCount at h
  split at h
  · rename_i ys y
    obtain ⟨c, e⟩ := ite_some h
    subst e
    obtain ⟨c1, c2⟩ := Bool.and_eq_true_iff.mp c
    obtain ⟨a, vs, rfl, ha, ra⟩ := rv_lv hp
    obtain ⟨z, rfl, rz⟩ := hs.one
    cases rx
    cases rv with
    | cons ry rt =>
      rename_i uy ut
      cases rt
      obtain ⟨its, rvs, ⟨⟨cls, dd, data, sl⟩, n, ho, hc, hdn, hd⟩, hlen⟩ := I.list (.inl ha)
      simp only at hc hd
      subst hc hd
      obtain ⟨Ds, as, d1, d2⟩ := reads_all I c2 ra rvs
      obtain ⟨D, e1, e2⟩ := deep_rw X.K c1 rz
      obtain ⟨bs, rb⟩ := Dp.reads I D z uy e2 ry
      have hpl := d1.plain
      have dd1 := dk_dep _ _ c1
      have it := SeqAt.items_plain (A := X.A) (vs := its.toArray) (by simpa using d2) rb hpl e1.plain (by rw [e1.dep]; omega)
      have l1 := ra.length
      have l2 := rvs.length
      have cp : its.countP (fun v => PyData.eqv (SeqAt.readOf s.heap v) D) = countOf y ys := countP_ok (by omega) fun m hm' => by
        have e := SeqAt.readsAll_map_plain Ds its as hpl d2
        have hD : Ds[m]? = some (SeqAt.readOf s.heap its[m]) := by
          rw [← e, List.getElem?_map, List.getElem?_eq_getElem hm']
          rfl
        obtain ⟨y', hy', dy'⟩ := dts_get d1 hD
        exact ⟨y', hy', Dt.eqv _ _ _ _ dy' e1⟩
      refine call_meets PySem.F.slot_list_count ⟨_, ho, rfl⟩ PySem.F.entry_list_count (PySem.F.args_list_count_2 _ _)
        (SeqAt.list_countAt a its.toArray n dd sl uy (fun v => PyData.eqv (SeqAt.readOf s.heap v) D)) ⟨ho, it, ?_⟩
      refine ⟨.int (countOf y ys : Nat), _, I.tok _, ⟨s.toks, ?_⟩, k.same R rfl (rv_int' _)⟩
      show Value.int ((its.toArray.toList.countP _ : Nat) : Int) s.toks = Value.int _ s.toks
      have e9 : its.toArray.toList = its := by simp
      rw [e9, cp]
  · cases h
theorem mm_countT (hu : X.A.units + 64 < cLine) : MtR X "tuple.count" (rM .countT) := by
  intro pins s σ H x xs v us Q I rx rv h
  obtain ⟨w, t, p, ps, r, rfl, R, hp, hs, h, k⟩ := h
  replace h : mCountT p ps = some r := h
  unfold mCountT at h
  split at h
  · rename_i ys y
    obtain ⟨c, e⟩ := ite_some h
    subst e
    obtain ⟨c1, c2⟩ := Bool.and_eq_true_iff.mp c
    obtain ⟨a, vs, rfl, ha, ra⟩ := rv_tup hp
    obtain ⟨z, rfl, rz⟩ := hs.one
    cases rx
    cases rv with
    | cons ry rt =>
      rename_i uy ut
      cases rt
      obtain ⟨its, rvs, ⟨⟨cls, dd, data, sl⟩, ho, hc, n, hd⟩, hlen⟩ := I.tuple (SqT.of ha)
      simp only at hc hd
      subst hc hd
      obtain ⟨Ds, as, d1, d2⟩ := reads_all I c2 ra rvs
      obtain ⟨D, e1, e2⟩ := deep_rw X.K c1 rz
      obtain ⟨bs, rb⟩ := Dp.reads I D z uy e2 ry
      have hpl := d1.plain
      have dd1 := dk_dep _ _ c1
      have it := SeqAt.items_plain (A := X.A) (vs := its.toArray) (by simpa using d2) rb hpl e1.plain (by rw [e1.dep]; omega)
      have l1 := ra.length
      have l2 := rvs.length
      have cp : its.countP (fun v => PyData.eqv (SeqAt.readOf s.heap v) D) = countOf y ys := countP_ok (by omega) fun m hm' => by
        have e := SeqAt.readsAll_map_plain Ds its as hpl d2
        have hD : Ds[m]? = some (SeqAt.readOf s.heap its[m]) := by
          rw [← e, List.getElem?_map, List.getElem?_eq_getElem hm']
          rfl
        obtain ⟨y', hy', dy'⟩ := dts_get d1 hD
        exact ⟨y', hy', Dt.eqv _ _ _ _ dy' e1⟩
      refine call_meets PySem.F.slot_tuple_count ⟨_, ho, rfl⟩ PySem.F.entry_tuple_count (PySem.F.args_tuple_count_2 _ _)
        (SeqAt.tuple_countAt a its.toArray n dd sl uy (fun v => PyData.eqv (SeqAt.readOf s.heap v) D)) ⟨ho, it, ?_⟩
      refine ⟨.int (countOf y ys : Nat), _, I.tok _, ⟨s.toks, ?_⟩, k.same R rfl (rv_int' _)⟩
      show Value.int ((its.toArray.toList.countP _ : Nat) : Int) s.toks = Value.int _ s.toks
      have e9 : its.toArray.toList = its := by simp
      rw [e9, cp]
  · cases h

/-! ### changes of lists -/
/-- m of the list at a (contents xs), arguments ps -/
def rC (m : Chg) : V → List V → Hp → VK → Prop := fun x us H Q => ∃ (w : Vw) (a : Addr) (xs ps : List PV) (vs : List V) (r : PV) (xs' : List PV), w.H = H ∧ x = .ref a ∧ H a = some (.lst vs) ∧ RVs w xs vs ∧ RVs w ps us ∧ chg m xs ps = some (r, xs') ∧
  ∀ u vs', RV w r u → RVs w xs' vs' → Q u (upd H a (.lst vs'))
theorem mm_append : MtR X "list.append" (rC .append) := by
  intro pins s σ H x xs v us Q I rx rv h
  obtain ⟨w, a, ys, ps, vs, r, ys', rfl, rfl, ha, ra, hs, h, k⟩ := h
  replace h : cAppend ys ps = some (r, ys') := h
  unfold cAppend at h
  split at h
  · obtain ⟨c, e2⟩ := ite_some h
    cases e2
    obtain ⟨z, rfl, rz⟩ := hs.one
    exact mt_append pins s σ _ _ _ v us Q I rx rv ⟨a, vs, z, rfl, rfl, ha, by rw [← ra.length, ← line_eq]; exact c, k _ _ rv_non' (ra.append (.cons rz .nil))⟩
  · cases h
theorem mt_extendR : MtR X "list.extend" (fun x ys H Q => ∃ a b xs zs, x = .ref a ∧ ys = [.ref b] ∧ H a = some (.lst xs) ∧ Rd H b (.lst zs) ∧ xs.length + zs.length ≤ sizeLine ∧ Q .non (upd H a (.lst (xs ++ zs)))) := by
  intro pins s σ H x vs v us Q I rx rv h
  obtain ⟨l, b, xs, zs, rfl, rfl, hH, hB, hz, q⟩ := h
  cases rx
  obtain ⟨u, rfl, ru⟩ := rv.one
  cases ru
  obtain ⟨z, its, n, r, hl, e⟩ := I.lstM hH
  obtain ⟨z2, its2, n2, r2, hl2, e2⟩ := lstR I hB
  have hsz : its.toArray.size + its2.toArray.size ≤ sizeLine := by rw [List.size_toArray, List.size_toArray]; omega
  have hlong : ¬ (!its.toArray.isEmpty && Builtin.List.listTooLong (its.toArray.size + its2.toArray.size)) = true := by
    rw [notLongL hsz, Bool.and_false]
    exact Bool.false_ne_true
  refine call_meets F.slot_list_extend ⟨_, e, rfl⟩ F.entry_list_extend (F.args_list_extend_2 _ _)
    (AutoSeq1.list_extend_list_list_0 l its.toArray n b its2.toArray n2 hlong (by rw [List.size_toArray]; omega) (by omega)) ⟨e, e2, ?_⟩
  refine ⟨.non, _, I.lset (its' := its ++ its2) hH e (by simp) (r.append r2) ?_, rfl, q⟩
  rw [List.length_append]
  omega
theorem mm_extend : MtR X "list.extend" (rC .extend) := by
  intro pins s σ H x xs v us Q I rx rv h
  obtain ⟨w, a, ys, ps, vs, r, ys', rfl, rfl, ha, ra, hs, h, k⟩ := h
  replace h : cExtend ys ps = some (r, ys') := h
  unfold cExtend at h
  split at h
  · obtain ⟨c, e2⟩ := ite_some h
    cases e2
    obtain ⟨z, rfl, rz⟩ := hs.one
    obtain ⟨b, zs, rfl, hb, rb⟩ := rv_lv (.inl rz)
    exact mt_extendR pins s σ _ _ _ v us Q I rx rv ⟨a, b, vs, zs, rfl, rfl, ha, hb, by rw [← ra.length, ← rb.length, ← line_eq]; exact c, k _ _ rv_non' (ra.append rb)⟩
  · cases h
theorem mm_insert : MtR X "list.insert" (rC .insert) := by
  intro pins s σ H x xs v us Q I rx rv h
  obtain ⟨w, a, ys, ps, vs, r, ys', rfl, rfl, ha, ra, hs, h, k⟩ := h
  replace h : cInsert ys ps = some (r, ys') := h
  unfold cInsert at h
  split at h
  · rename_i i y
    obtain ⟨c, e2⟩ := ite_some h
    cases e2
    obtain ⟨z, z2, rfl, rz, rz2⟩ := hs.two
    obtain rfl := rv_int (.inl rz)
    exact mt_insert pins s σ _ _ _ v us Q I rx rv ⟨a, vs, i, z2, rfl, rfl, ha, by rw [← ra.length, ← line_eq]; exact c.1, c.2.1, c.2.2, k _ _ rv_non' (((ra.take i.toNat).append (.cons rz2 .nil)).append (ra.drop i.toNat))⟩
  · cases h
theorem mm_reverse : MtR X "list.reverse" (rC .reverse) := by
  intro pins s σ H x xs v us Q I rx rv h
  obtain ⟨w, a, ys, ps, vs, r, ys', rfl, rfl, ha, ra, hs, h, k⟩ := h
  replace h : cReverse ys ps = some (r, ys') := h
  unfold cReverse at h
  split at h
  · cases h
    have hs0 := hs.inv0
    subst hs0
    exact mt_reverse pins s σ _ _ _ v us Q I rx rv ⟨a, vs, rfl, rfl, ha, k _ _ rv_non' ra.reverse⟩
  · cases h
theorem mm_pop : MtR X "list.pop" (rC .pop) := by
  intro pins s σ H x xs v us Q I rx rv h
  obtain ⟨w, a, ys, ps, vs, r, ys', rfl, rfl, ha, ra, hs, h, k⟩ := h
  replace h : cPop ys ps = some (r, ys') := h
  unfold cPop at h
  split at h
  · split at h
    · rename_i y ey
      cases h
      have hs0 := hs.inv0
      subst hs0
      obtain ⟨z, ez, rz⟩ := ra.get ey
      exact mt_pop pins s σ _ _ _ v us Q I rx rv ⟨a, vs, z, rfl, rfl, ha, by rw [← ra.length]; exact ez, k _ _ rz ra.dropLast⟩
    · cases h
  · rename_i i
    split at h
    · rename_i c
      split at h
      · cases h
      · rename_i j ej
        split at h
        · rename_i y ey
          cases h
          obtain ⟨z1, rfl, rz1⟩ := hs.one
          obtain rfl := rv_int (.inl rz1)
          obtain ⟨z, ez, rz⟩ := ra.get ey
          have sq := L2.ixN_seq (by rw [← ixE_eq]; exact ej)
          exact mt_popAt pins s σ _ _ _ v us Q I rx rv ⟨a, vs, i, j, z, rfl, rfl, ha, c.1, c.2, by rw [← ra.length]; exact sq.1, ez, k _ _ rz (ra.erase j)⟩
        · cases h
    · cases h
  · cases h
theorem mm_chg (m : Chg) : MtR X (match m with
  | .append => "list.append"
  | .extend => "list.extend"
  | .insert => "list.insert"
  | .pop => "list.pop"
  | .reverse => "list.reverse") (rC m) := by
  cases m
  · exact mm_append
  · exact mm_extend
  · exact mm_insert
  · exact mm_pop
  · exact mm_reverse
/-- xs[i] = v of the list at a -/
def rSet : TSet := fun x y z H Q => ∃ (w : Vw) (a : Addr) (xs : List PV) (vs : List V) (j : Int) (k : Nat) (p : PV), w.H = H ∧ x = .ref a ∧ H a = some (.lst vs) ∧ RVs w xs vs ∧ y = .int j ∧ RV w p z ∧ ixE xs.length j = some k ∧
  ∀ vs', RVs w (xs.set k p) vs' → Q (upd H a (.lst vs'))
theorem set_ok : PSet X rSet := by
  intro pins s σ H o i v ov iv u Q I ro ri rv h
  obtain ⟨w, a, xs, vs, j, k, p, rfl, rfl, ha, ra, rfl, rp, e, q⟩ := h
  exact set_list pins s σ _ _ _ v ov iv u Q I ro ri rv ⟨a, vs, j, k, rfl, rfl, ha, by rw [← ra.length, ← ixE_eq]; exact e, q _ (ra.set rp k)⟩
end
end Pu

set_option linter.all false
set_option autoImplicit false
set_option maxRecDepth 100000
set_option maxHeartbeats 4000000
/-! P11: expressions: from the run to the rules' readings. -/
namespace Pu
open PySem PySem.Spec PyProof.Rows L2
section
variable {cl : Cl} {W : WX} {C : Nat → List PV → St → Rz (PV × Bool)} {σ : L2.St} {H : Hp}
abbrev VO : Vw → Vw → Option Int → Option Int → Prop := fun _ _ a b => a = b
theorem an_O : An VO := fun _ _ _ _ _ _ h => h
abbrev tR (cl : Cl) (W : WX) (C : Nat → List PV → St → Rz (PV × Bool)) (x : XE) : TE := tG cl W VR (esc x) (pE C x)
abbrev tV (cl : Cl) (W : WX) (C : Nat → List PV → St → Rz (PV × Bool)) (x : XE) : TE := tG cl W VV (esc x ++ bare x) (pE C x)
abbrev tN (cl : Cl) (W : WX) (C : Nat → List PV → St → Rz (PV × Bool)) (x : XE) : TE := tG cl W VN (esc x ++ bare x) (pE C x)
abbrev tF (cl : Cl) (W : WX) (C : Nat → List PV → St → Rz (PV × Bool)) (x : XE) : TE := tG cl W VF (esc x ++ bare x) (pX C x)
abbrev tRs (cl : Cl) (W : WX) (C : Nat → List PV → St → Rz (PV × Bool)) (x : XL) : TA := tG cl W VRs (escL x) (pL C x)
abbrev tVs (cl : Cl) (W : WX) (C : Nat → List PV → St → Rz (PV × Bool)) (x : XL) : TA := tG cl W VVs (escL x ++ bareL x) (pL C x)
abbrev tT (cl : Cl) (W : WX) (C : Nat → List PV → St → Rz (PV × Bool)) (x : XE) : TT := tG cl W VB (esc x) (fun e s => (pE C x e s).bind asB)
abbrev tO (cl : Cl) (W : WX) (C : Nat → List PV → St → Rz (PV × Bool)) (x : XO) : TO := tG cl W VO (escO x) (pO C x)
theorem Goes.at {α β : Type} {V : Vw → Vw → α → β → Prop} {Q : β → Hp → Prop} {w : Vw} {s : St} {a : α} (h : Goes cl W V σ Q w (.ok a s)) (R : Rel w s) {u : β} (hv : V w w a u) : Q u w.H := h w u R GrE.refl hv
theorem Goes.made {Q : VK} {w : Vw} {s : St} {v : PV} (h : Goes cl W VN σ Q w (.ok v s)) : Makes w s v Q := fun w' u R g r f => h w' u R g ⟨r, f⟩
theorem Goes.int {Q : VK} {w : Vw} {s : St} {v : PV} {u : V} (h : Goes cl W VV σ Q w (.ok v s)) (R : Rel w s) (r : RV w v u) : Q u w.H := h w u R GrE.refl r

theorem w_c {Q : VK} {v : PV} {u : V} (hu : ∀ w : Vw, RV w v u) (h : tV cl W C (.c v) σ H Q) : tC u σ H Q := by
  obtain ⟨w, e, s, rfl, h2, x, h⟩ := h
  unfold pE at h
  exact h w u x.rel GrE.refl (hu w)
theorem w_v {Q : VK} {i : Nat} (h : tR cl W C (.v i) σ H Q) : tVar i σ H Q := by
  obtain ⟨w, e, s, rfl, h2, x, h⟩ := h
  unfold pE at h
  cases q : e[i]? with
  | none => simp only [q] at h; exact h.elim
  | some o =>
    cases o with
    | none => simp only [q] at h; exact h.elim
    | some p =>
      simp only [q] at h
      obtain ⟨v, a, b, c⟩ := x.val i p q
      exact ⟨v, a, h w v x.rel GrE.refl b⟩
theorem w_vV {Q : VK} {i : Nat} (h : tV cl W C (.v i) σ H Q) : tVar i σ H Q := by
  obtain ⟨w, e, s, rfl, h2, x, h⟩ := h
  unfold pE at h
  cases q : e[i]? with
  | none => simp only [q] at h; exact h.elim
  | some o =>
    cases o with
    | none => simp only [q] at h; exact h.elim
    | some p =>
      simp only [q] at h
      obtain ⟨v, a, b, c⟩ := x.val i p q
      exact ⟨v, a, h w v x.rel GrE.refl (c (by unfold esc bare; simp))⟩
/-! argument lists -/
theorem w_nil (Q : List V → Hp → Prop) (h : tVs cl W C .nil σ H Q) : tNil σ H Q := by
  obtain ⟨w, e, s, rfl, h2, x, h⟩ := h
  unfold pL at h
  exact h w _ x.rel GrE.refl .nil
theorem w_nilR (Q : List V → Hp → Prop) (h : tRs cl W C .nil σ H Q) : tNil σ H Q := by
  obtain ⟨w, e, s, rfl, h2, x, h⟩ := h
  unfold pL at h
  exact h w _ x.rel GrE.refl rfl
theorem w_cons {a : XE} {r : XL} (Q : List V → Hp → Prop) (h : tVs cl W C (.cons a r) σ H Q) : tCons (tV cl W C a) (tVs cl W C r) σ H Q := by
  unfold tVs at h
  have h' := tG_op (es := escL (.cons a r) ++ bareL (.cons a r)) (V1 := RV) (V1' := RVs) (es1 := esc a ++ bare a) (es2 := escL r ++ bareL r) (fa := pE C a) (fb := pL C r) (op := fun x xs s => .ok (x :: xs) s) an_Vs (fun _ _ a u g h => h.mo g.gr a u) (by intro i hi; simp only [esc, escL, escO, escI, bare, bareL, bareI, List.mem_append] at hi ⊢; grind) (by intro i hi; simp only [esc, escL, escO, escI, bare, bareL, bareI, List.mem_append] at hi ⊢; grind) (by
    obtain ⟨w, e, s, h1, h2, x, h⟩ := h
    unfold pL at h
    exact ⟨w, e, s, h1, h2, x, h⟩)
  refine tG_then h' fun x H1 h => tG_then h fun y H2 h => ?_
  obtain ⟨w2, p, q, s2, rfl, h2, R, hp, hq, h⟩ := h
  exact h.at R (.cons hp hq)
theorem w_consR {a : XE} {r : XL} (Q : List V → Hp → Prop) (h : tRs cl W C (.cons a r) σ H Q) : tCons (tR cl W C a) (tRs cl W C r) σ H Q := by
  unfold tRs at h
  have h' := tG_op (es := escL (.cons a r)) (V1 := RW) (V1' := RWs) (es1 := esc a) (es2 := escL r) (fa := pE C a) (fb := pL C r) (op := fun x xs s => .ok (x :: xs) s) an_Rs (fun _ _ a u g h => h.mo g) (by intro i hi; simp only [esc, escL, escO, escI, bare, bareL, bareI, List.mem_append] at hi ⊢; grind) (by intro i hi; simp only [esc, escL, escO, escI, bare, bareL, bareI, List.mem_append] at hi ⊢; grind) (by
    obtain ⟨w, e, s, h1, h2, x, h⟩ := h
    unfold pL at h
    exact ⟨w, e, s, h1, h2, x, h⟩)
  refine tG_then h' fun x H1 h => tG_then h fun y H2 h => ?_
  obtain ⟨w2, p, q, s2, rfl, h2, R, hp, hq, h⟩ := h
  exact h.at R ⟨_, _, rfl, hp, hq⟩
/-! displays -/
theorem w_tup {Q : VK} {es : XL} (h : tV cl W C (.tup es) σ H Q) : tTup (tVs cl W C es) σ H Q := by
  have h' := tG_bind (es := esc (.tup es) ++ bare (.tup es)) (V1 := RVs) (es1 := escL es ++ bareL es) (f := pL C es) (g := fun vs e s => if vs.length ≤ line then .ok (.tup vs) s else .no) an_V (by intro i hi; simp only [esc, escL, escO, escI, bare, bareL, bareI, List.mem_append] at hi ⊢; grind) (by
    obtain ⟨w, e, s, h1, h2, x, h⟩ := h
    unfold pE at h
    exact ⟨w, e, s, h1, h2, x, h⟩)
  refine tG_then h' fun us H1 h => ?_
  obtain ⟨w, vs, e, s, rfl, h2, x, hv, h⟩ := h
  by_cases c : vs.length ≤ line
  · rw [if_pos c] at h
    refine ⟨by rw [← hv.length]; exact c, fun p hp => ?_⟩
    exact h (w.upd p (.tup us)) _ (x.rel.new hp) (GrE.new hp) (RV.newT hp hv)
  · rw [if_neg c] at h; exact h.elim
theorem w_lst {Q : VK} {es : XL} (h : tN cl W C (.lst es) σ H Q) : tLst (tVs cl W C es) σ H Q := by
  have h' := tG_bind (es := esc (.lst es) ++ bare (.lst es)) (V1 := RVs) (es1 := escL es ++ bareL es) (f := pL C es) (g := fun vs e s => if vs.length ≤ line then .ok (.lv vs) s else .no) an_N (by intro i hi; simp only [esc, escL, escO, escI, bare, bareL, bareI, List.mem_append] at hi ⊢; grind) (by
    obtain ⟨w, e, s, h1, h2, x, h⟩ := h
    unfold pE at h
    exact ⟨w, e, s, h1, h2, x, h⟩)
  refine tG_then h' fun us H1 h => ?_
  obtain ⟨w, vs, e, s, rfl, h2, x, hv, h⟩ := h
  by_cases c : vs.length ≤ line
  · rw [if_pos c] at h
    refine ⟨by rw [← hv.length]; exact c, fun p hp => ?_⟩
    exact h.made.list x.rel hp hv
  · rw [if_neg c] at h; exact h.elim
/-! operators -/
theorem w_bin {Q : VK} {op : Bop} {a b : XE} (h : tN cl W C (.bin op a b) σ H Q) : tOp (r2 (bop op)) (tR cl W C a) (tR cl W C b) σ H Q := by
  have h' := tG_op (es := esc (.bin op a b) ++ bare (.bin op a b)) (V1 := RW) (V1' := RW) (es1 := esc a) (es2 := esc b) (fa := pE C a) (fb := pE C b) (op := fun x y s => ofO (bop op x y) s) an_N (fun _ _ a u g h => h.mo g) (by intro i hi; simp only [esc, escL, escO, escI, bare, bareL, bareI, List.mem_append] at hi ⊢; grind) (by intro i hi; simp only [esc, escL, escO, escI, bare, bareL, bareI, List.mem_append] at hi ⊢; grind) (by
    obtain ⟨w, e, s, h1, h2, x, h⟩ := h
    unfold pE at h
    exact ⟨w, e, s, h1, h2, x, h⟩)
  refine tG_then h' fun x H1 h => tG_then h fun y H2 h => ?_
  obtain ⟨w2, p, q, s2, rfl, h2, R, hp, hq, h⟩ := h
  obtain ⟨r, e, k⟩ := h.ofO
  exact ⟨w2, s2, p, q, r, rfl, R, hp, hq, e, fun w' u R g a b => k w' u R g ⟨a, b⟩⟩
theorem w_neg {Q : VK} {a : XE} (h : tV cl W C (.neg a) σ H Q) : tUn (rU fun i => .int (-i)) (tR cl W C a) σ H Q := by
  have h' := tG_bind (es := esc (.neg a) ++ bare (.neg a)) (V1 := RW) (es1 := esc a) (f := pE C a) (g := fun x e s => match x with
    | .int i => .ok (.int (-i)) s
    | _ => .no) an_V (by intro i hi; simp only [esc, escL, escO, escI, bare, bareL, bareI, List.mem_append] at hi ⊢; grind) (by
    obtain ⟨w, e, s, h1, h2, x, h⟩ := h
    unfold pE at h
    exact ⟨w, e, s, h1, h2, x, h⟩)
  refine tG_then h' fun u H1 h => ?_
  obtain ⟨w, v, e, s, rfl, h2, x, hv, h⟩ := h
  cases v with
  | int i =>
    cases rv_int hv
    exact ⟨i, rfl, h.int x.rel (rv_int' _)⟩
  | _ => exact h.elim
theorem w_cmp {Q : VK} {op : Cop} {a b : XE} (h : tV cl W C (.cmp op a b) σ H Q) : tOp (rc op) (tR cl W C a) (tR cl W C b) σ H Q := by
  have h' := tG_op (es := esc (.cmp op a b) ++ bare (.cmp op a b)) (V1 := RW) (V1' := RW) (es1 := esc a) (es2 := esc b) (fa := pE C a) (fb := pE C b) (op := fun x y s => ofO ((cop op x y).map PV.bl) s) an_V (fun _ _ a u g h => h.mo g) (by intro i hi; simp only [esc, escL, escO, escI, bare, bareL, bareI, List.mem_append] at hi ⊢; grind) (by intro i hi; simp only [esc, escL, escO, escI, bare, bareL, bareI, List.mem_append] at hi ⊢; grind) (by
    obtain ⟨w, e, s, h1, h2, x, h⟩ := h
    unfold pE at h
    exact ⟨w, e, s, h1, h2, x, h⟩)
  refine tG_then h' fun x H1 h => tG_then h fun y H2 h => ?_
  obtain ⟨w2, p, q, s2, rfl, h2, R, hp, hq, h⟩ := h
  obtain ⟨r, e, k⟩ := h.ofO
  obtain ⟨d, e1, e2⟩ := Option.map_eq_some_iff.mp e
  subst e2
  exact ⟨w2, p, q, d, rfl, hp, hq, e1, k w2 _ R GrE.refl (rv_bl' _)⟩
theorem w_cmp2 {Q : VK} {o1 o2 : Cop} {a b c : XE} (h : tV cl W C (.cmp2 o1 o2 a b c) σ H Q) : tChain (rc o1) (rc o2) (tR cl W C a) (tR cl W C b) (tR cl W C c) σ H Q := by
  have h' := tG_op' (es := esc (.cmp2 o1 o2 a b c) ++ bare (.cmp2 o1 o2 a b c)) (V1 := RW) (V1' := RW) (es1 := esc a) (es2 := esc b) (fa := pE C a) (fb := pE C b) (op := fun x y e s => match cop o1 x y with
    | none => .no
    | some false => .ok (.bl false) s
    | some true => (pE C c e s).bind fun z s => ofO ((cop o2 y z).map PV.bl) s) an_V (fun _ _ a u g h => h.mo g) (by intro i hi; simp only [esc, escL, escO, escI, bare, bareL, bareI, List.mem_append] at hi ⊢; grind) (by intro i hi; simp only [esc, escL, escO, escI, bare, bareL, bareI, List.mem_append] at hi ⊢; grind) (by
    obtain ⟨w, e, s, h1, h2, x, h⟩ := h
    unfold pE at h
    exact ⟨w, e, s, h1, h2, x, h⟩)
  refine tG_then h' fun x H1 h => tG_then h fun y H2 h => ?_
  obtain ⟨w2, p, q, e, s2, rfl, h2, R, hp, hq, h⟩ := h
  cases q1 : cop o1 p q with
  | none => simp only [q1] at h; exact h.elim
  | some d =>
    refine ⟨w2, p, q, d, rfl, hp, hq, q1, d, rfl, ?_⟩
    cases d with
    | false =>
      simp only [q1] at h
      rw [if_neg Bool.false_ne_true]
      exact h.int R.rel (rv_bl' _)
    | true =>
      simp only [q1] at h
      rw [if_pos rfl]
      refine tG_then (tG_from (es := esc (.cmp2 o1 o2 a b c) ++ bare (.cmp2 o1 o2 a b c)) (V1 := RW) (es1 := esc c) (f := pE C c) (g := fun z s => ofO ((cop o2 q z).map PV.bl) s) an_V (by intro i hi; simp only [esc, escL, escO, escI, bare, bareL, bareI, List.mem_append] at hi ⊢; grind) h2 R h) fun z H3 h => ?_
      obtain ⟨w3, v, s3, rfl, h3, g, x3, hv, h⟩ := h
      obtain ⟨r, e, k⟩ := h.ofO
      obtain ⟨d, e1, e2⟩ := Option.map_eq_some_iff.mp e
      subst e2
      exact ⟨w3, q, v, d, rfl, hq.mo g, hv, e1, k w3 _ x3.rel GrE.refl (rv_bl' _)⟩
end
end Pu

set_option linter.all false
set_option autoImplicit false
set_option maxRecDepth 100000
set_option maxHeartbeats 4000000
/-! P12: expressions, further. -/
namespace Pu
open PySem PySem.Spec PyProof.Rows L2
theorem Rz.assoc {α β γ : Type} (r : Rz α) (f : α → St → Rz β) (g : β → St → Rz γ) : (r.bind f).bind g = r.bind fun a s => (f a s).bind g := by cases r <;> rfl
section
variable {cl : Cl} {W : WX} {C : Nat → List PV → St → Rz (PV × Bool)} {σ : L2.St} {H : Hp}
theorem asB_goes {β : Type} {γ : Type} {V : Vw → Vw → γ → β → Prop} {Q : β → Hp → Prop} {w : Vw} {v : PV} {s : St} {f : Bool → St → Rz γ} (h : Goes cl W V σ Q w ((asB v s).bind f)) : ∃ c, v = .bl c ∧ Goes cl W V σ Q w (f c s) := by
  cases v with
  | bl c => exact ⟨c, rfl, h⟩
  | _ => exact h.elim
theorem w_and {Q : VK} {a b : XE} (h : tV cl W C (.and a b) σ H Q) : tAndV (tR cl W C a) (tR cl W C b) σ H Q := by
  obtain ⟨w, e, s, rfl, h2, x, h⟩ := h
  unfold pE at h
  rw [Rz.assoc] at h
  refine tG_then (tG_from (es := esc (.and a b) ++ bare (.and a b)) (V1 := RW) (es1 := esc a) (f := pE C a) an_V (by intro i hi; simp only [esc, escL, escO, escI, bare, bareL, bareI, List.mem_append] at hi ⊢; grind) h2 x h) fun u H1 h => ?_
  obtain ⟨w1, p, s1, rfl, h2, g, x, hv, h⟩ := h
  have hx := asB_goes h
  clear h
  obtain ⟨c, rfl, h⟩ := hx
  cases rv_bl hv
  refine ⟨c, rfl, ?_⟩
  cases c with
  | false =>
    rw [if_neg Bool.false_ne_true] at h ⊢
    exact h.int x.rel (rv_bl' _)
  | true =>
    rw [if_pos rfl] at h ⊢
    rw [Rz.assoc] at h
    refine tG_then (tG_from (es := esc (.and a b) ++ bare (.and a b)) (V1 := RW) (es1 := esc b) (f := pE C b) an_V (by intro i hi; simp only [esc, escL, escO, escI, bare, bareL, bareI, List.mem_append] at hi ⊢; grind) h2 x h) fun u H1 h => ?_
    obtain ⟨w1, p, s1, rfl, h2, g, x, hv, h⟩ := h
    have hx := asB_goes h
    clear h
    obtain ⟨c, rfl, h⟩ := hx
    cases rv_bl hv
    exact h.int x.rel (rv_bl' _)
theorem w_or {Q : VK} {a b : XE} (h : tV cl W C (.or a b) σ H Q) : tOrV (tR cl W C a) (tR cl W C b) σ H Q := by
  obtain ⟨w, e, s, rfl, h2, x, h⟩ := h
  unfold pE at h
  rw [Rz.assoc] at h
  refine tG_then (tG_from (es := esc (.or a b) ++ bare (.or a b)) (V1 := RW) (es1 := esc a) (f := pE C a) an_V (by intro i hi; simp only [esc, escL, escO, escI, bare, bareL, bareI, List.mem_append] at hi ⊢; grind) h2 x h) fun u H1 h => ?_
  obtain ⟨w1, p, s1, rfl, h2, g, x, hv, h⟩ := h
  have hx := asB_goes h
  clear h
  obtain ⟨c, rfl, h⟩ := hx
  cases rv_bl hv
  refine ⟨c, rfl, ?_⟩
  cases c with
  | true =>
    rw [if_pos rfl] at h ⊢
    exact h.int x.rel (rv_bl' _)
  | false =>
    rw [if_neg Bool.false_ne_true] at h ⊢
    rw [Rz.assoc] at h
    refine tG_then (tG_from (es := esc (.or a b) ++ bare (.or a b)) (V1 := RW) (es1 := esc b) (f := pE C b) an_V (by intro i hi; simp only [esc, escL, escO, escI, bare, bareL, bareI, List.mem_append] at hi ⊢; grind) h2 x h) fun u H1 h => ?_
    obtain ⟨w1, p, s1, rfl, h2, g, x, hv, h⟩ := h
    have hx := asB_goes h
    clear h
    obtain ⟨c, rfl, h⟩ := hx
    cases rv_bl hv
    exact h.int x.rel (rv_bl' _)
theorem w_not {Q : VK} {a : XE} (h : tV cl W C (.not a) σ H Q) : tNotV (tR cl W C a) σ H Q := by
  obtain ⟨w, e, s, rfl, h2, x, h⟩ := h
  unfold pE at h
  rw [Rz.assoc] at h
  refine tG_then (tG_from (es := esc (.not a) ++ bare (.not a)) (V1 := RW) (es1 := esc a) (f := pE C a) an_V (by intro i hi; simp only [esc, escL, escO, escI, bare, bareL, bareI, List.mem_append] at hi ⊢; grind) h2 x h) fun u H1 h => ?_
  obtain ⟨w1, p, s1, rfl, h2, g, x, hv, h⟩ := h
  have hx := asB_goes h
  clear h
  obtain ⟨c, rfl, h⟩ := hx
  cases rv_bl hv
  exact ⟨c, rfl, h.int x.rel (rv_bl' _)⟩
/-! tests -/
theorem tT_B {x : XE} {Q : Bool → Hp → Prop} (h : tT cl W C x σ H Q) : tB (tR cl W C x) σ H Q := by
  obtain ⟨w, e, s, rfl, h2, y, h⟩ := h
  refine tG_then (tG_from (V1 := RW) (es1 := esc x) (f := pE C x) an_B (fun _ h => h) h2 y h) fun u H1 h => ?_
  obtain ⟨w1, p, s1, rfl, h2, g, y, hv, h⟩ := h
  cases p with
  | bl c =>
    cases rv_bl hv
    exact ⟨c, rfl, h w1 c y.rel GrE.refl rfl⟩
  | _ => exact h.elim
theorem tT_R {x : XE} {Q : Bool → Hp → Prop} (h : tT cl W C x σ H Q) : tR cl W C x σ H fun u H1 => ∃ c, u = .bl c ∧ Q c H1 := tT_B h
theorem tT_V {x : XE} (hb : bare x = []) {Q : Bool → Hp → Prop} (h : tT cl W C x σ H Q) : tV cl W C x σ H fun u H1 => ∃ c, u = .bl c ∧ Q c H1 :=
  tG_weak (fun _ _ _ _ h => .inl h) (by rw [hb, List.append_nil]; exact fun _ h => h) (tT_R h)
theorem x_and {a b : XE} {Q : Bool → Hp → Prop} (h : tT cl W C (.and a b) σ H Q) : tAnd (tT cl W C a) (tT cl W C b) σ H Q := by
  obtain ⟨w, e, s, rfl, h2, x, h⟩ := h
  unfold pE at h
  dsimp only at h
  rw [Rz.assoc] at h
  refine tG_then (tG_from (es := esc (.and a b)) (V1 := fun _ b c => b = c) (es1 := esc a) (f := fun e s => (pE C a e s).bind asB) an_B (by intro i hi; simp only [esc, escL, escO, escI, bare, bareL, bareI, List.mem_append] at hi ⊢; grind) h2 x h) fun u H1 h => ?_
  obtain ⟨w1, c, s1, rfl, h2, g, x, hv, h⟩ := h
  subst hv
  cases c with
  | false =>
    rw [if_neg Bool.false_ne_true] at h ⊢
    exact h w1 false x.rel GrE.refl rfl
  | true =>
    rw [if_pos rfl] at h ⊢
    rw [Rz.assoc] at h
    refine tG_then (tG_from (es := esc (.and a b)) (V1 := fun _ b c => b = c) (es1 := esc b) (f := fun e s => (pE C b e s).bind asB) an_B (by intro i hi; simp only [esc, escL, escO, escI, bare, bareL, bareI, List.mem_append] at hi ⊢; grind) h2 x h) fun u H1 h => ?_
    obtain ⟨w1, c, s1, rfl, h2, g, x, hv, h⟩ := h
    subst hv
    exact h w1 c x.rel GrE.refl rfl
theorem x_or {a b : XE} {Q : Bool → Hp → Prop} (h : tT cl W C (.or a b) σ H Q) : tOr (tT cl W C a) (tT cl W C b) σ H Q := by
  obtain ⟨w, e, s, rfl, h2, x, h⟩ := h
  unfold pE at h
  dsimp only at h
  rw [Rz.assoc] at h
  refine tG_then (tG_from (es := esc (.or a b)) (V1 := fun _ b c => b = c) (es1 := esc a) (f := fun e s => (pE C a e s).bind asB) an_B (by intro i hi; simp only [esc, escL, escO, escI, bare, bareL, bareI, List.mem_append] at hi ⊢; grind) h2 x h) fun u H1 h => ?_
  obtain ⟨w1, c, s1, rfl, h2, g, x, hv, h⟩ := h
  subst hv
  cases c with
  | true =>
    rw [if_pos rfl] at h ⊢
    exact h w1 true x.rel GrE.refl rfl
  | false =>
    rw [if_neg Bool.false_ne_true] at h ⊢
    rw [Rz.assoc] at h
    refine tG_then (tG_from (es := esc (.or a b)) (V1 := fun _ b c => b = c) (es1 := esc b) (f := fun e s => (pE C b e s).bind asB) an_B (by intro i hi; simp only [esc, escL, escO, escI, bare, bareL, bareI, List.mem_append] at hi ⊢; grind) h2 x h) fun u H1 h => ?_
    obtain ⟨w1, c, s1, rfl, h2, g, x, hv, h⟩ := h
    subst hv
    exact h w1 c x.rel GrE.refl rfl
theorem x_not {a : XE} {Q : Bool → Hp → Prop} (h : tT cl W C (.not a) σ H Q) : tNot (tT cl W C a) σ H Q := by
  obtain ⟨w, e, s, rfl, h2, x, h⟩ := h
  unfold pE at h
  dsimp only at h
  rw [Rz.assoc] at h
  refine tG_then (tG_from (es := esc (.not a)) (V1 := fun _ b c => b = c) (es1 := esc a) (f := fun e s => (pE C a e s).bind asB) an_B (by intro i hi; simp only [esc, escL, escO, escI, bare, bareL, bareI, List.mem_append] at hi ⊢; grind) h2 x h) fun u H1 h => ?_
  obtain ⟨w1, c, s1, rfl, h2, g, x, hv, h⟩ := h
  subst hv
  exact h w1 _ x.rel GrE.refl rfl
/-- .. if .. else .., in each mode -/
theorem w_ite {V : Vw → Vw → PV → L2.V → Prop} (an : An V) {es es1a es1b : List Nat} {Q : VK} {t a b : XE} (st : ∀ i ∈ esc t, i ∈ es) (sa : ∀ i ∈ es1a, i ∈ es) (sb : ∀ i ∈ es1b, i ∈ es) (h : tG cl W V es (pE C (.ite t a b)) σ H Q) : tIf (tT cl W C t) (tG cl W V es1a (pE C a)) (tG cl W V es1b (pE C b)) σ H Q := by
  obtain ⟨w, e, s, rfl, h2, x, h⟩ := h
  unfold pE at h
  refine tG_then (tG_from (V1 := fun _ b c => b = c) (es1 := esc t) (f := fun e s => (pE C t e s).bind asB) an st h2 x h) fun u H1 h => ?_
  obtain ⟨w1, c, s1, rfl, h2, g, x, hv, h⟩ := h
  subst hv
  cases c with
  | true =>
    rw [if_pos rfl] at h ⊢
    exact ⟨w1, e, s1, rfl, h2, x.sub sa, h⟩
  | false =>
    rw [if_neg Bool.false_ne_true] at h ⊢
    exact ⟨w1, e, s1, rfl, h2, x.sub sb, h⟩
/-! calls -/
theorem w_blt {Q : VK} {f : Blt} {es : XL} (h : tN cl W C (.blt f es) σ H Q) : tCB (rB f) (tRs cl W C es) σ H Q := by
  obtain ⟨w, e, s, rfl, h2, x, h⟩ := h
  unfold pE at h
  refine tG_then (tG_from (es := esc (.blt f es) ++ bare (.blt f es)) (V1 := RWs) (es1 := escL es) (f := pL C es) an_N (by intro i hi; simp only [esc, escL, escO, escI, bare, bareL, bareI, List.mem_append] at hi ⊢; grind) h2 x h) fun u H1 h => ?_
  obtain ⟨w1, p, s1, rfl, h2, g, x, hv, h⟩ := h
  obtain ⟨r, e, k⟩ := h.ofO
  exact ⟨w1, s1, p, r, rfl, x.rel, hv, e, fun w' u R g a b => k w' u R g ⟨a, b⟩⟩
theorem w_is {Q : VK} {T : String} {ks : List Nat} {f : Blt} {a : XE} (hf : ∀ s, blt s f = bIs ks) (h : tN cl W C (.blt f (.cons a .nil)) σ H Q) : tCB (rIs T ks) (tCons (tR cl W C a) (tCons (tC (.ty T)) tNil)) σ H Q := by
  obtain ⟨w, e, s, rfl, h2, x, h⟩ := h
  unfold pE pL pL at h
  rw [Rz.assoc] at h
  refine tG_then (tG_from (es := esc (.blt f (.cons a .nil)) ++ bare (.blt f (.cons a .nil))) (V1 := RW) (es1 := esc a) (f := pE C a) an_N (by intro i hi; simp only [esc, escL, escO, escI, bare, bareL, bareI, List.mem_append] at hi ⊢; grind) h2 x h) fun u H1 h => ?_
  obtain ⟨w1, p, s1, rfl, h2, g, x, hv, h⟩ := h
  obtain ⟨r, e, k⟩ := Goes.ofO (show Goes cl W VN σ Q w1 (ofO (blt s1 f [p]) s1) from h)
  rw [hf] at e
  unfold bIs at e
  simp only at e
  split at e
  · rename_i n en
    cases e
    exact ⟨w1, p, u, n, rfl, rfl, hv, en, k w1 _ x.rel GrE.refl ⟨rv_bl' _, frV_no rfl⟩⟩
  · cases e
theorem w_isx {Q : VK} {k : Nat} {a : XE} (h : tV cl W C (.isx k a) σ H Q) : tCB (rIsX cl k) (tCons (tR cl W C a) (tCons (tC (clV cl k)) tNil)) σ H Q := by
  obtain ⟨w, e, s, rfl, h2, x, h⟩ := h
  unfold pE at h
  refine tG_then (tG_from (es := esc (.isx k a) ++ bare (.isx k a)) (V1 := RW) (es1 := esc a) (f := pE C a) an_V (by intro i hi; simp only [esc, escL, escO, escI, bare, bareL, bareI, List.mem_append] at hi ⊢; grind) h2 x h) fun u H1 h => ?_
  obtain ⟨w1, p, s1, rfl, h2, g, x, hv, h⟩ := h
  obtain ⟨r, e, q⟩ := h.ofO
  obtain ⟨d, e1, e2⟩ := Option.map_eq_some_iff.mp e
  subst e2
  cases p with
  | exc c fs =>
    cases e1
    exact ⟨w1, c, fs, u, rfl, h2, rfl, hv, q w1 _ x.rel GrE.refl (rv_bl' _)⟩
  | _ => cases e1
/-! places -/
theorem w_idx {Q : VK} {o i : XE} (h : tV cl W C (.idx o i) σ H Q) : tOp rIt (tR cl W C o) (tR cl W C i) σ H Q := by
  have h' := tG_op (es := esc (.idx o i) ++ bare (.idx o i)) (V1 := RW) (V1' := RW) (es1 := esc o) (es2 := esc i) (fa := pE C o) (fb := pE C i) (op := fun x y s => ofO (item s x y) s) an_V (fun _ _ a u g h => h.mo g) (by intro i hi; simp only [esc, escL, escO, escI, bare, bareL, bareI, List.mem_append] at hi ⊢; grind) (by intro i hi; simp only [esc, escL, escO, escI, bare, bareL, bareI, List.mem_append] at hi ⊢; grind) (by
    obtain ⟨w, e, s, h1, h2, x, h⟩ := h
    unfold pE at h
    exact ⟨w, e, s, h1, h2, x, h⟩)
  refine tG_then h' fun x H1 h => tG_then h fun y H2 h => ?_
  obtain ⟨w2, p, q, s2, rfl, h2, R, hp, hq, h⟩ := h
  obtain ⟨r, e, k⟩ := h.ofO
  exact ⟨w2, s2, p, q, r, rfl, R, hp, hq, e, fun u ru => k w2 u R GrE.refl ru⟩
theorem w_onone (Q : Option Int → Hp → Prop) (h : tO cl W C .none σ H Q) : tNoPart σ H Q := by
  obtain ⟨w, e, s, rfl, h2, x, h⟩ := h
  unfold pO at h
  exact h w none x.rel GrE.refl rfl
theorem w_osome {a : XE} (Q : Option Int → Hp → Prop) (h : tO cl W C (.some a) σ H Q) : tPart (tR cl W C a) σ H Q := by
  obtain ⟨w, e, s, rfl, h2, x, h⟩ := h
  unfold pO at h
  refine tG_then (tG_from (es := escO (.some a)) (V1 := RW) (es1 := esc a) (f := pE C a) an_O (by intro i hi; simp only [esc, escL, escO, escI, bare, bareL, bareI, List.mem_append] at hi ⊢; grind) h2 x h) fun u H1 h => ?_
  obtain ⟨w1, p, s1, rfl, h2, g, x, hv, h⟩ := h
  cases p with
  | int i =>
    cases rv_int hv
    exact ⟨i, rfl, h w1 _ x.rel GrE.refl rfl⟩
  | _ => exact h.elim
theorem w_sl {Q : VK} {o : XE} {lo hi : XO} (h : tN cl W C (.sl o lo hi) σ H Q) : tSl rSl (tR cl W C o) (tO cl W C lo) (tO cl W C hi) σ H Q := by
  obtain ⟨w, e, s, rfl, h2, x, h⟩ := h
  unfold pE at h
  refine tG_then (tG_from (es := esc (.sl o lo hi) ++ bare (.sl o lo hi)) (V1 := RW) (es1 := esc o) (f := pE C o) an_N (by intro i hi; simp only [esc, escL, escO, escI, bare, bareL, bareI, List.mem_append] at hi ⊢; grind) h2 x h) fun u H1 h => ?_
  obtain ⟨w1, p, s1, rfl, h2, g, x, hv, h⟩ := h
  refine tG_then (tG_from (es := esc (.sl o lo hi) ++ bare (.sl o lo hi)) (V1 := fun _ b c => b = c) (es1 := escO lo) (f := pO C lo) an_N (by intro i hi; simp only [esc, escL, escO, escI, bare, bareL, bareI, List.mem_append] at hi ⊢; grind) h2 x h) fun u H1 h => ?_
  obtain ⟨w2, l, s2, rfl, h2, g2, x, e2, h⟩ := h
  subst e2
  refine tG_then (tG_from (es := esc (.sl o lo hi) ++ bare (.sl o lo hi)) (V1 := fun _ b c => b = c) (es1 := escO hi) (f := pO C hi) an_N (by intro i hi; simp only [esc, escL, escO, escI, bare, bareL, bareI, List.mem_append] at hi ⊢; grind) h2 x h) fun u H1 h => ?_
  obtain ⟨w3, l2, s3, rfl, h2, g3, x, e3, h⟩ := h
  subst e3
  obtain ⟨r, e, k⟩ := h.ofO
  exact ⟨w3, s3, p, r, rfl, x.rel, (hv.mo g2).mo g3, e, fun w' u R g a b => k w' u R g ⟨a, b⟩⟩
theorem w_rev {Q : VK} {K : PySem.W.Frag} {o : XE} (h : tV cl W C (.rev o) σ H Q) : tRevT K (tR cl W C o) σ H Q := by
  obtain ⟨w, e, s, rfl, h2, x, h⟩ := h
  unfold pE at h
  refine tG_then (tG_from (es := esc (.rev o) ++ bare (.rev o)) (V1 := RW) (es1 := esc o) (f := pE C o) an_V (by intro i hi; simp only [esc, escL, escO, escI, bare, bareL, bareI, List.mem_append] at hi ⊢; grind) h2 x h) fun u H1 h => ?_
  obtain ⟨w1, p, s1, rfl, h2, g, x, hv, h⟩ := h
  cases p with
  | tup xs =>
    obtain ⟨a, vs, rfl, ta, ra⟩ := rv_tup hv
    refine ⟨a, vs, rfl, SqT.of ta, fun p hn => ?_⟩
    exact h (w1.upd p (.tup vs.reverse)) _ (x.rel.new hn) (GrE.new hn) (RV.newT hn ra.reverse)
  | _ => exact h.elim
/-! methods -/
theorem w_mthL {Q : VK} {K : PySem.W.Frag} {m : Mth} {o : XE} {es : XL} (hm : m = .index ∨ m = .count) (h : tN cl W C (.mth m o es) σ H Q) : tBM K "list" (rM m) (tR cl W C o) (tRs cl W C es) σ H Q := by
  obtain ⟨w, e, s, rfl, h2, x, h⟩ := h
  unfold pE at h
  refine tG_then (tG_from (es := esc (.mth m o es) ++ bare (.mth m o es)) (V1 := RW) (es1 := esc o) (f := pE C o) an_N (by intro i hi; simp only [esc, escL, escO, escI, bare, bareL, bareI, List.mem_append] at hi ⊢; grind) h2 x h) fun u H1 h => ?_
  obtain ⟨w1, p, s1, rfl, h2, g, x, hv, h⟩ := h
  by_cases c : mthTy m p = true
  · rw [if_pos c] at h
    refine ⟨?_, ?_⟩
    · cases p with
      | lv xs =>
        obtain ⟨a, vs, rfl, q, _⟩ := rv_lv hv
        rcases q with q | ⟨o, q⟩
        · exact .inl ⟨rfl, _, SqL.of q⟩
        · exact .inl ⟨rfl, _, .inl (.inr ⟨o, q⟩)⟩
      | _ => rcases hm with rfl | rfl <;> cases c
    · refine tG_then (tG_from (es := esc (.mth m o es) ++ bare (.mth m o es)) (V1 := RWs) (es1 := escL es) (f := pL C es) an_N (by intro i hi; simp only [esc, escL, escO, escI, bare, bareL, bareI, List.mem_append] at hi ⊢; grind) h2 x h) fun us H1 h => ?_
      obtain ⟨w2, ps, s2, rfl, h2, g2, x, hs, h⟩ := h
      obtain ⟨r, e, k⟩ := h.ofO
      exact ⟨w2, s2, p, ps, r, rfl, x.rel, hv.mo g2, hs, e, fun w' u R g a b => k w' u R g ⟨a, b⟩⟩
  · rw [if_neg c] at h; exact h.elim
theorem strs_ok {w : Vw} : ∀ {xs : List PV} {vs : List V} {ys : List Sg}, RVs w xs vs → strsOf xs = some ys → vs = (ys.map fun x => (⟨⟨x⟩⟩ : Str)).map V.str
  | [], _, _, h, e => by cases e; rw [h.inv0]; rfl
  | x :: xs, _, _, h, e => by
    obtain ⟨u, us, rfl, a, b⟩ := h.inv
    cases x <;> first | cases e | skip
    obtain ⟨ys, e1, e2⟩ := Option.map_eq_some_iff.mp e
    subst e2
    rw [strs_ok b e1, rv_str (.inl a)]
    rfl
theorem joinS_eq (a : Sg) : ∀ ys : List Sg, joinS a ys = TL.joinL a ys
  | [] => rfl
  | [x] => rfl
  | x :: y :: r => by
    show x ++ a ++ joinS a (y :: r) = x ++ (a ++ TL.joinL a (y :: r))
    rw [joinS_eq a (y :: r), List.append_assoc]
theorem w_join {Q : VK} {K : PySem.W.Frag} {o a : XE} (h : tN cl W C (.mth .join o (.cons a .nil)) σ H Q) : tM1 (fun x xs H Q => ∃ a p, ∃ ys : List Str, x = .str a ∧ xs = [.ref p] ∧ (SqL K H p (ys.map V.str) ∨ SqT K H p (ys.map V.str)) ∧
      (ys.map (·.length)).sum + ys.length * a.length ≤ 16777216 ∧ Q (.str (Txt.join a ys)) H) (tR cl W C o) (tR cl W C a) σ H Q := by
  obtain ⟨w, e, s, rfl, h2, x, h⟩ := h
  unfold pE at h
  refine tG_then (tG_from (es := esc (.mth .join o (.cons a .nil)) ++ bare (.mth .join o (.cons a .nil))) (V1 := RW) (es1 := esc o) (f := pE C o) an_N (by intro i hi; simp only [esc, escL, escO, escI, bare, bareL, bareI, List.mem_append] at hi ⊢; grind) h2 x h) fun u H1 h => ?_
  obtain ⟨w1, p, s1, rfl, h2, g, x, hv, h⟩ := h
  by_cases c : mthTy .join p = true
  · rw [if_pos c] at h
    cases p with
    | str b =>
      obtain rfl := rv_str hv
      refine ⟨⟨_, rfl⟩, ?_⟩
      unfold pL pL at h
      rw [Rz.assoc] at h
      refine tG_then (tG_from (es := esc (.mth .join o (.cons a .nil)) ++ bare (.mth .join o (.cons a .nil))) (V1 := RW) (es1 := esc a) (f := pE C a) an_N (by intro i hi; simp only [esc, escL, escO, escI, bare, bareL, bareI, List.mem_append] at hi ⊢; grind) h2 x h) fun u H1 h => ?_
      obtain ⟨w2, v, s2, rfl, h2, g2, x, hv2, h⟩ := h
      obtain ⟨r, e, k⟩ := Goes.ofO (show Goes cl W VN σ Q w2 (ofO (mJoin (.str b) [v]) s2) from h)
      unfold mJoin at e
      simp only at e
      cases q3 : seqL v with
      | none => simp only [q3] at e; cases e
      | some xs =>
        simp only [q3] at e
        cases q4 : strsOf xs with
        | none => simp only [q4] at e; cases e
        | some ys =>
          simp only [q4] at e
          obtain ⟨c, z⟩ := ite_some e
          cases z
          obtain ⟨p, vs, rfl, sq, rv⟩ := rv_seqL q3 hv2 K
          rw [strs_ok rv q4] at sq
          refine ⟨_, p, ys.map fun x => (⟨⟨x⟩⟩ : Str), rfl, rfl, sq.imp id SqT.of, ?_, ?_⟩
          · rw [List.map_map, List.length_map]
            exact c
          · have e1 : Txt.join (⟨⟨b⟩⟩ : Str) (ys.map fun x => (⟨⟨x⟩⟩ : Str)) = ⟨⟨joinS b ys⟩⟩ := by
              rw [joinS_eq]
              exact SX.join_S b ys
            rw [e1]
            exact k w2 _ x.rel GrE.refl ⟨rv_str' _, frV_no rfl⟩
    | _ => cases c
  · rw [if_neg c] at h; exact h.elim
end
end Pu

set_option Elab.async false
set_option linter.all false
set_option autoImplicit false
set_option maxRecDepth 100000
set_option maxHeartbeats 1000000
/-! Zp: list(zip(a, b)). -/
namespace Pu
open PySem
open PySem.Sem (wp)
/-- the zip handed out a tuple that is still held -/
abbrev ZipB (h : Heap) (z TI TO T : Addr) (b : Bool) : Prop :=
  h.get? z = some { cls := .type "zip", dict := none, data := .fields #[rawInt T, .bool b, .bool false, .ref TI, .ref TO], slots := #[] }
section
variable {prog : Program} {w : World} {A : Around} {E : Value → Shared → Prop} {s : Shared} {z TI TO i1 i2 T : Addr} {fp1 fp2 : List Addr} {n1 n2 i : Nat} {P1 P2 : Nat → Value → Prop} {St1 St2 : Nat → Heap → Prop} {b : Bool}
theorem any_alive {a : Addr} {Q : Option Obj → Shared → Prop} (h : Q (s.heap.get? a) s) : wpAny (model prog w) A (loadIfAlive a) Q E s := fun Γ p hΓ => by
  unfold loadIfAlive
  rw [Sem.wp_loadIfAlive]
  exact wpAny_pure h Γ p hΓ
theorem zip_held {Q : Bool → Shared → Prop} (hz : ZipB s.heap z TI TO T b) (hT : ∃ o, s.heap.get? T = some o) (h : ∀ h', ZipB h' z TI TO T true → Heap.SameBut z s.heap h' → Q false { s with heap := h' }) : wpAny (model prog w) A (Builtin.SmallTypes.ownedTupleIsFree (.ref z)) Q E s := by
  obtain ⟨o, ho⟩ := hT
  unfold Builtin.SmallTypes.ownedTupleIsFree
  refine wpAny_bind (wpAny_field hz rfl (x := rawInt T) rfl ?_)
  show wpAny _ _ (loadIfAlive ((T : Int)).toNat >>= _) _ _ _
  rw [Int.toNat_natCast]
  refine wpAny_bind (any_alive ?_)
  rw [ho]
  show wpAny _ _ (if (false : Bool) = true then _ else _) _ _ _
  rw [if_neg Bool.false_ne_true]
  refine wpAny_bind (wpAny_field hz rfl (x := .bool b) rfl ?_)
  cases b with
  | true =>
    show wpAny _ _ (if (Value.bool true != Value.bool true) = true then _ else _) _ _ _
    rw [if_neg (by decide)]
    exact wpAny_pure (h _ hz (Heap.SameBut.refl _ _))
  | false =>
    show wpAny _ _ (if (Value.bool false != Value.bool true) = true then _ else _) _ _ _
    rw [if_pos (by decide)]
    refine wpAny_bind (wpAny_setField_rec hz (by simp) fun h' hz' hs' => ?_)
    exact wpAny_pure (h h' hz' hs')
theorem zipB_item {Q : Value → Shared → Prop} (S : ZipSep2 z TI TO i1 i2 fp1 fp2) (D1 : Draws prog w A i1 fp1 n1 P1 St1) (D2 : Draws prog w A i2 fp2 n2 P2 St2)
    (hz : ZipB s.heap z TI TO T b) (hT : ∃ o, s.heap.get? T = some o) (hTI : IsTupOf2 s.heap TI (.ref i1) (.ref i2)) (st1 : St1 i s.heap) (st2 : St2 i s.heap) (hlt1 : i < n1) (hlt2 : i < n2)
    (hQ : ∀ x1 x2 h' tk, P1 i x1 → P2 i x2 → ZipB h' z TI TO T true → St1 (i + 1) h' → St2 (i + 1) h' → IsTupOf2 h' s.heap.objs.size x1 x2 → h'.objs.size = s.heap.objs.size + 1 →
      (∀ c o, c ≠ z → c ≠ i1 → c ≠ i2 → s.heap.get? c = some o → h'.get? c = some o) → Q (.ref s.heap.objs.size) { s with heap := h', toks := tk }) :
    wpAny (model prog w) A (Builtin.«zip.__next__» ⟨[.ref z], []⟩) (fun fin s' => ∃ v, fin = .done (.ret v) ∧ Q v s') E s := by
  obtain ⟨hp, g, d, tk0, os⟩ := s
  show wpAny _ _ (field (.ref z) 2 >>= _) _ _ _
  refine wpAny_bind (wpAny_field hz rfl (x := .bool false) rfl ?_)
  show wpAny _ _ (field (.ref z) 3 >>= _) _ _ _
  refine wpAny_bind (wpAny_field hz rfl (x := .ref TI) rfl ?_)
  refine wpAny_bind (wpAny_seqItems hTI rfl ?_)
  show wpAny _ _ (Builtin.SmallTypes.ownedTupleIsFree (.ref z) >>= _) _ _ _
  refine wpAny_bind (zip_held hz hT fun g0 hz0 hs0 => ?_)
  replace hs0 : Heap.SameBut z hp g0 := hs0
  simp only [Bool.false_eq_true, if_false]
  refine wpAny_bind ?_
  rw [← Array.forIn_toList]
  simp only [List.forIn_cons, List.forIn_nil]
  refine wpAny_bind (wpAny_bind (wpAny_holding ?_))
  show wpAny _ _ (Builtin.SmallTypes.nextOf (.ref i1) >>= _) _ _ ⟨g0, g, d, tk0, os⟩
  refine wpAny_bind (D1.item i _ _ _ hlt1 (D1.over st1 hs0 S.zf1) fun x1 p1 tk1 hx1 sn1 hp1 => wpAny_pure ?_)
  replace hp1 : Heap.SameBut i1 g0 p1 := hp1
  refine wpAny_pure ?_
  refine wpAny_bind (wpAny_bind (wpAny_holding ?_))
  show wpAny _ _ (Builtin.SmallTypes.nextOf (.ref i2) >>= _) _ _ ⟨p1, g, d, tk1, os⟩
  refine wpAny_bind (D2.item i _ _ _ hlt2 (D2.over (D2.over st2 hs0 S.zf2) hp1 S.sep1_2) fun x2 p2 tk2 hx2 sn2 hp2 => wpAny_pure ?_)
  replace hp2 : Heap.SameBut i2 p1 p2 := hp2
  refine wpAny_pure (wpAny_pure ?_)
  show wpAny _ _ (newTuple [x1, x2] >>= _) _ _ _
  refine wpAny_bind (wpAny_newTuple ?_)
  have hsz : p2.objs.size = hp.objs.size := by rw [hp2.1, hp1.1, hs0.1]
  have hz2 : ZipB p2 z TI TO T true := hp2.extBut _ _ S.zi2 (hp1.extBut _ _ S.zi1 hz0)
  have hj1 : St1 (i + 1) p2 := D1.over sn1 hp2 S.sep2_1
  have new : (p2.push { cls := .type "tuple", data := .seq #[x1, x2] }).get? p2.objs.size = some { cls := .type "tuple", data := .seq #[x1, x2] } := Heap.get?_push_size _ rfl
  refine wpAny_pure ⟨_, rfl, ?_⟩
  show Q (.ref p2.objs.size) ⟨p2.push { cls := .type "tuple", data := .seq #[x1, x2] }, g, d, tk2, os⟩
  rw [hsz] at new
  rw [hsz]
  exact hQ x1 x2 _ tk2 hx1 hx2 (Heap.get?_push_of_some _ hz2) (D1.frame _ _ _ hj1 fun b _ o e => Heap.get?_push_of_some _ e) (D2.frame _ _ _ sn2 fun b _ o e => Heap.get?_push_of_some _ e) new (by rw [Heap.size_push, hsz]) fun c o cz c1 c2 e =>
    Heap.get?_push_of_some _ (hp2.extBut _ _ c2 (hp1.extBut _ _ c1 (hs0.extBut _ _ cz e)))
theorem zipB_end {Q : Fin → Shared → Prop} (S : ZipSep2 z TI TO i1 i2 fp1 fp2) (D1 : Draws prog w A i1 fp1 n1 P1 St1) (D2 : Draws prog w A i2 fp2 n2 P2 St2)
    (hz : ZipB s.heap z TI TO T b) (hT : ∃ o, s.heap.get? T = some o) (hTI : IsTupOf2 s.heap TI (.ref i1) (.ref i2)) (st1 : St1 i s.heap) (st2 : St2 i s.heap) (hle1 : i ≤ n1) (hle2 : i ≤ n2) (hend : i = n1 ∨ i = n2)
    (hE : ∀ h' tk e, (∀ c o, c ≠ z → c ≠ i1 → c ≠ i2 → s.heap.get? c = some o → h'.get? c = some o) → (∃ o, h'.get? e = some o ∧ o.cls = .type "StopIteration") → E (.ref e) { s with heap := h', toks := tk }) :
    wpAny (model prog w) A (Builtin.«zip.__next__» ⟨[.ref z], []⟩) Q E s := by
  obtain ⟨hp, g, d, tk0, os⟩ := s
  show wpAny _ _ (field (.ref z) 2 >>= _) _ _ _
  refine wpAny_bind (wpAny_field hz rfl (x := .bool false) rfl ?_)
  show wpAny _ _ (field (.ref z) 3 >>= _) _ _ _
  refine wpAny_bind (wpAny_field hz rfl (x := .ref TI) rfl ?_)
  refine wpAny_bind (wpAny_seqItems hTI rfl ?_)
  show wpAny _ _ (Builtin.SmallTypes.ownedTupleIsFree (.ref z) >>= _) _ _ _
  refine wpAny_bind (zip_held hz hT fun g0 hz0 hs0 => ?_)
  replace hs0 : Heap.SameBut z hp g0 := hs0
  simp only [Bool.false_eq_true, if_false]
  refine wpAny_bind ?_
  rw [← Array.forIn_toList]
  simp only [List.forIn_cons, List.forIn_nil]
  refine wpAny_bind (wpAny_bind (wpAny_holding ?_))
  show wpAny _ _ (Builtin.SmallTypes.nextOf (.ref i1) >>= _) _ _ ⟨g0, g, d, tk0, os⟩
  by_cases hlt1 : i < n1
  · refine wpAny_bind (D1.item i _ _ _ hlt1 (D1.over st1 hs0 S.zf1) fun x1 p1 tk1 hx1 sn1 hp1 => wpAny_pure ?_)
    replace hp1 : Heap.SameBut i1 g0 p1 := hp1
    refine wpAny_pure ?_
    refine wpAny_bind (wpAny_bind (wpAny_holding ?_))
    show wpAny _ _ (Builtin.SmallTypes.nextOf (.ref i2) >>= _) _ _ ⟨p1, g, d, tk1, os⟩
    have hi2 : i = n2 := by omega
    refine wpAny_bind (D2.done ⟨p1, g, d, tk1, os⟩ _ _ (by rw [← hi2]; exact D2.over (D2.over st2 hs0 S.zf2) hp1 S.sep1_2) fun q e hq he => ?_)
    replace hq : Heap.ExtBut i2 p1 q := hq
    exact hE q tk1 e (fun c o cz c1 c2 x => hq _ _ c2 (hp1.extBut _ _ c1 (hs0.extBut _ _ cz x))) he
  · have hi1 : i = n1 := by omega
    refine wpAny_bind (D1.done ⟨g0, g, d, tk0, os⟩ _ _ (by rw [← hi1]; exact D1.over st1 hs0 S.zf1) fun q e hq he => ?_)
    replace hq : Heap.ExtBut i1 g0 q := hq
    exact hE q tk0 e (fun c o cz c1 c2 x => hq _ _ c1 (hs0.extBut _ _ cz x)) he
end
/-- the zip between two items of a list that is made of it -/
def ZipIn (k : Nat) (h : Heap) (z TI TO : Addr) : Prop := (k = 0 ∧ IsZip h z TI TO .none) ∨ ∃ T b, ZipB h z TI TO T b ∧ ∃ o, h.get? T = some o
section
variable {prog : Program} {w : World} {A : Around} {E : Value → Shared → Prop} {s : Shared} {z TI TO i1 i2 : Addr} {fp1 fp2 : List Addr} {n1 n2 i : Nat} {P1 P2 : Nat → Value → Prop} {St1 St2 : Nat → Heap → Prop} {a1 a2 : Value}
theorem zipIn_item {Q : Option Value → Shared → Prop} (S : ZipSep2 z TI TO i1 i2 fp1 fp2) (D1 : Draws prog w A.in1 i1 fp1 n1 P1 St1) (D2 : Draws prog w A.in1 i2 fp2 n2 P2 St2)
    (hz : ZipIn i s.heap z TI TO) (hTI : IsTupOf2 s.heap TI (.ref i1) (.ref i2)) (hTO : IsTupOf2 s.heap TO a1 a2) (st1 : St1 i s.heap) (st2 : St2 i s.heap) (hlt1 : i < n1) (hlt2 : i < n2)
    (hQ : ∀ x1 x2 h' tk, P1 i x1 → P2 i x2 → ZipIn (i + 1) h' z TI TO → (∃ b1 b2, IsTupOf2 h' TO b1 b2) → St1 (i + 1) h' → St2 (i + 1) h' → IsTupOf2 h' s.heap.objs.size x1 x2 → h'.objs.size = s.heap.objs.size + 1 →
      (∀ c o, c ≠ z → c ≠ TO → c ≠ i1 → c ≠ i2 → s.heap.get? c = some o → h'.get? c = some o) → Q (some (.ref s.heap.objs.size)) { s with heap := h', toks := tk }) :
    wpAny (model prog w) A (pyNext (.ref z)) Q E s := by
  rcases hz with ⟨rfl, hz⟩ | ⟨T, b, hz, hT⟩
  · exact wpAny_pyNext_zipD2_item S D1 D2 hz hTI hTO st1 st2 hlt1 hlt2 fun x1 x2 h' tk y1 y2 b1 b2 d1 d2 b5 b6 b7 => hQ x1 x2 h' tk y1 y2 (.inr ⟨_, false, b1, _, b5⟩) ⟨_, _, b2⟩ d1 d2 b5 b6 b7
  · have hT' : s.TypeIs (.ref z) "zip" := ⟨_, hz, rfl⟩
    unfold pyNext
    exact wpAny_bind (wpAny_attempt (wpAny_callSpecial?_slot (name := Str.ofString "__next__") hT' F.slot_zip_next
      (wpAny_call_entry F.slot_zip_next hT' F.entry_zip_next
        (zipB_item S D1 D2 hz hT hTI st1 st2 hlt1 hlt2 fun x1 x2 h' tk y1 y2 b1 d1 d2 b5 b6 b7 => wpAny_pure (hQ x1 x2 h' tk y1 y2 (.inr ⟨T, true, b1, by
          obtain ⟨o, ho⟩ := hT
          by_cases e1 : T = z
          · subst e1
            exact ⟨_, b1⟩
          · by_cases e2 : T = i1
            · subst e2
              exact D1.live _ _ d1
            · by_cases e3 : T = i2
              · subst e3
                exact D2.live _ _ d2
              · exact ⟨o, b7 _ _ e1 e2 e3 ho⟩⟩) ⟨a1, a2, b7 _ _ S.TOz S.Ti1 S.Ti2 hTO⟩ d1 d2 b5 b6 fun c o cz cT c1 c2 e => b7 c o cz c1 c2 e)) (F.args_zip_next_1 _))))
theorem zipIn_end {Q : Option Value → Shared → Prop} (S : ZipSep2 z TI TO i1 i2 fp1 fp2) (D1 : Draws prog w A.in1 i1 fp1 n1 P1 St1) (D2 : Draws prog w A.in1 i2 fp2 n2 P2 St2)
    (hz : ZipIn i s.heap z TI TO) (hTI : IsTupOf2 s.heap TI (.ref i1) (.ref i2)) (hTO : IsTupOf2 s.heap TO a1 a2) (st1 : St1 i s.heap) (st2 : St2 i s.heap) (hle1 : i ≤ n1) (hle2 : i ≤ n2) (hend : i = n1 ∨ i = n2)
    (hQ : ∀ h' tk, (∀ c o, c ≠ z → c ≠ TO → c ≠ i1 → c ≠ i2 → s.heap.get? c = some o → h'.get? c = some o) → Q none { s with heap := h', toks := tk }) : wpAny (model prog w) A (pyNext (.ref z)) Q E s := by
  rcases hz with ⟨rfl, hz⟩ | ⟨T, b, hz, hT⟩
  · exact wpAny_pyNext_zipD2_end S D1 D2 hz hTI hTO st1 st2 hle1 hle2 hend hQ
  · have hT' : s.TypeIs (.ref z) "zip" := ⟨_, hz, rfl⟩
    unfold pyNext
    refine wpAny_bind (wpAny_attempt (wpAny_callSpecial?_slot (name := Str.ofString "__next__") hT' F.slot_zip_next
      (wpAny_call_entry F.slot_zip_next hT' F.entry_zip_next (zipB_end S D1 D2 hz hT hTI st1 st2 hle1 hle2 hend fun h' tk e hk he => ?_) (F.args_zip_next_1 _))))
    obtain ⟨o, ho, hc⟩ := he
    refine wpAny_bind (wpAny_isInstance (T := "StopIteration") (b := true) ⟨o, ho, hc⟩ isSubtype_stop ?_)
    exact wpAny_pure (hQ _ _ fun c o cz _ c1 c2 e => hk c o cz c1 c2 e)
end
/-- what the list holds, item by item -/
structure Made (xs ys : Array Value) (lo i : Nat) (h : Heap) (acc : Array Value) (Ts : List Addr) : Prop where
  acc : acc.toList = Ts.map Value.ref
  len : Ts.length = i
  nd : Ts.Nodup
  item : ∀ (j : Nat) (T : Addr), Ts[j]? = some T → lo ≤ T ∧ T < h.objs.size ∧ ∃ x y, xs[j]? = some x ∧ ys[j]? = some y ∧ IsTupOf2 h T x y
theorem ZipIn.frame {k : Nat} {h h' : Heap} {z TI TO S : Addr} (x : ZipIn k h z TI TO) (hz : z ≠ S) (hk : ∀ c o, c ≠ S → h.get? c = some o → h'.get? c = some o) (hS : ∃ o, h'.get? S = some o) : ZipIn k h' z TI TO := by
  rcases x with ⟨rfl, hx⟩ | ⟨T, b, hx, o, ho⟩
  · exact .inl ⟨rfl, hk _ _ hz hx⟩
  · refine .inr ⟨T, b, hk _ _ hz hx, ?_⟩
    by_cases e : T = S
    · subst e; exact hS
    · exact ⟨o, hk _ _ e ho⟩
theorem Made.frame {xs ys : Array Value} {lo i : Nat} {h h' : Heap} {acc : Array Value} {Ts : List Addr} (M : Made xs ys lo i h acc Ts) (hk : ∀ c o, lo ≤ c → h.get? c = some o → h'.get? c = some o) : Made xs ys lo i h' acc Ts :=
  ⟨M.acc, M.len, M.nd, fun j T e => by
    obtain ⟨a, b, x, y, hx, hy, hT⟩ := M.item j T e
    have := hk T _ a hT
    exact ⟨a, Heap.lt_size this, x, y, hx, hy, this⟩⟩
theorem Made.snoc {xs ys : Array Value} {lo i : Nat} {h : Heap} {acc : Array Value} {Ts : List Addr} {T : Addr} {x y : Value} (M : Made xs ys lo i h acc Ts) (h1 : lo ≤ T) (h2 : ∀ T' ∈ Ts, T' ≠ T) (hx : xs[i]? = some x) (hy : ys[i]? = some y) (hT : IsTupOf2 h T x y) : Made xs ys lo (i + 1) h (acc.push (.ref T)) (Ts ++ [T]) :=
  ⟨by rw [Array.toList_push, M.acc, List.map_append]; rfl, by rw [List.length_append, M.len]; rfl, List.nodup_append.mpr ⟨M.nd, by simp, fun a ha b hb => by rw [List.mem_singleton.mp hb]; exact h2 a ha⟩, fun j T' e => by
    by_cases hj : j < Ts.length
    · rw [List.getElem?_append_left hj] at e
      exact M.item j T' e
    · have hl : j < Ts.length + 1 := by
        have := (List.getElem?_eq_some_iff.mp e).1
        rw [List.length_append] at this
        exact this
      have hlen := M.len
      have ej : j = i := by omega
      subst ej
      rw [List.getElem?_append_right (by omega), show j - Ts.length = 0 by omega] at e
      cases e
      exact ⟨h1, Heap.lt_size hT, x, y, hx, hy, hT⟩⟩
section
variable {prog : Program} {w : World} {A : Around} {R : Result → Shared → Prop} {z TI TO i1 i2 S : Addr} {fp1 fp2 : List Addr} {xs ys : Array Value} {St1 St2 : Nat → Heap → Prop} {lo : Nat}
theorem zip_loop (Z : ZipSep2 z TI TO i1 i2 fp1 fp2) (D1 : Draws prog w A.in1.in1 i1 fp1 xs.size (fun i v => xs[i]? = some v) St1) (D2 : Draws prog w A.in1.in1 i2 fp2 ys.size (fun i v => ys[i]? = some v) St2)
    (hn : min xs.size ys.size ≤ sizeLine) (hS1 : S ∉ fp1) (hS2 : S ∉ fp2) (hSz : S ≠ z) (hSTI : S ≠ TI) (hSTO : S ≠ TO) (hlo : ∀ c ∈ [z, TO, i1, i2, S], c < lo) (res : Value) :
    ∀ (k i : Nat) (s : Shared) (acc : Array Value) (c : Nat) (Ts : List Addr) (a1 a2 : Value), min xs.size ys.size - i = k → i ≤ min xs.size ys.size → lo ≤ s.heap.objs.size → ZipIn i s.heap z TI TO → IsTupOf2 s.heap TI (.ref i1) (.ref i2) → IsTupOf2 s.heap TO a1 a2 → St1 i s.heap → St2 i s.heap →
      s.heap.get? S = some { cls := .type "list", dict := none, data := .seq acc c, slots := #[] } → Made xs ys lo i s.heap acc Ts →
      (∀ h' tk acc' c' Ts', (∀ c o, c ≠ z → c ≠ TO → c ≠ i1 → c ≠ i2 → c ≠ S → s.heap.get? c = some o → h'.get? c = some o) → h'.get? S = some { cls := .type "list", dict := none, data := .seq acc' c', slots := #[] } → Made xs ys lo (min xs.size ys.size) h' acc' Ts' → R (.ok (.ret res)) { s with heap := h', toks := tk }) →
      codeAny (model prog w) A (.builtin "list.extend.loop" ⟨[.ref S, .ref z, res], []⟩) R s := by
  have hSi1 : S ≠ i1 := fun e => hS1 (e ▸ Z.mem1)
  have hSi2 : S ≠ i2 := fun e => hS2 (e ▸ Z.mem2)
  intro k
  induction k with
  | zero =>
    intro i s acc c Ts a1 a2 hk hi hlo2 hz hTI hTO st1 st2 hS M hR
    have hin : i = min xs.size ys.size := by omega
    refine codeAny_builtin F.entry_extend_loop ?_
    rw [Around.under_plainId F.plain_extend_loop _]
    show wpAny _ A.in1 (pyNext (.ref z) >>= _) _ _ s
    refine wpAny_bind (zipIn_end Z D1 D2 hz hTI hTO st1 st2 (by omega) (by omega) (by omega) fun h' tk hk => ?_)
    have hlo' : ∀ c ∈ [z, TO, i1, i2, S], ∀ c', lo ≤ c' → c' ≠ c := fun c hc c' h => Nat.ne_of_gt (Nat.lt_of_lt_of_le (hlo c hc) h)
    refine wpAny_pure (hR h' tk acc c Ts (fun c o c1 c2 c3 c4 _ e => hk c o c1 c2 c3 c4 e) (hk _ _ hSz hSTO hSi1 hSi2 hS) ?_)
    rw [← hin]
    exact M.frame fun c' o hc' e => hk c' o (hlo' _ (by simp) _ hc') (hlo' _ (by simp) _ hc') (hlo' _ (by simp) _ hc') (hlo' _ (by simp) _ hc') e
  | succ k ih =>
    intro i s acc c Ts a1 a2 hk hi hlo2 hz hTI hTO st1 st2 hS M hR
    have hlo' : ∀ c ∈ [z, TO, i1, i2, S], ∀ c', lo ≤ c' → c' ≠ c := fun c hc c' h => Nat.ne_of_gt (Nat.lt_of_lt_of_le (hlo c hc) h)
    have hi1 : i < xs.size := by omega
    have hi2 : i < ys.size := by omega
    refine codeAny_builtin F.entry_extend_loop ?_
    rw [Around.under_plainId F.plain_extend_loop _]
    show wpAny _ A.in1 (pyNext (.ref z) >>= _) _ _ s
    refine wpAny_bind (zipIn_item Z D1 D2 hz hTI hTO st1 st2 hi1 hi2 fun x1 x2 h' tk y1 y2 hz' hTO' d1 d2 hT hsz hk' => ?_)
    obtain ⟨b1, b2, hTO'⟩ := hTO'
    have hS' := hk' _ _ hSz hSTO hSi1 hSi2 hS
    have hacc : acc.size = i := by
      have := congrArg List.length M.acc
      rw [List.length_map, M.len, Array.length_toList] at this
      exact this
    show wpAny _ A.in1 (updateSeq S (·.push (.ref s.heap.objs.size)) >>= _) _ _ _
    refine wpAny_bind ?_
    refine wpAny_updateSeq hS' rfl (wpAny_pure ⟨plainId_quiet F.plain_extend_loop _, ?_⟩) (by rw [hacc]; omega) (by show (acc.push (.ref s.heap.objs.size)).size ≤ sizeLine + 1; rw [Array.size_push, hacc]; omega)
    have oth : ∀ b o, b ≠ S → h'.get? b = some o → (h'.update S (Obj.mapSeq (·.push (.ref s.heap.objs.size)))).get? b = some o := fun b o hb e => (Heap.get?_update_other _ _ (Ne.symm hb)).trans e
    have hS'' := Heap.get?_update_self (Obj.mapSeq (·.push (.ref s.heap.objs.size))) hS' rfl
    have hsz2 : (h'.update S (Obj.mapSeq (·.push (.ref s.heap.objs.size)))).objs.size = s.heap.objs.size + 1 := (Heap.SameBut.update ..).1.trans hsz
    have sub : ∀ b o, lo ≤ b → s.heap.get? b = some o → (h'.update S (Obj.mapSeq (·.push (.ref s.heap.objs.size)))).get? b = some o := fun b o hb e =>
      oth b o (hlo' _ (by simp) _ hb) (hk' b o (hlo' _ (by simp) _ hb) (hlo' _ (by simp) _ hb) (hlo' _ (by simp) _ hb) (hlo' _ (by simp) _ hb) e)
    refine ih (i + 1) { s with heap := h'.update S (Obj.mapSeq (·.push (.ref s.heap.objs.size))), toks := tk } (acc.push (.ref s.heap.objs.size)) _ (Ts ++ [s.heap.objs.size]) b1 b2 (by omega) (by omega) (by show lo ≤ (h'.update S _).objs.size; omega)
      (hz'.frame hSz.symm oth ⟨_, hS''⟩) (oth _ _ hSTI.symm (hk' _ _ Z.TIz Z.TITO Z.TIi1 Z.TIi2 hTI)) (oth _ _ hSTO.symm hTO') (D1.frame _ _ _ d1 fun b hb o e => oth b o (fun q => hS1 (q ▸ hb)) e) (D2.frame _ _ _ d2 fun b hb o e => oth b o (fun q => hS2 (q ▸ hb)) e) hS''
      ((M.frame sub).snoc hlo2 (fun T' hT' => by
        obtain ⟨j, hj⟩ := List.mem_iff_getElem?.mp hT'
        exact Nat.ne_of_lt (M.item j T' hj).2.1) y1 y2 (oth _ _ (hlo' _ (by simp) _ hlo2) hT)) ?_
    intro h2 tk2 acc2 c2 Ts2 hk2 hS2 M2
    exact hR h2 tk2 acc2 c2 Ts2 (fun c o q1 q2 q3 q4 q5 e => hk2 c o q1 q2 q3 q4 q5 (oth c o q5 (hk' c o q1 q2 q3 q4 e))) hS2 M2
end
theorem zip_no_len : typeLookup (.type "zip") "__len__" = pure none := by rw [typeLookup_type, builtinLookup_eq_fast]; kernel_rfl
theorem zip_no_hint : typeLookup (.type "zip") "__length_hint__" = pure none := by rw [typeLookup_type, builtinLookup_eq_fast]; kernel_rfl
section
variable {prog : Program} {w : World} {A : Around} {s : Shared} {R : Result → Shared → Prop} {z TI TO i1 i2 S : Addr} {fp1 fp2 : List Addr} {xs ys : Array Value} {St1 St2 : Nat → Heap → Prop} {lo : Nat} {a1 a2 : Value}
theorem zip_extend (Z : ZipSep2 z TI TO i1 i2 fp1 fp2) (D1 : Draws prog w A.in1.in1 i1 fp1 xs.size (fun i v => xs[i]? = some v) St1) (D2 : Draws prog w A.in1.in1 i2 fp2 ys.size (fun i v => ys[i]? = some v) St2)
    (hn : min xs.size ys.size ≤ sizeLine) (hS1 : S ∉ fp1) (hS2 : S ∉ fp2) (hSz : S ≠ z) (hSTI : S ≠ TI) (hSTO : S ≠ TO) (hlo : ∀ c ∈ [z, TO, i1, i2, S], c < lo) (res : Value) (c₀ : Nat) (hl : lo ≤ s.heap.objs.size)
    (hz : IsZip s.heap z TI TO .none) (hTI : IsTupOf2 s.heap TI (.ref i1) (.ref i2)) (hTO : IsTupOf2 s.heap TO a1 a2) (st1 : St1 0 s.heap) (st2 : St2 0 s.heap) (hS : s.heap.get? S = some { cls := .type "list", data := .seq #[] c₀ })
    (hR : ∀ h' tk acc' c' Ts', (∀ c o, c ≠ z → c ≠ TO → c ≠ i1 → c ≠ i2 → c ≠ S → s.heap.get? c = some o → h'.get? c = some o) → h'.get? S = some { cls := .type "list", dict := none, data := .seq acc' c', slots := #[] } → Made xs ys lo (min xs.size ys.size) h' acc' Ts' → R (.ok (.ret res)) { s with heap := h', toks := tk }) :
    wpAny (model prog w) A.in1 (Builtin.List.listExtendWith (.ref S) (.ref z) res)
      (fun fin s' => match fin with | .done f => R (.ok f) s' | .again c' => c'.quiet = true ∧ codeAny (model prog w) A c' R s') (fun e s' => R (.error e) s') s := by
  have hT : s.TypeIs (.ref z) "zip" := ⟨_, hz, rfl⟩
  unfold Builtin.List.listExtendWith
  refine wpAny_bind (wpAny_typeOf hT ?_)
  have h1 : Builtin.List.listSameRef (.ref S) (.ref z) = false := by simp [Builtin.List.listSameRef, hSz]
  have h2 : (Value.type "zip" == Value.type "list") = false := by decide
  have h3 : (Value.type "zip" == Value.type "tuple") = false := by decide
  simp only [h1, h2, h3, Bool.or_false, Bool.false_eq_true, if_false]
  refine wpAny_bind (wpAny_pyIter_zip hz ?_)
  refine wpAny_bind (wpAny_holding ?_)
  unfold Builtin.List.listLengthHint
  refine wpAny_bind (wpAny_specialOf hT zip_no_len ?_)
  show wpAny _ A.in1 (specialOf (Value.ref z) (Str.ofString "__length_hint__") >>= _) _ _ _
  refine wpAny_bind (wpAny_specialOf hT zip_no_hint ?_)
  refine wpAny_pure ?_
  show wpAny _ A.in1 (rule "list.extend.makes-room" >>= fun _ => Builtin.List.listTouch (.ref S) >>= fun _ =>
    again (.builtin "list.extend.loop" ⟨[.ref S, .ref z, res], []⟩)) _ _ _
  refine wpAny_bind (wpAny_rule ?_)
  refine wpAny_bind ?_
  show wpAny _ A.in1 (updateSeq S (·.push .none) >>= fun _ => updateSeq S (·.pop)) _ _ _
  refine wpAny_bind (wpAny_updateSeq hS rfl ?_)
  have hS₂ := Heap.get?_update_self (Obj.mapSeq (·.push Value.none)) hS rfl
  refine wpAny_updateSeq (hz := by seq_fits) hS₂ rfl ?_
  have hS₃ := Heap.get?_update_self (Obj.mapSeq (·.pop)) hS₂ rfl
  have oth : ∀ b o, b ≠ S → s.heap.get? b = some o → ((s.heap.update S (Obj.mapSeq (·.push Value.none))).update S (Obj.mapSeq (·.pop))).get? b = some o :=
    fun b o hb e => (Heap.get?_update_other _ _ (Ne.symm hb)).trans ((Heap.get?_update_other _ _ (Ne.symm hb)).trans e)
  have hsz : ((s.heap.update S (Obj.mapSeq (·.push Value.none))).update S (Obj.mapSeq (·.pop))).objs.size = s.heap.objs.size := (Heap.SameBut.update ..).1.trans (Heap.SameBut.update ..).1
  refine wpAny_pure ⟨plainId_quiet F.plain_extend_loop _, zip_loop Z D1 D2 hn hS1 hS2 hSz hSTI hSTO hlo res _ 0 _ _ _ [] a1 a2 rfl (Nat.zero_le _) (by show lo ≤ ((s.heap.update S _).update S _).objs.size; rw [hsz]; exact hl)
    (.inl ⟨rfl, oth _ _ hSz.symm hz⟩) (oth _ _ hSTI.symm hTI) (oth _ _ hSTO.symm hTO) (D1.frame _ _ _ st1 fun b hb o e => oth b o (fun q => hS1 (q ▸ hb)) e) (D2.frame _ _ _ st2 fun b hb o e => oth b o (fun q => hS2 (q ▸ hb)) e) hS₃
    ⟨rfl, rfl, List.nodup_nil, fun j T e => by cases e⟩ fun h' tk acc' c' Ts' hk hS' M => hR h' tk acc' c' Ts' (fun c o q1 q2 q3 q4 q5 e => hk c o q1 q2 q3 q4 q5 (oth c o q5 e)) hS' M⟩
theorem zip_init (Z : ZipSep2 z TI TO i1 i2 fp1 fp2) (D1 : Draws prog w A.in1.in1 i1 fp1 xs.size (fun i v => xs[i]? = some v) St1) (D2 : Draws prog w A.in1.in1 i2 fp2 ys.size (fun i v => ys[i]? = some v) St2)
    (hn : min xs.size ys.size ≤ sizeLine) (hS1 : S ∉ fp1) (hS2 : S ∉ fp2) (hSz : S ≠ z) (hSTI : S ≠ TI) (hSTO : S ≠ TO) (hlo : ∀ c ∈ [z, TO, i1, i2, S], c < lo) (hl : lo ≤ s.heap.objs.size)
    (hz : IsZip s.heap z TI TO .none) (hTI : IsTupOf2 s.heap TI (.ref i1) (.ref i2)) (hTO : IsTupOf2 s.heap TO a1 a2) (st1 : St1 0 s.heap) (st2 : St2 0 s.heap) (hS : s.heap.get? S = some { cls := .type "list", data := .seq #[] })
    (hR : ∀ h' tk acc' c' Ts', (∀ c o, c ≠ z → c ≠ TO → c ≠ i1 → c ≠ i2 → c ≠ S → s.heap.get? c = some o → h'.get? c = some o) → h'.get? S = some { cls := .type "list", dict := none, data := .seq acc' c', slots := #[] } → Made xs ys lo (min xs.size ys.size) h' acc' Ts' → R (.ok (.ret .none)) { s with heap := h', toks := tk }) :
    wpAny (model prog w) A.in1 (Builtin.«list.__init__» ⟨[.ref S, .ref z], []⟩)
      (fun fin s' => match fin with | .done f => R (.ok f) s' | .again c' => c'.quiet = true ∧ codeAny (model prog w) A c' R s') (fun e s' => R (.error e) s') s := by
  show wpAny _ A.in1 (do let old ← Builtin.List.listItems (.ref S); Builtin.List.listUpdate (.ref S) (fun _ => #[]); letGo old.toList.reverse; Builtin.List.listExtendWith (.ref S) (.ref z) .none) _ _ s
  refine wpAny_bind ?_
  unfold Builtin.List.listItems
  refine wpAny_bind (wpAny_seqItems hS rfl (wpAny_pure ?_))
  show wpAny _ A.in1 (updateSeq S (fun _ => #[]) >>= fun _ => letGo (#[] : Array Value).toList.reverse >>= fun _ => Builtin.List.listExtendWith (.ref S) (.ref z) .none) _ _ s
  refine wpAny_bind (wpAny_updateSeq hS rfl ?_)
  have hS₂ := Heap.get?_update_self (Obj.mapSeq (fun _ => (#[] : Array Value))) hS rfl
  have oth : ∀ b o, b ≠ S → s.heap.get? b = some o → (s.heap.update S (Obj.mapSeq (fun _ => (#[] : Array Value)))).get? b = some o :=
    fun b o hb e => (Heap.get?_update_other _ _ (Ne.symm hb)).trans e
  have hsz : (s.heap.update S (Obj.mapSeq (fun _ => (#[] : Array Value)))).objs.size = s.heap.objs.size := (Heap.SameBut.update ..).1
  refine wpAny_bind (wpAny_letGo ?_)
  exact zip_extend Z D1 D2 hn hS1 hS2 hSz hSTI hSTO hlo .none _ (by show lo ≤ (s.heap.update S _).objs.size; rw [hsz]; exact hl) (oth _ _ hSz.symm hz) (oth _ _ hSTI.symm hTI) (oth _ _ hSTO.symm hTO) (D1.frame _ _ _ st1 fun b hb o e => oth b o (fun q => hS1 (q ▸ hb)) e) (D2.frame _ _ _ st2 fun b hb o e => oth b o (fun q => hS2 (q ▸ hb)) e) hS₂
    fun h' tk acc' c' Ts' hk hS' M => hR h' tk acc' c' Ts' (fun c o q1 q2 q3 q4 q5 e => hk c o q1 q2 q3 q4 q5 (oth c o q5 e)) hS' M
end
section
variable {prog : Program} {w : World} {A : Around} {E : Value → Shared → Prop} {s : Shared} {z TI TO i1 i2 : Addr} {fp1 fp2 : List Addr} {xs ys : Array Value} {St1 St2 : Nat → Heap → Prop} {a1 a2 : Value}
theorem call_list_zip {Q : Value → Shared → Prop} (Z : ZipSep2 z TI TO i1 i2 fp1 fp2) (D1 : Draws prog w A.in1.in1.in1 i1 fp1 xs.size (fun i v => xs[i]? = some v) St1) (D2 : Draws prog w A.in1.in1.in1 i2 fp2 ys.size (fun i v => ys[i]? = some v) St2)
    (hn : min xs.size ys.size ≤ sizeLine) (hf1 : ∀ b ∈ fp1, b < s.heap.objs.size) (hf2 : ∀ b ∈ fp2, b < s.heap.objs.size)
    (hz : IsZip s.heap z TI TO .none) (hTI : IsTupOf2 s.heap TI (.ref i1) (.ref i2)) (hTO : IsTupOf2 s.heap TO a1 a2) (st1 : St1 0 s.heap) (st2 : St2 0 s.heap)
    (hQ : ∀ h' tk acc' c' Ts', (∀ c o, c ≠ z → c ≠ TO → c ≠ i1 → c ≠ i2 → s.heap.get? c = some o → h'.get? c = some o) → h'.get? s.heap.objs.size = some { cls := .type "list", dict := none, data := .seq acc' c', slots := #[] } → Made xs ys (s.heap.objs.size + 1) (min xs.size ys.size) h' acc' Ts' → Q (.ref s.heap.objs.size) { s with heap := h', toks := tk }) :
    wpAny (model prog w) A (call (.type "list") [.ref z]) Q E s := by
  refine callType_codes (Q₁ := fun obj s₁ => obj = .ref s.heap.objs.size ∧ s₁ = { s with heap := s.heap.push { cls := .type "list", data := .seq #[] } }) F.called_list (F.typeCall_list_1 _) F.entry_list_init
    (code_list_new _ ⟨rfl, rfl⟩) fun obj s₁ h₁ => ?_
  obtain ⟨rfl, rfl⟩ := h₁
  have hS : (s.heap.push { cls := .type "list", data := .seq #[] }).get? s.heap.objs.size = some { cls := .type "list", data := .seq #[] } := Heap.get?_push_size _ rfl
  have lt : ∀ {c o}, s.heap.get? c = some o → s.heap.objs.size ≠ c := fun e => Nat.ne_of_gt (Heap.lt_size e)
  refine ⟨⟨_, hS, rfl⟩, F.args_list_init_2 _ _, zip_init (lo := s.heap.objs.size + 1) Z D1 D2 hn (fun q => Nat.lt_irrefl _ (hf1 _ q)) (fun q => Nat.lt_irrefl _ (hf2 _ q)) (lt hz) (lt hTI) (lt hTO) ?_ (by show _ ≤ (s.heap.push _).objs.size; rw [Heap.size_push]; exact Nat.le_refl _)
    (Heap.get?_push_of_some _ hz) (Heap.get?_push_of_some _ hTI) (Heap.get?_push_of_some _ hTO) (D1.frame _ _ _ st1 fun b _ o e => Heap.get?_push_of_some _ e) (D2.frame _ _ _ st2 fun b _ o e => Heap.get?_push_of_some _ e) hS ?_⟩
  · intro c hc
    have hc' : c = z ∨ c = TO ∨ c = i1 ∨ c = i2 ∨ c = s.heap.objs.size := by simpa using hc
    rcases hc' with rfl | rfl | rfl | rfl | rfl
    · exact Nat.lt_succ_of_lt (Heap.lt_size hz)
    · exact Nat.lt_succ_of_lt (Heap.lt_size hTO)
    · exact Nat.lt_succ_of_lt (hf1 _ Z.mem1)
    · exact Nat.lt_succ_of_lt (hf2 _ Z.mem2)
    · exact Nat.lt_succ_self _
  · intro h' tk acc' c' Ts' hk hS' M
    exact ⟨rfl, hQ h' tk acc' c' Ts' (fun c o q1 q2 q3 q4 e => hk c o q1 q2 q3 q4 (lt e).symm (Heap.get?_push_of_some _ e)) hS' M⟩
end
end Pu


set_option linter.all false
set_option autoImplicit false
set_option maxRecDepth 100000
/-! PZ: list(zip(..)), at the machine. -/
namespace Pu
open PySem PySem.Spec PyProof.Rows L2
/-- pairs laid one behind the other -/
inductive LaidP : Hp → List V → List V → List Addr → Hp → Prop
  | nil_l {H ys} : LaidP H [] ys [] H
  | nil_r {H xs} : LaidP H xs [] [] H
  | cons {H H' T x y xs ys Ts} : H T = none → LaidP (upd H T (.tup [x, y])) xs ys Ts H' → LaidP H (x :: xs) (y :: ys) (T :: Ts) H'
theorem HOk.add {P : Program} {w : World} {H : Hp} {h : Heap} {a : Addr} {o : HO} (x : HOk P w H h) (hn : H a = none) (new : ObjOk P w (upd H a o) h a o) : HOk P w (upd H a o) h := fun b u e => by
  by_cases hb : b = a
  · subst hb; rw [upd_same] at e; cases e; exact new
  · rw [upd_ne hb] at e
    exact (x b u e).stay (fun c v _ q => q) (fun c q => by rw [upd_ne (ne_of_none q hn)]; exact q) fun c xs q => by rw [upd_ne (ne_of_none q hn)]; exact q
theorem Inv.grown {X : Cx} {pins : List (Addr × Obj)} {σ : L2.St} {H H' : Hp} {s : Shared} {h' : Heap} {t' : Nat} (I : Inv X pins σ H s) (k : ∀ b u, s.heap.get? b = some u → h'.get? b = some u) (low : ∀ b, b < s.heap.objs.size → H' b = H b) (hok : HOk X.prog X.w H' h') :
    Inv X pins σ H' { s with heap := h', toks := t' } := by
  have up : ∀ b u, H b = some u → H' b = some u := fun b u e => (low b (I.hok.lt e)).trans e
  exact I.un ⟨fun b u q _ _ _ => k b u q, fun b u q _ _ _ => ⟨u.slots, k b u q⟩, fun b u q n _ => (low b (Heap.lt_size q)).trans n, fun b u q _ => ⟨u, k b u q⟩, fun b xs q => up b _ q, fun b u xs q => up b _ q, fun b ps q => ⟨#[], by rw [up b _ q]; simp⟩⟩ hok
theorem laid_of {P : Program} {w : World} {h : Heap} {lo : Nat} : ∀ {Ts : List Addr} {H : Hp} {xs ys : List V} {its1 its2 : List Value}, HOk P w H h → Vals xs its1 → Vals ys its2 → Ts.length = min its1.length its2.length → Ts.Nodup → (∀ T ∈ Ts, H T = none) →
    (∀ (j : Nat) (T : Addr), Ts[j]? = some T → lo ≤ T ∧ ∃ x y, its1[j]? = some x ∧ its2[j]? = some y ∧ IsTupOf2 h T x y) → ∃ H', LaidP H xs ys Ts H' ∧ HOk P w H' h ∧ (∀ b, b < lo → H' b = H b) ∧ ∀ b, b ∉ Ts → H' b = H b
  | [], H, xs, ys, its1, its2, hok, r1, r2, hl, _, _, _ => by
    refine ⟨H, ?_, hok, fun _ _ => rfl, fun _ _ => rfl⟩
    cases r1 with
    | nil => exact .nil_l
    | cons a b =>
      cases r2 with
      | nil => exact .nil_r
      | cons c d => simp at hl
  | T :: Ts, H, xs, ys, its1, its2, hok, r1, r2, hl, nd, hf, hi => by
    cases r1 with
    | nil => simp at hl
    | cons a1 b1 =>
      cases r2 with
      | nil => simp at hl
      | cons a2 b2 =>
        rename_i x u1 xs us1 y u2 ys us2
        obtain ⟨hT, x', y', e1, e2, tup⟩ := hi 0 T rfl
        cases e1
        cases e2
        have hn : H T = none := hf T (List.mem_cons_self ..)
        have new : ObjOk P w (upd H T (.tup [x, y])) h T (.tup [x, y]) := ⟨by show 2 ≤ sizeLine; decide, [u1, u2], .cons a1 (.cons a2 .nil), ⟨_, tup, rfl, _, rfl⟩⟩
        have nd' := List.nodup_cons.mp nd
        obtain ⟨H', l, k, low, oth⟩ := laid_of (lo := lo) (Ts := Ts) (HOk.add hok hn new) b1 b2 (by
          rw [List.length_cons, List.length_cons, List.length_cons] at hl
          omega) nd'.2 (fun T' hT' => by
            rw [upd_ne (fun q : T' = T => nd'.1 (q ▸ hT'))]
            exact hf T' (List.mem_cons_of_mem _ hT')) (fun j T' e => hi (j + 1) T' e)
        refine ⟨H', .cons hn l, k, fun b hb => ?_, fun b hb => ?_⟩
        · rw [low b hb, upd_ne (Nat.ne_of_lt (Nat.lt_of_lt_of_le hb hT))]
        · rw [oth b (fun q => hb (List.mem_cons_of_mem _ q)), upd_ne (fun q : b = T => hb (by rw [q]; exact List.mem_cons_self ..))]
/-- a list or a tuple, as zip takes it -/
structure Src (P : Program) (w : World) (h : Heap) (a : Addr) (its : List Value) : Prop where
  ex : ∃ (o : Obj) (Hh : Heap → Prop), Begins (.ref a) o Hh ∧ Hh h ∧ a < h.objs.size ∧ ∀ (A : Around) (it : Addr), A.handled = none → a ≠ it → ∃ St, Draws P w A it [it, a] its.toArray.size (fun i v => its.toArray[i]? = some v) St ∧ ∀ h', Hh h' → h'.get? it = some o → St 0 h'
theorem src_of {X : Cx} {pins : List (Addr × Obj)} {σ : L2.St} {H : Hp} {s : Shared} {a : Addr} {xs : List V} (I : Inv X pins σ H s) (h : SqL X.K H a xs ∨ SqT X.K H a xs) : ∃ its, Vals xs its ∧ Src X.prog X.w s.heap a its := by
  rcases h with h | h
  · obtain ⟨its, rv, p, _⟩ := I.list h
    refine ⟨its, rv, ⟨_, _, begins_list a its.toArray, p.isList, p.lt, fun A it hh hne => ⟨_, Draws.list hh it a hne its.toArray, fun h' q e => ⟨⟨_, e, rfl, rfl⟩, q⟩⟩⟩⟩
  · obtain ⟨its, rv, p, _⟩ := I.tuple h
    obtain ⟨o, ho, _⟩ := id p
    refine ⟨its, rv, ⟨_, _, begins_tuple a its.toArray, p, Heap.lt_size ho, fun A it hh hne => ⟨_, Draws.tuple hh it a hne its.toArray, fun h' q e => ⟨⟨_, e, rfl, rfl⟩, q⟩⟩⟩⟩
def tLZ (K : PySem.W.Frag) (ta : TA) : TE := fun σ H Q => ta σ H fun vs H1 => ∃ a b xs ys, vs = [.ref a, .ref b] ∧ (SqL K H1 a xs ∨ SqT K H1 a xs) ∧ (SqL K H1 b ys ∨ SqT K H1 b ys) ∧ min xs.length ys.length ≤ sizeLine ∧
  ∀ (Ts : List Addr) (p : Addr) (H' : Hp), LaidP H1 xs ys Ts H' → H' p = none → Q (.ref p) (upd H' p (.lst (Ts.map V.ref)))
theorem vals_refs : ∀ Ts : List Addr, Vals (Ts.map V.ref) (Ts.map Value.ref)
  | [] => .nil
  | T :: Ts => .cons rfl (vals_refs Ts)
theorem notMem2 {c x y : Nat} (h1 : c ≠ x) (h2 : c ≠ y) : c ∉ [x, y] := by simp [h1, h2]
theorem sep_new {N a b : Nat} (la : a < N) (lb : b < N) : ZipSep2 (N + 4) (N + 2) (N + 3) N (N + 1) [N, a] [N + 1, b] where
  TIz := Nat.ne_of_lt (by omega)
  TOz := Nat.ne_of_lt (by omega)
  TITO := Nat.ne_of_lt (by omega)
  TIi1 := Nat.ne_of_gt (by omega)
  mem1 := List.mem_cons_self ..
  zf1 := notMem2 (by omega) (by omega)
  Tf1 := notMem2 (by omega) (by omega)
  TIi2 := Nat.ne_of_gt (by omega)
  mem2 := List.mem_cons_self ..
  zf2 := notMem2 (by omega) (by omega)
  Tf2 := notMem2 (by omega) (by omega)
  sep1_2 := notMem2 (by omega) (by omega)
  sep2_1 := notMem2 (by omega) (by omega)
theorem mem2_lt {N c x y : Nat} (h1 : x < N) (h2 : y < N) (h : c ∈ [x, y]) : c < N := by
  rcases List.mem_cons.mp h with rfl | h
  · exact h1
  · rw [List.mem_singleton.mp h]; exact h2
theorem ne_add {c N : Nat} (k : Nat) (h : c < N) : c ≠ N + k := by omega
theorem ne_self {c N : Nat} (h : c < N) : c ≠ N := by omega
theorem le_of_add {N T : Nat} (k : Nat) (h : N + k ≤ T) : N ≤ T := by omega
theorem pe_listZip {X : Cx} {e e2 : Expr} {ta : TA} {p p2 pos pos2 : Pos} (hc : X.calm = true) (hg0 : Gl X "list") (hm0 : X.mg "list" = none) (hg : Gl X "zip") (hm : X.mg "zip" = none) (ha : PA X [e, e2] ta)
    (hs0 : starEach [.Call (.Name "zip" p2) [e, e2] [] pos2] X.env = (false, eval (.Call (.Name "zip" p2) [e, e2] [] pos2) X.env) :: starEach [] X.env := by rfl)
    (hs : starEach [e, e2] X.env = (false, eval e X.env) :: starEach [e2] X.env := by rfl) (hpl : (backTo pos2 (starEach [e2] X.env)).any (·.1) = false := by rfl) :
    PE X (.Call (.Name "list" p) [.Call (.Name "zip" p2) [e, e2] [] pos2] [] pos) (tLZ X.K ta) := by
  refine ⟨fun pins s σ H Q I h => ?_⟩
  refine Call_ (ld_blt I hg0 hm0 PyProof.Rows.boot_list (PyProof.Rows.callWith_type1 ?_ hs0 rfl))
  rw [hs0]
  show wpAny _ _ (spliced ((false, eval (.Call (.Name "zip" p2) [e, e2] [] pos2) X.env) :: backTo pos (starEach [] X.env))) _ _ s
  refine Calls.spliced_cons ?_
  refine Call_ (ld_blt I hg hm PyProof.Rows.boot_zip (PyProof.Rows.callWith_type1 (thn (ha.run pos2 pins s σ H _ I h) fun us s1 ⟨vs, H1, I1, r1, q1⟩ => ?_) hs hpl))
  obtain ⟨a, b, xs, ys, ex, hqx, hqy, hmin, q⟩ := q1
  subst ex
  cases r1 with
  | cons r rr =>
    cases rr with
    | cons r' rr =>
      cases rr
      cases r
      cases r'
      obtain ⟨its1, rv1, S1⟩ := src_of I1 hqx
      obtain ⟨its2, rv2, S2⟩ := src_of I1 hqy
      obtain ⟨o1, Hh1, B1, st1, la, D1⟩ := S1.ex
      obtain ⟨o2, Hh2, B2, st2, lb, D2⟩ := S2.ex
      have hh : X.A.in1.in1.in1.handled = none := I1.ok.hd hc
      refine zip_begins2 B1 B2 st1 st2 fun h1 hz hTI hTO e1 e2 hsz hk => ?_
      have nlt : ∀ {c o}, s1.heap.get? c = some o → c < s1.heap.objs.size := fun e => Heap.lt_size e
      have Z := sep_new la lb
      obtain ⟨StA, DA, bA⟩ := D1 X.A.in1.in1.in1 s1.heap.objs.size hh (ne_self la)
      obtain ⟨StB, DB, bB⟩ := D2 X.A.in1.in1.in1 (s1.heap.objs.size + 1) hh (ne_add 1 lb)
      refine Calls.spliced_nil ?_
      have l1 := rv1.length
      have l2 := rv2.length
      refine call_list_zip (s := { s1 with heap := h1 }) Z DA DB (by simp only [List.size_toArray]; omega) (fun c hcm => ?_) (fun c hcm => ?_) hz hTI hTO (bA _ (B1.keeps _ _ st1 hk) e1) (bB _ (B2.keeps _ _ st2 hk) e2) ?_
      · exact mem2_lt (N := h1.objs.size) (by omega) (Nat.lt_of_lt_of_le la (by omega)) hcm
      · exact mem2_lt (N := h1.objs.size) (by omega) (Nat.lt_of_lt_of_le lb (by omega)) hcm
      · intro h' tk acc' c' Ts hkeep hS M
        have k : ∀ c o, s1.heap.get? c = some o → h'.get? c = some o := fun c o e =>
          hkeep c o (ne_add 4 (nlt e)) (ne_add 3 (nlt e)) (ne_self (nlt e)) (ne_add 1 (nlt e)) (hk c o e)
        have hN : ({ s1 with heap := h1 } : Shared).heap.objs.size = s1.heap.objs.size + 5 := hsz
        rw [hN] at hS M
        show EP X pins σ Q (.ref h1.objs.size) { s1 with heap := h', toks := tk }
        rw [hsz]
        obtain ⟨H', L, hok', low, oth⟩ := laid_of (lo := s1.heap.objs.size) (Ts := Ts) (I1.hok.kept k) rv1 rv2 (by rw [M.len]; simp only [List.size_toArray]) M.nd (fun T hT => by
          obtain ⟨i, hi⟩ := List.mem_iff_getElem?.mp hT
          exact I1.hok.fresh (le_of_add 6 (M.item i T hi).1)) (fun i T e => by
          obtain ⟨a1, _, x, y, hx, hy, hT⟩ := M.item i T e
          exact ⟨le_of_add 6 a1, x, y, by simpa using hx, by simpa using hy, hT⟩)
        have hn : H' (s1.heap.objs.size + 5) = none := by
          rw [oth _ fun hT => ?_]
          · exact I1.hok.fresh (Nat.le_add_right _ _)
          · obtain ⟨i, hi⟩ := List.mem_iff_getElem?.mp hT
            exact Nat.not_succ_le_self _ (M.item i _ hi).1
        have hlen : (Ts.map V.ref).length ≤ sizeLine := by
          rw [List.length_map, M.len]
          simp only [List.size_toArray]
          omega
        have r : Vals (Ts.map V.ref) acc'.toList := by
          rw [M.acc]
          exact vals_refs Ts
        have hok2 := HOk.add (o := .lst (Ts.map V.ref)) hok' hn ⟨hlen, acc'.toList, c', r, by rw [hS]⟩
        exact ⟨.ref (s1.heap.objs.size + 5), _, Inv.grown (s := s1) (t' := tk) I1 k (fun c hc => by rw [upd_ne (ne_add 5 hc)]; exact low c hc) hok2, rfl, q Ts _ H' L hn⟩

end Pu

set_option linter.all false
set_option autoImplicit false
set_option maxRecDepth 100000
set_option maxHeartbeats 1000000
/-! EvE: enumerate over a tuple. -/
namespace Pu
open PySem PySem.Spec PyProof.Rows L2
open AutoSeq1 (wpAny_loadPart')
theorem meets_enum1 {v : Value} {o : Obj} {H : Heap → Prop} (B : Begins v o H) :
    Meets (Builtin.«enumerate.__new__» ⟨[.type "enumerate", v], []⟩) (fun _ R s => H s.heap ∧
      R (.ok (.ret (.ref (s.heap.push o).objs.size))) { s with heap := (s.heap.push o).push { cls := .type "enumerate", data := .fields #[.none, .bool false, .ref s.heap.objs.size, rawInt 0, .none, .none] } }) :=
  .of_wp fun prog w A R s h => by
    obtain ⟨hp, g, d, tk, os⟩ := s; obtain ⟨h1, h⟩ := h
    have hsub := sub_enumerate
    have q1 : ∀ {A' : Around} {E : Value → Shared → Prop} {Q : Value → Shared → Prop}, Q (.ref hp.objs.size) ⟨hp.push o, g, d, tk, os⟩ → wpAny (model prog w) A' (pyIter v) Q E ⟨hp, g, d, tk, os⟩ :=
      fun q => B.iter prog w _ _ ⟨hp, g, d, tk, os⟩ _ h1 q
    wp_walk using q1
    refine wpAny_stack_any fun st => wpAny_pure ?_
    split
    · rename_i c _ _ _ _ _
      cases (c == Value.type "enumerate")
      · wp_walk using q1
        exact ⟨_, rfl, h⟩
      · wp_walk using q1
        exact ⟨_, rfl, h⟩
    · wp_walk using q1
      exact ⟨_, rfl, h⟩
section
variable {prog : Program} {w : World} {A : Around} {E : Value → Shared → Prop} {s : Shared}
theorem enum_begins1 {v : Value} {o : Obj} {H : Heap → Prop} {Q : Value → Shared → Prop} (B : Begins v o H) (h1 : H s.heap)
    (h : ∀ h', IsEnum h' (s.heap.objs.size + 1) s.heap.objs.size 0 .none → h'.get? s.heap.objs.size = some o → h'.objs.size = s.heap.objs.size + 2 →
      (∀ b o, s.heap.get? b = some o → h'.get? b = some o) → Q (.ref (s.heap.objs.size + 1)) { s with heap := h' }) :
    wpAny (model prog w) A (call (.type "enumerate") [v]) Q E s := by
  refine callType_new F.called_enumerate (by decide) (F.typeCall_enumerate_1 _) (F.newCall_enumerate_1 _) (fun obj => F.args_object_init_2 obj _) F.entry_enumerate_new
    (meets_enum1 B) ⟨h1, ?_⟩
  have hz : (s.heap.push o).objs.size = s.heap.objs.size + 1 := Heap.size_push ..
  show _ ∧ _
  rw [hz]
  have he : IsEnum ((s.heap.push o).push { cls := .type "enumerate", data := .fields #[.none, .bool false, .ref s.heap.objs.size, rawInt 0, .none, .none] }) (s.heap.objs.size + 1) s.heap.objs.size 0 .none := by
    have := Heap.get?_push_size (s.heap.push o) (o := { cls := .type "enumerate", data := .fields #[.none, .bool false, .ref s.heap.objs.size, rawInt 0, .none, .none] }) rfl
    rw [hz] at this; exact this
  refine ⟨⟨_, he, rfl⟩, h _ he (Heap.get?_push_of_some _ (Heap.get?_push_size _ B.free)) (by rw [Heap.size_push, hz]) fun b o x => Heap.get?_push_of_some _ (Heap.get?_push_of_some _ x)⟩
end
/-- a tuple's iterator at its end -/
theorem draws_end {prog : Program} {w : World} {A : Around} (hh : A.handled = none) (it t : Addr) (hne : t ≠ it) (items : Array Value) (i : Nat) (hx : items[i]? = none) :
    Draws prog w A it [it, t] i (fun _ _ => False) (fun j h => j = i ∧ h.IsTupleIter it t i ∧ h.IsTuple t items) where
  live := fun _ _ st => let ⟨o, ho, _⟩ := st.2.1; ⟨o, ho⟩
  frame := fun _ _ _ st hk => ⟨st.1, st.2.1.at fun o e => hk it (by simp) o e, st.2.2.at fun o e => hk t (by simp) o e⟩
  item := fun j s Q E hj st _ => absurd st.1 (Nat.ne_of_lt hj)
  done := fun s Q E st hE => RZ.nextOf_tuple_end hh st.2.1 st.2.2 hx hE
/-- the tuple at a, each item in a new pair -/
def IteT (K : PySem.W.Frag) (a : Addr) : It :=
  ⟨fun i H => ∃ (xs : List V) (x : V), SqT K H a xs ∧ xs[i]? = some x, fun i H v H' => ∃ T x, v = .ref T ∧ H T = none ∧ H' = upd H T (.tup [.int (i : Nat), x]) ∧ ∀ xs, SqT K H a xs → xs[i]? = some x, fun i H => ∃ xs : List V, SqT K H a xs ∧ xs.length ≤ i⟩
theorem turn_enumT {P : Program} {w : World} {K : PySem.W.Frag} {elts : List Expr} {kk : Nat} {tpos : Pos} (a e it : Addr) (hei : e ≠ it) (hea : e ≠ a) (hai : a ≠ it) :
    Turn P w K (.Tuple elts kk tpos) (IteT K a) [e, it] e (fun i h => (∃ old, IsEnum h e it ((i : Nat) : Int) old) ∧ h.IsTupleIter it a i) where
  mem := by simp
  obj := fun i h st b hb => by
    obtain ⟨⟨old, he⟩, ⟨o, ho, hc, hd⟩⟩ := st
    have e' : b = e ∨ b = it := by simpa using hb
    rcases e' with z | z
    · rw [z]; exact ⟨_, he, fun v q => nomatch q⟩
    · rw [z]; exact ⟨o, ho, fun v q => by rw [hd] at q; cases q⟩
  keep := fun i h h' st k => let ⟨⟨old, he⟩, hi⟩ := st; ⟨⟨old, k e (by simp) _ he⟩, hi.at fun o q => k it (by simp) o q⟩
  item := by
    intro X hP hw hK hc i pins s σ H E I hf st hg
    subst hP hw hK
    obtain ⟨⟨old, he⟩, hit⟩ := st
    obtain ⟨xs, x, hq, hx⟩ := hg
    obtain ⟨its, rv, p, hz⟩ := I.tuple hq
    obtain ⟨u, hu, ru⟩ := rv.get hx
    have hh : X.A.in1.handled = none := I.ok.hd hc
    have hel : e < s.heap.objs.size := Heap.lt_size he
    have hil : it < s.heap.objs.size := by obtain ⟨_, q, _⟩ := hit; exact Heap.lt_size q
    have hlt : i < its.toArray.size := by
      have := (List.getElem?_eq_some_iff.mp hu).1
      simpa using this
    refine wpAny_pyNext_enum_itemC (Draws.tuple hh it a hai its.toArray) he ⟨hit, p⟩ hlt hei (by simp [hei, hea]) fun x' h' tk hx' ho hst' hT hsz hk => ?_
    have ex : x' = u := by
      have hx'' : its[i]? = some x' := by simpa using hx'
      rw [hu] at hx''
      exact (Option.some.inj hx'').symm
    subst ex
    refine ⟨_, rfl, wpAny_letOwnedTupleGo_enum (s := { s with heap := h', toks := tk + 1 }) ho fun h'' he' sb => ?_⟩
    have hT2 : h''.get? s.heap.objs.size = some { cls := .type "tuple", data := .seq #[.int i tk, x'] } := (sb.2 _ (Nat.ne_of_gt hel)).trans hT
    have new : ObjOk X.prog X.w (upd H s.heap.objs.size (.tup [.int (i : Nat), x])) h'' s.heap.objs.size (.tup [.int (i : Nat), x]) :=
      ⟨by show 2 ≤ sizeLine; decide, [.int i tk, x'], .cons ⟨_, rfl⟩ (.cons ru .nil), ⟨_, hT2, rfl, _, rfl⟩⟩
    have I1 : Inv X pins σ (upd H s.heap.objs.size (.tup [.int (i : Nat), x])) { s with heap := h'', toks := tk + 1 } :=
      I.turnedNew (ch := [e, it]) (fun b ob hb q => (sb.2 b (fun z => hb (by simp [z]))).trans (hk b ob (fun z => hb (by simp [z])) (fun z => hb (by simp [z])) q)) hf (Nat.le_refl _) new
    refine ⟨.ref s.heap.objs.size, _, I1, rfl, ⟨_, x, rfl, I.hok.fresh (Nat.le_refl _), rfl, fun ys hy => by rw [I.tuple_inj hy hq]; exact hx⟩, ⟨⟨x', ?_⟩, hst'.1.at fun o q => (sb.2 it (Ne.symm hei)).trans q⟩, fun b hb => ?_⟩
    · have e1 : ((i + 1 : Nat) : Int) = (i : Int) + 1 := by omega
      rw [e1]; exact he'
    · have hb' : b < s.heap.objs.size := by
        have e' : b = e ∨ b = it := by simpa using hb
        rcases e' with z | z
        · rw [z]; exact hel
        · rw [z]; exact hil
      rw [upd_ne (Nat.ne_of_lt hb')]
      exact (hf b hb).1
  done := by
    intro X hP hw hK hc i pins s σ H E I hf st hg
    subst hP hw hK
    obtain ⟨⟨old, he⟩, hit⟩ := st
    obtain ⟨xs, hq, hx⟩ := hg
    obtain ⟨its, rv, p, hz⟩ := I.tuple hq
    obtain ⟨f0, f1, f2, f3, f4, f5⟩ := hf it (by simp)
    have hh : X.A.in1.handled = none := I.ok.hd hc
    have hl := rv.length
    exact wpAny_pyNext_enum_endD (draws_end hh it a hai its.toArray i (by simp; omega)) he ⟨rfl, hit, p⟩ fun h' eb => ⟨rfl, I.turned (t' := s.toks) (fun b o hb q => eb b o hb q) f0 f1 f3 f4 f5⟩
  self := fun A i s Q E st h => let ⟨⟨_, he⟩, _⟩ := st; wpAny_pyIter_enum he h
def iEnumA (K : PySem.W.Frag) (ta : TA) : TI := fun σ H R => ta σ H fun vs H1 => ∃ a xs, vs = [.ref a] ∧ ((SqL K H1 a xs ∧ R (Ite K a) H1) ∨ (SqT K H1 a xs ∧ R (IteT K a) H1))
theorem pi_enumA {X : Cx} {e : Expr} {ta : TA} {p pos tpos : Pos} {elts : List Expr} {kk : Nat} (hg : Gl X "enumerate") (hm : X.mg "enumerate" = none) (ha : PA X [e] ta) (hs : starEach [e] X.env = [(false, eval e X.env)] := by rfl) :
    PI X (.Tuple elts kk tpos) (.Call (.Name "enumerate" p) [e] [] pos) (iEnumA X.K ta) := by
  refine ⟨fun pins s σ H R I h => ?_⟩
  refine Call_ (ld_blt I hg hm boot_enumerate (PyProof.Rows.callWith_type1 (thn (ha.run pos pins s σ H _ I h) fun us s1 ⟨vs, H1, I1, r1, q1⟩ => ?_) hs rfl))
  obtain ⟨a, xs, ex, q1⟩ := q1
  subst ex
  cases r1 with
  | cons r rr =>
    cases rr
    cases r
    have fresh2 : ∀ b, b ∈ [s1.heap.objs.size + 1, s1.heap.objs.size] → FpOk X pins H1 b := fun b hb => by
      have e' : b = s1.heap.objs.size + 1 ∨ b = s1.heap.objs.size := by simpa using hb
      have hle : s1.heap.objs.size ≤ b := by
        rcases e' with z | z
        · rw [z]; exact Nat.le_add_right _ _
        · rw [z]; exact Nat.le_refl _
      exact I1.fpOk hle (I1.hok.fresh hle)
    rcases q1 with ⟨hq, q⟩ | ⟨hq, q⟩
    · obtain ⟨its, rv, p', hz⟩ := I1.list hq
      refine call_enumerate_list p'.isList fun h' he hit hsz hk => wpAny_pyIter_enum he ?_
      have I2 : Inv X pins σ H1 { s1 with heap := h' } := I1.kept (t' := s1.toks) hk
      exact ⟨s1.heap.objs.size + 1, [s1.heap.objs.size + 1, s1.heap.objs.size], _, _, H1, rfl, I2, turn_enum a (s1.heap.objs.size + 1) s1.heap.objs.size, ⟨⟨.none, he⟩, hit, Nat.succ_ne_self _⟩, fresh2, q⟩
    · obtain ⟨its, rv, p', hz⟩ := I1.tuple hq
      have la : a < s1.heap.objs.size := by obtain ⟨_, q, _⟩ := id p'; exact Heap.lt_size q
      refine enum_begins1 (begins_tuple a its.toArray) p' fun h' he hit hsz hk => wpAny_pyIter_enum he ?_
      have I2 : Inv X pins σ H1 { s1 with heap := h' } := I1.kept (t' := s1.toks) hk
      exact ⟨s1.heap.objs.size + 1, [s1.heap.objs.size + 1, s1.heap.objs.size], _, _, H1, rfl, I2, turn_enumT a (s1.heap.objs.size + 1) s1.heap.objs.size (Nat.succ_ne_self _) (Nat.ne_of_gt (Nat.lt_succ_of_lt la)) (Nat.ne_of_lt la), ⟨⟨.none, he⟩, ⟨_, hit, rfl, rfl⟩⟩, fresh2, q⟩
end Pu

set_option linter.all false
set_option autoImplicit false
set_option maxRecDepth 100000
set_option maxHeartbeats 4000000
/-! P13: sets that are sorted or counted, pairs, dicts. -/
namespace Pu
open PySem PySem.Spec PyProof.Rows L2
section
variable {cl : Cl} {W : WX} {C : Nat → List PV → St → Rz (PV × Bool)} {σ : L2.St} {H : Hp} {w : Vw}
theorem pK_back {xs : List PV} (k : ∀ p ∈ xs, KeyV p) : (xs.map pK).map kP = xs := by
  induction xs with
  | nil => rfl
  | cons x xs ih => rw [List.map_cons, List.map_cons, pK_kP (k x List.mem_cons_self), ih fun p hp => k p (List.mem_cons_of_mem _ hp)]
theorem insU_le (x : PV) : ∀ l : List PV, (insU x l).length ≤ l.length + 1
  | [] => Nat.le_refl _
  | y :: ys => by
    unfold insU
    split
    · exact Nat.le_refl _
    · split
      · rw [List.length_cons, List.length_cons]
        have := insU_le x ys
        omega
      · exact Nat.le_succ _
theorem usort_le {xs : List PV} : (usort xs).length ≤ xs.length := by
  have key : ∀ (xs acc : List PV), (xs.foldl (fun acc x => insU x acc) acc).length ≤ acc.length + xs.length := by
    intro xs
    induction xs with
    | nil => intro acc; exact Nat.le_refl _
    | cons x xs ih =>
      intro acc
      have := ih (insU x acc)
      have := insU_le x acc
      rw [List.foldl_cons, List.length_cons]
      omega
  have := key xs []
  rw [List.length_nil, Nat.zero_add] at this
  exact this
theorem keys_set {xs : List PV} {L : List Key} (sb : setable xs = true) (m : ∀ k, k ∈ L ↔ k ∈ xs.map pK) (nd : L.Nodup) : AlkL (L.map kP) ∧ (∀ y, y ∈ L.map kP ↔ y ∈ xs) ∧ (L.map kP).Nodup ∧ L.length ≤ xs.length := by
  obtain ⟨k1, k2, k3⟩ := setable_ok sb
  have mm : ∀ y, y ∈ L.map kP ↔ y ∈ xs := fun y => by
    constructor
    · intro h
      obtain ⟨k, hk, e⟩ := List.mem_map.mp h
      have := List.mem_map_of_mem (f := kP) ((m k).mp hk)
      rw [pK_back k1, e] at this
      exact this
    · intro h
      have : pK y ∈ xs.map pK := List.mem_map_of_mem h
      have := List.mem_map_of_mem (f := kP) ((m _).mpr this)
      rw [pK_kP (k1 y h)] at this
      exact this
  refine ⟨fun u hu v hv => k2 u ((mm u).mp hu) v ((mm v).mp hv), mm, ?_, ?_⟩
  · exact List.Pairwise.map kP (fun a b h z => h (kP_inj z)) nd
  · have h1 : (L.map kP).Nodup := List.Pairwise.map kP (fun a b h z => h (kP_inj z)) nd
    have := usort_length k2 (rfs_iff.mpr fun y hy => keyV_rf (k1 y hy)) mm h1
    rw [List.length_map] at this
    rw [this]
    exact usort_le
theorem seq_keys {p : PV} {xs : List PV} {v : V} (K : PySem.W.Frag) (h : seqL p = some xs) (sb : setable xs = true) (r : RW w p v) :
    ∃ a, v = .ref a ∧ (SqL K w.H a ((xs.map pK).map kV) ∨ SqT K w.H a ((xs.map pK).map kV)) ∧ (xs.map pK).length < 64 := by
  obtain ⟨a, vs, rfl, sq, rv⟩ := rv_seqL h r K
  obtain ⟨k1, k2, k3⟩ := setable_ok sb
  have e := keyVs k1 rv
  subst e
  exact ⟨a, rfl, sq.imp id SqT.of, by rw [List.length_map]; exact k3⟩
theorem rvs_kV : ∀ ks : List Key, RVs w (ks.map kP) (ks.map kV)
  | [] => .nil
  | x :: ks => .cons (by
    cases x with
    | inl i => exact rv_int' i
    | inr y => exact rv_str' _) (rvs_kV ks)
theorem w_sortedSet {K : PySem.W.Frag} {wd : World} {a : XE} {Q : VK} (h : tN cl W C (.blt .sortedSet (.cons a .nil)) σ H Q) : tCB (rSortM wd) (tCons (tCB (rSetM K wd) (tCons (tR cl W C a) tNil)) tNil) σ H Q := by
  obtain ⟨w, e, s, rfl, h2, x, h⟩ := h
  unfold pE pL pL at h
  rw [Rz.assoc] at h
  refine tG_then (tG_from (es := esc (.blt .sortedSet (.cons a .nil)) ++ bare (.blt .sortedSet (.cons a .nil))) (V1 := RW) (es1 := esc a) (f := pE C a) an_N (by intro i hi; simp only [esc, escL, bare, List.mem_append] at hi ⊢; grind) h2 x h) fun u H1 h => ?_
  obtain ⟨w1, p, s1, rfl, h2, g, x, hv, h⟩ := h
  obtain ⟨r, e, k⟩ := Goes.ofO (show Goes cl W VN σ Q w1 (ofO (bSortedSet [p]) s1) from h)
  unfold bSortedSet at e
  simp only at e
  cases q2 : seqL p with
  | none => simp only [q2] at e; cases e
  | some xs =>
    simp only [q2] at e
    obtain ⟨sb, z⟩ := ite_some e
    subst z
    obtain ⟨a, rfl, sq, l64⟩ := seq_keys K q2 sb hv
    refine ⟨a, xs.map pK, rfl, sq, l64, fun p L hp m nd => ?_⟩
    obtain ⟨al, mm, nd2, ll⟩ := keys_set sb m nd
    obtain ⟨k1, k2, k3⟩ := setable_ok sb
    have rf : rfs xs = true := rfs_iff.mpr fun y hy => keyV_rf (k1 y hy)
    refine ⟨p, L, rfl, upd_same, al, by omega, fun p2 ks hp2 e2 => ?_⟩
    rw [usort_of k2 rf mm nd2] at e2
    have R1 := x.rel.new (o := SetM wd p L) hp
    have mk : Makes (w1.upd p (SetM wd p L)) s1 (.lv (usort xs)) Q := fun w' u R g a b => k w' u R ((GrE.new hp).trans g) ⟨a, b.an (GrE.new hp)⟩
    exact mk.list R1 hp2 (by rw [← e2]; exact rvs_kV ks)
theorem w_lenSet {K : PySem.W.Frag} {wd : World} {a : XE} {Q : VK} (h : tN cl W C (.blt .lenSet (.cons a .nil)) σ H Q) : tCB (rLenM wd) (tCons (tCB (rSetM K wd) (tCons (tR cl W C a) tNil)) tNil) σ H Q := by
  obtain ⟨w, e, s, rfl, h2, x, h⟩ := h
  unfold pE pL pL at h
  rw [Rz.assoc] at h
  refine tG_then (tG_from (es := esc (.blt .lenSet (.cons a .nil)) ++ bare (.blt .lenSet (.cons a .nil))) (V1 := RW) (es1 := esc a) (f := pE C a) an_N (by intro i hi; simp only [esc, escL, bare, List.mem_append] at hi ⊢; grind) h2 x h) fun u H1 h => ?_
  obtain ⟨w1, p, s1, rfl, h2, g, x, hv, h⟩ := h
  obtain ⟨r, e, k⟩ := Goes.ofO (show Goes cl W VN σ Q w1 (ofO (bLenSet [p]) s1) from h)
  unfold bLenSet at e
  simp only at e
  cases q2 : seqL p with
  | none => simp only [q2] at e; cases e
  | some xs =>
    simp only [q2] at e
    obtain ⟨sb, z⟩ := ite_some e
    subst z
    obtain ⟨a, rfl, sq, l64⟩ := seq_keys K q2 sb hv
    refine ⟨a, xs.map pK, rfl, sq, l64, fun p L hp m nd => ?_⟩
    obtain ⟨al, mm, nd2, ll⟩ := keys_set sb m nd
    obtain ⟨k1, k2, k3⟩ := setable_ok sb
    have rf : rfs xs = true := rfs_iff.mpr fun y hy => keyV_rf (k1 y hy)
    refine ⟨p, L, rfl, upd_same, ?_⟩
    have e3 := usort_length k2 rf mm nd2
    rw [List.length_map] at e3
    rw [e3]
    exact k (w1.upd p (SetM wd p L)) _ (x.rel.new hp) (GrE.new hp) ⟨rv_int' _, frV_no rfl⟩
/-! pairs -/
theorem laid_rel {s : St} {H' : Hp} {vs ws : List V} {Ts : List Addr} (L : LaidP H vs ws Ts H') : ∀ {w : Vw} {xs ys : List PV}, w.H = H → Rel w s → RVs w xs vs → RVs w ys ws → ∃ w' : Vw, w'.H = H' ∧ Rel w' s ∧ GrE w w' ∧ RVs w' (zipP xs ys) (Ts.map V.ref) := by
  induction L with
  | nil_l =>
    intro w xs ys e R r1 r2
    cases xs with
    | nil => exact ⟨w, e, R, GrE.refl, .nil⟩
    | cons a b => obtain ⟨_, _, e, _⟩ := r1.inv; cases e
  | nil_r =>
    intro w xs ys e R r1 r2
    cases ys with
    | nil =>
      cases xs with
      | nil => exact ⟨w, e, R, GrE.refl, .nil⟩
      | cons a b => exact ⟨w, e, R, GrE.refl, .nil⟩
    | cons a b => obtain ⟨_, _, e, _⟩ := r2.inv; cases e
  | @cons H H' T x y vs' ws' Ts hn L ih =>
    intro w xs ys e R r1 r2
    subst e
    cases xs with
    | nil => have := r1.inv0; cases this
    | cons a xs =>
      cases ys with
      | nil => have := r2.inv0; cases this
      | cons b ys =>
        obtain ⟨u1, us1, e1, v1, t1⟩ := r1.inv
        obtain ⟨u2, us2, e2, v2, t2⟩ := r2.inv
        cases e1
        cases e2
        have G1 := GrE.new (w := w) hn (o := .tup [x, y])
        obtain ⟨w', e', R', G2, r⟩ := ih (w := w.upd T (.tup [x, y])) rfl (R.new hn) (t1.mo G1.gr _ _) (t2.mo G1.gr _ _)
        have hd : RV (w.upd T (.tup [x, y])) (.tup [a, b]) (.ref T) := RV.newT hn (.cons v1 (.cons v2 .nil))
        exact ⟨w', e', R', G1.trans G2, .cons (hd.mo G2.gr _ _) r⟩
theorem w_listZip {K : PySem.W.Frag} {es : XL} {Q : VK} (h : tN cl W C (.blt .listZip es) σ H Q) : tLZ K (tRs cl W C es) σ H Q := by
  obtain ⟨w, e, s, rfl, h2, x, h⟩ := h
  unfold pE at h
  refine tG_then (tG_from (es := esc (.blt .listZip es) ++ bare (.blt .listZip es)) (V1 := RWs) (es1 := escL es) (f := pL C es) an_N (by intro i hi; simp only [esc, bare, List.mem_append] at hi ⊢; grind) h2 x h) fun u H1 h => ?_
  obtain ⟨w1, ps, s1, rfl, h2, g, x, hv, h⟩ := h
  obtain ⟨r, e, k⟩ := h.ofO
  replace e : bListZip ps = some r := e
  unfold bListZip at e
  split at e
  · rename_i p q
    cases q2 : seqL p with
    | none => simp only [q2] at e; cases e
    | some xs =>
      simp only [q2] at e
      cases q3 : seqL q with
      | none => simp only [q3] at e; cases e
      | some ys =>
        simp only [q3] at e
        obtain ⟨c, z⟩ := ite_some e
        subst z
        obtain ⟨v1, v2, rfl, h1, h3⟩ := hv.two
        obtain ⟨a, vs, rfl, sq1, r1⟩ := rv_seqL q2 h1 K
        obtain ⟨b, ws, rfl, sq2, r2⟩ := rv_seqL q3 h3 K
        refine ⟨a, b, vs, ws, rfl, sq1.imp id SqT.of, sq2.imp id SqT.of, by rw [← r1.length, ← r2.length, ← line_eq]; exact c, fun Ts p H' L hp => ?_⟩
        obtain ⟨w', rfl, R', G, r3⟩ := laid_rel L rfl x.rel r1 r2
        have mk : Makes w' s1 (.lv (zipP xs ys)) Q := fun w2 u R g a b => k w2 u R (G.trans g) ⟨a, b.an G⟩
        exact mk.list R' hp r3
  · cases e
end

/-! ### dicts -/
theorem eqv_kP (a b : Key) : eqv (kP a) (kP b) = decide (a = b) := by
  cases a <;> cases b <;> unfold kP eqv
  · rename_i i j
    by_cases h : i = j
    · subst h; simp
    · have : ¬ (Sum.inl i : Key) = Sum.inl j := fun z => h (Sum.inl.inj z)
      simp [h, this]
  · simp
  · simp
  · rename_i x y
    obtain ⟨⟨x⟩⟩ := x
    obtain ⟨⟨y⟩⟩ := y
    by_cases h : x = y
    · subst h; simp
    · have : ¬ (Sum.inr ⟨⟨x⟩⟩ : Key) = Sum.inr ⟨⟨y⟩⟩ := fun z => h (by
        have := Sum.inr.inj z
        cases this
        rfl)
      simp [h, this]
theorem eqvs_kP : ∀ a b : List Key, eqvs (a.map kP) (b.map kP) = decide (a = b)
  | [], [] => by unfold eqvs; simp
  | [], _ :: _ => by rw [List.map_cons, List.map_nil]; unfold eqvs; simp
  | _ :: _, [] => by rw [List.map_cons, List.map_nil]; unfold eqvs; simp
  | a :: as, b :: bs => by
    rw [List.map_cons, List.map_cons]
    unfold eqvs
    rw [eqv_kP, eqvs_kP as bs]
    by_cases h1 : a = b <;> by_cases h2 : as = bs <;> simp [h1, h2]
theorem eqv_kPs (a b : List Key) : eqv (kPs a) (kPs b) = decide (a = b) := by
  unfold kPs eqv
  exact eqvs_kP a b
def OptR (w : Vw) (ov : Option V) (o : Option PV) : Prop := (o = none ∧ ov = none) ∨ ∃ p v, o = some p ∧ ov = some v ∧ RV w p v
section
variable {w : Vw} {κ : Type} [DecidableEq κ] {f : κ → PV}
theorem dct_get (hf : ∀ a b, eqv (f a) (f b) = decide (a = b)) (k : κ) : ∀ {l : List (κ × V)} {ws : List PV}, RVs w ws (l.map (·.2)) → OptR w (valV l k) (dget (f k) (l.map fun p => f p.1) ws)
  | [], ws, h => by
    unfold dget
    exact .inl ⟨rfl, rfl⟩
  | (a, v) :: l, ws, h => by
    cases ws with
    | nil => have := h.inv0; cases this
    | cons x ws =>
      obtain ⟨u, us, e, r1, r2⟩ := h.inv
      cases e
      rw [List.map_cons]
      unfold dget
      dsimp only
      rw [hf]
      by_cases c : a = k
      · rw [if_pos (decide_eq_true c), valV_pos c]
        exact .inr ⟨x, v, rfl, rfl, r1⟩
      · rw [if_neg (by simp [c]), valV_neg c]
        exact dct_get hf k r2
theorem dct_set (hf : ∀ a b, eqv (f a) (f b) = decide (a = b)) (k : κ) {p : PV} {v : V} (hp : RV w p v) : ∀ {l : List (κ × V)} {ws : List PV}, RVs w ws (l.map (·.2)) →
    RVs w (dset (f k) p (l.map fun p => f p.1) ws) ((l.map fun kv => if kv.1 = k then (kv.1, v) else kv).map (·.2))
  | [], ws, h => by
    cases ws with
    | nil => exact .nil
    | cons x ws => obtain ⟨_, _, e, _⟩ := h.inv; cases e
  | (a, u) :: l, ws, h => by
    cases ws with
    | nil => have := h.inv0; cases this
    | cons x ws =>
      obtain ⟨u, us, e, r1, r2⟩ := h.inv
      cases e
      rw [List.map_cons, List.map_cons, List.map_cons]
      unfold dset
      dsimp only
      rw [hf]
      by_cases c : a = k
      · rw [if_pos (decide_eq_true c), if_pos c]
        exact .cons hp (dct_set hf k hp r2)
      · rw [if_neg (by simp [c]), if_neg c]
        exact .cons r1 (dct_set hf k hp r2)
/-- d[k] = v -/
theorem dct_put (hf : ∀ a b, eqv (f a) (f b) = decide (a = b)) (k : κ) {p : PV} {v : V} (hp : RV w p v) {l : List (κ × V)} {ws : List PV} (h : RVs w ws (l.map (·.2))) (t : Bool) :
    ∃ ks' ws', dput (f k) p t (l.map fun p => f p.1) ws = .dv t ks' ws' ∧ ((putK l k v).map fun p => f p.1) = ks' ∧ RVs w ws' ((putK l k v).map (·.2)) := by
  have g := dct_get hf k h
  unfold dput putK
  rw [valV_any]
  have e : (dget (f k) (l.map fun p => f p.1) ws).isSome = (valV l k).isSome := by
    rcases g with ⟨g1, g2⟩ | ⟨q, w, g1, g2, _⟩ <;> rw [g1, g2] <;> rfl
  rw [e]
  by_cases c : (valV l k).isSome = true
  · rw [if_pos c, if_pos c]
    refine ⟨_, _, rfl, ?_, dct_set hf k hp h⟩
    rw [List.map_map]
    congr 1
    funext q
    show f (if q.1 = k then (q.1, v) else q).1 = f q.1
    split <;> rfl
  · rw [if_neg c, if_neg c]
    refine ⟨_, _, rfl, by rw [List.map_append]; rfl, ?_⟩
    rw [List.map_append]
    exact h.append (.cons hp .nil)
end
section
variable {w : Vw}
theorem keyK_ok {k : PV} (h : keyK k = true) : ∃ q, k = kP q := by
  cases k with
  | int i => exact ⟨.inl i, rfl⟩
  | str x => exact ⟨.inr ⟨⟨x⟩⟩, rfl⟩
  | _ => cases h
theorem rv_kP {q : Key} {y : V} (h : RW w (kP q) y) : y = kV q := by
  cases q with
  | inl i => exact rv_int h
  | inr x => obtain ⟨⟨x⟩⟩ := x; exact rv_str h
theorem keys_ok : ∀ {xs : List PV}, xs.all keyK = true → ∃ ks : List Key, xs = ks.map kP
  | [], _ => ⟨[], rfl⟩
  | x :: xs, h => by
    rw [List.all_cons, Bool.and_eq_true] at h
    obtain ⟨k, e⟩ := keyK_ok h.1
    obtain ⟨ks, es⟩ := keys_ok h.2
    exact ⟨k :: ks, by rw [e, es]; rfl⟩
theorem rvs_kP : ∀ {ks : List Key} {ys : List V}, RVs w (ks.map kP) ys → ys = ks.map kV
  | [], _, h => h.inv0
  | k :: ks, _, h => by
    obtain ⟨u, us, rfl, a, b⟩ := h.inv
    rw [rv_kP (.inl a), rvs_kP b]
    rfl
theorem keyOk_f {k : PV} (h : keyOk false k = true) : keyK k = true := by
  cases k <;> unfold keyOk at h <;> first | rfl | (simp at h; done) | exact h
theorem keyOk_t {k : PV} (h : keyOk true k = true) : ∃ ks : List Key, k = kPs ks := by
  cases k with
  | tup xs =>
    have h : (true && xs.all keyK) = true := h
    rw [Bool.true_and] at h
    obtain ⟨ks, rfl⟩ := keys_ok h
    exact ⟨ks, rfl⟩
  | _ => unfold keyOk at h; simp at h
/-- what is in a dict, at a key -/
theorem dctAt_ok {o k : PV} {x y : V} {t : Bool} {ks vs : List PV} (h : dctAt o k = some (t, ks, vs)) (ro : RW w o x) (rk : RW w k y) :
    ∃ a, x = .ref a ∧ IsD w.H a ∧ ∃ ov, DGet w.H a y ov ∧ OptR w ov (dget k ks vs) := by
  unfold dctAt at h
  split at h
  · rename_i t' ks' vs'
    obtain ⟨ck, e⟩ := ite_some h
    cases e
    obtain ⟨a, us, rfl, q, rr⟩ := rv_dv ro
    cases t with
    | false =>
      obtain ⟨l, hl, e1, e2⟩ := q
      obtain ⟨qk, rfl⟩ := keyK_ok (keyOk_f ck)
      have ey := rv_kP rk
      subst e1 e2
      exact ⟨a, rfl, .inl ⟨l, .inl hl⟩, _, .inl ⟨l, qk, .inl hl, ey, rfl⟩, dct_get eqv_kP qk rr⟩
    | true =>
      obtain ⟨l, hl, e1, e2⟩ := q
      obtain ⟨qk, rfl⟩ := keyOk_t ck
      obtain ⟨b, us', rfl, hb, rv⟩ := rv_tup rk
      cases rvs_kP rv
      subst e1 e2
      exact ⟨a, rfl, .inr ⟨l, .inl hl⟩, _, .inr ⟨l, qk, b, .inl hl, rfl, hb, rfl⟩, dct_get eqv_kPs qk rr⟩
  · cases h
end
section
variable {cl : Cl} {W : WX} {C : Nat → List PV → St → Rz (PV × Bool)} {σ : L2.St} {H : Hp}
theorem new_dct {w : Vw} {s : St} {t : Bool} {Q : VK} (k : Goes cl W VN σ Q w (.ok (.dv t [] []) s)) (R : Rel w s) {p : Addr} {o : HO} (ho : DctA (L2.upd w.H p o) p t [] []) (h : w.H p = none) : Q (.ref p) (L2.upd w.H p o) := by
  refine k (w.upd p o) _ (R.new h) (GrE.new h) ⟨?_, fun _ => ⟨p, rfl, h, R.notρ h, [], ho, .nil⟩⟩
  unfold RV
  exact ⟨p, [], rfl, ⟨R.notZ h, R.notρ h⟩, ho, .nil⟩
theorem w_dnewK {Q : VK} (h : tN cl W C (.dnew false) σ H Q) : tDNewK σ H Q := by
  obtain ⟨w, e, s, rfl, h2, x, h⟩ := h
  unfold pE at h
  exact fun p hp => new_dct h x.rel ⟨[], upd_same, rfl, rfl⟩ hp
theorem w_dnewT {Q : VK} (h : tN cl W C (.dnew true) σ H Q) : tDNewT σ H Q := by
  obtain ⟨w, e, s, rfl, h2, x, h⟩ := h
  unfold pE at h
  exact fun p hp => new_dct h x.rel ⟨[], upd_same, rfl, rfl⟩ hp
theorem w_dget {Q : VK} {o i : XE} (h : tV cl W C (.dget o i) σ H Q) : tDGet (tR cl W C o) (tR cl W C i) σ H Q := by
  have h' := tG_op (es := esc (.dget o i) ++ bare (.dget o i)) (V1 := RW) (V1' := RW) (es1 := esc o) (es2 := esc i) (fa := pE C o) (fb := pE C i) (op := fun x y s => match dctAt x y with
    | some d => ofO (dget y d.2.1 d.2.2) s
    | none => .no) an_V (fun _ _ a u g h => h.mo g) (by intro i hi; simp only [esc, bare, List.mem_append] at hi ⊢; grind) (by intro i hi; simp only [esc, bare, List.mem_append] at hi ⊢; grind) (by
    obtain ⟨w, e, s, h1, h2, x, h⟩ := h
    unfold pE at h
    exact ⟨w, e, s, h1, h2, x, h⟩)
  refine tG_then h' fun x H1 h => tG_then h fun y H2 h => ?_
  obtain ⟨w2, p, q, s2, rfl, h2, R, hp, hq, h⟩ := h
  cases q3 : dctAt p q with
  | none => simp only [q3] at h; exact h.elim
  | some d =>
    obtain ⟨t, ks, vs⟩ := d
    simp only [q3] at h
    obtain ⟨r, e, k⟩ := h.ofO
    obtain ⟨a, rfl, _, ov, g, og⟩ := dctAt_ok q3 hp hq
    have e : dget q ks vs = some r := e
    rw [e] at og
    rcases og with ⟨z, _⟩ | ⟨p', u, z, z2, ru⟩
    · cases z
    · cases z
      subst z2
      exact ⟨a, u, rfl, g, k w2 u R GrE.refl ru⟩
theorem w_din {Q : VK} {neg : Bool} {i o : XE} (h : tV cl W C (.din neg i o) σ H Q) : (if neg = true then tDNotIn (tR cl W C i) (tR cl W C o) σ H Q else tDIn (tR cl W C i) (tR cl W C o) σ H Q) := by
  have h' := tG_op (es := esc (.din neg i o) ++ bare (.din neg i o)) (V1 := RW) (V1' := RW) (es1 := esc i) (es2 := esc o) (fa := pE C i) (fb := pE C o) (op := fun y x s => match dctAt x y with
    | some d => .ok (.bl (neg != (dget y d.2.1 d.2.2).isSome)) s
    | none => .no) an_V (fun _ _ a u g h => h.mo g) (by intro i hi; simp only [esc, bare, List.mem_append] at hi ⊢; grind) (by intro i hi; simp only [esc, bare, List.mem_append] at hi ⊢; grind) (by
    obtain ⟨w, e, s, h1, h2, x, h⟩ := h
    unfold pE at h
    exact ⟨w, e, s, h1, h2, x, h⟩)
  have key : ∀ (y x : V) (H2 : Hp), (∃ (w2 : Vw) (a b : PV) (s2 : St), w2.H = H2 ∧ w2.cl = cl ∧ Rel w2 s2 ∧ RW w2 a y ∧ RW w2 b x ∧ Goes cl W VV σ Q w2 (match dctAt b a with
    | some d => .ok (.bl (neg != (dget a d.2.1 d.2.2).isSome)) s2
    | none => .no)) → ∃ a ov, x = .ref a ∧ DGet H2 a y ov ∧ Q (.bl (neg != ov.isSome)) H2 := by
    intro y x H2 h
    obtain ⟨w2, p, q, s2, rfl, h2, R, hp, hq, h⟩ := h
    cases q3 : dctAt q p with
    | none => simp only [q3] at h; exact h.elim
    | some d =>
      obtain ⟨t, ks, vs⟩ := d
      simp only [q3] at h
      obtain ⟨a, rfl, _, ov, g, og⟩ := dctAt_ok q3 hq hp
      have e3 : (dget p ks vs).isSome = ov.isSome := by
        rcases og with ⟨z, z2⟩ | ⟨p, u, z, z2, _⟩ <;> rw [z, z2] <;> rfl
      rw [e3] at h
      exact ⟨a, ov, rfl, g, h w2 _ R GrE.refl (rv_bl' _)⟩
  cases neg with
  | true =>
    rw [if_pos rfl]
    refine tG_then h' fun x H1 h => tG_then h fun y H2 h => ?_
    obtain ⟨a, ov, h1, h2, h3⟩ := key _ _ _ h
    refine ⟨a, ov, h1, h2, ?_⟩
    have : (true != ov.isSome) = !ov.isSome := by cases ov.isSome <;> rfl
    rw [this] at h3
    exact h3
  | false =>
    rw [if_neg Bool.false_ne_true]
    refine tG_then h' fun x H1 h => tG_then h fun y H2 h => ?_
    obtain ⟨a, ov, h1, h2, h3⟩ := key _ _ _ h
    refine ⟨a, ov, h1, h2, ?_⟩
    have : (false != ov.isSome) = ov.isSome := by cases ov.isSome <;> rfl
    rw [this] at h3
    exact h3
theorem dgetD_goes {Q : VK} {w : Vw} {x y z : PV} {s : St} {g : Bool × List PV × List PV → PV} (h : Goes cl W VV σ Q w (match dctAt x y with
    | some d => .ok (g d) s
    | none => .no)) : ∃ d, dctAt x y = some d ∧ Goes cl W VV σ Q w (.ok (g d) s) := by
  cases q : dctAt x y with
  | none => simp only [q] at h; exact h.elim
  | some d => simp only [q] at h; exact ⟨d, rfl, h⟩
end
end Pu

set_option linter.all false
set_option autoImplicit false
set_option maxRecDepth 100000
set_option maxHeartbeats 4000000
/-! P14: iterators. -/
namespace Pu
open PySem PySem.Spec PyProof.Rows L2 RZ
/-- J walks xs -/
structure JR (xs : List PV) (w : Vw) (J : It) : Prop where
  go : ∀ (i : Nat) (w2 : Vw) (s : St) (v : PV), Gr w w2 → Rel w2 s → xs[i]? = some v →
    J.go i w2.H ∧ ∀ x H', J.yld i w2.H x H' → ∃ w3 : Vw, w3.H = H' ∧ Rel w3 s ∧ GrE w2 w3 ∧ RV w3 v x
  stop : ∀ (i : Nat) (w2 : Vw), Gr w w2 → xs[i]? = none → J.stop i w2.H
abbrev VI : Vw → Vw → List PV → It → Prop := fun _ w' xs J => JR xs w' J
theorem an_I : An VI := fun _ _ _ _ _ _ h => h
abbrev tI (cl : Cl) (W : WX) (C : Nat → List PV → St → Rz (PV × Bool)) (x : XI) : TI := tG cl W VI (escI x ++ bareI x) (pI C x)
section
variable {K : PySem.W.Frag} {w : Vw}
theorem jr_list {xs : List PV} {a : Addr} (h : RV w (.lv xs) (.ref a)) : JR xs w (Itl K a) := by
  have key : ∀ w2, Gr w w2 → ∃ vs, SqL K w2.H a vs ∧ RVs w2 xs vs := fun w2 g => by
    obtain ⟨b, vs, e, q, r⟩ := rv_lv (.inl (h.mo g _ _))
    cases e
    exact ⟨vs, .inl q, r⟩
  refine ⟨fun i w2 s v g R e => ?_, fun i w2 g e => ?_⟩
  · obtain ⟨vs, sq, rv⟩ := key w2 g
    obtain ⟨x, hx, rx⟩ := rv.get e
    refine ⟨⟨vs, x, sq, hx⟩, fun y H' hy => ?_⟩
    obtain ⟨e, hy⟩ := hy
    subst e
    have := hy vs sq
    rw [hx] at this
    cases this
    exact ⟨w2, rfl, R, GrE.refl, rx⟩
  · obtain ⟨vs, sq, rv⟩ := key w2 g
    exact ⟨vs, sq, rv.get0 e⟩
theorem jr_tup {xs : List PV} {a : Addr} (h : RV w (.tup xs) (.ref a)) : JR xs w (Itt K a) := by
  have key : ∀ w2, Gr w w2 → ∃ vs, SqT K w2.H a vs ∧ RVs w2 xs vs := fun w2 g => by
    obtain ⟨b, vs, e, q, r⟩ := rv_tup (.inl (h.mo g _ _))
    cases e
    exact ⟨vs, SqT.of q, r⟩
  refine ⟨fun i w2 s v g R e => ?_, fun i w2 g e => ?_⟩
  · obtain ⟨vs, sq, rv⟩ := key w2 g
    obtain ⟨x, hx, rx⟩ := rv.get e
    refine ⟨⟨vs, x, sq, hx⟩, fun y H' hy => ?_⟩
    obtain ⟨e, hy⟩ := hy
    subst e
    have := hy vs sq
    rw [hx] at this
    cases this
    exact ⟨w2, rfl, R, GrE.refl, rx⟩
  · obtain ⟨vs, sq, rv⟩ := key w2 g
    exact ⟨vs, sq, rv.get0 e⟩
theorem jr_str {x : Sg} : JR (x.map fun c => .str [c]) w (Its ⟨⟨x⟩⟩) := by
  refine ⟨fun i w2 s v g R h => ?_, fun i w2 g h => ?_⟩
  · rw [List.getElem?_map] at h
    obtain ⟨c, hc, e⟩ := Option.map_eq_some_iff.mp h
    subst e
    have l := lt_of_get hc
    refine ⟨by show i < x.length; exact l, fun y H' hy => ?_⟩
    obtain ⟨e, d, hd, e2⟩ := hy
    subst e
    subst e2
    have hd : x[i]? = some d := by simpa using hd
    rw [hc] at hd
    cases hd
    exact ⟨w2, rfl, R, GrE.refl, rv_str' _⟩
  · rw [List.getElem?_map] at h
    cases q : x[i]? with
    | none => exact List.getElem?_eq_none_iff.mp q
    | some c => rw [q] at h; cases h
theorem rangeV_get {a b : Int} {i : Nat} : (rangeV a b)[i]? = if i < (b - a).toNat then some (.int (a + i)) else none := by
  unfold rangeV
  rw [List.getElem?_map]
  by_cases c : i < (b - a).toNat
  · rw [if_pos c, List.getElem?_range c]
    rfl
  · rw [if_neg c, List.getElem?_eq_none (by simpa using Nat.le_of_not_lt c)]
    rfl
theorem jr_range {a b : Int} : JR (rangeV a b) w (Itr a (b - a).toNat) := by
  refine ⟨fun i w2 s v g R h => ?_, fun i w2 g h => ?_⟩
  · rw [rangeV_get] at h
    by_cases c : i < (b - a).toNat
    · rw [if_pos c] at h
      cases h
      refine ⟨c, fun y H' hy => ?_⟩
      obtain ⟨e, hy⟩ := hy
      subst e
      subst hy
      exact ⟨w2, rfl, R, GrE.refl, rv_int' _⟩
    · rw [if_neg c] at h; cases h
  · rw [rangeV_get] at h
    by_cases c : i < (b - a).toNat
    · rw [if_pos c] at h; cases h
    · exact Nat.le_of_not_lt c
theorem enumV_get : ∀ {xs : List PV} {n i : Nat}, (enumV n xs)[i]? = (xs[i]?).map fun p => .tup [.int ((n + i : Nat) : Int), p]
  | [], _, _ => by simp [enumV]
  | x :: xs, n, 0 => rfl
  | x :: xs, n, i + 1 => by
    unfold enumV
    rw [List.getElem?_cons_succ, List.getElem?_cons_succ, enumV_get]
    congr 1
    funext p
    have : n + 1 + i = n + (i + 1) := by omega
    rw [this]
theorem jr_enum {xs : List PV} {a : Addr} (h : RV w (.lv xs) (.ref a)) : JR (enumV 0 xs) w (Ite K a) := by
  have key : ∀ w2, Gr w w2 → ∃ vs, SqL K w2.H a vs ∧ RVs w2 xs vs := fun w2 g => by
    obtain ⟨b, vs, e, q, r⟩ := rv_lv (.inl (h.mo g _ _))
    cases e
    exact ⟨vs, .inl q, r⟩
  refine ⟨fun i w2 s v g R e => ?_, fun i w2 g e => ?_⟩
  · rw [enumV_get] at e
    obtain ⟨p, ep, e2⟩ := Option.map_eq_some_iff.mp e
    subst e2
    rw [Nat.zero_add]
    obtain ⟨vs, sq, rv⟩ := key w2 g
    obtain ⟨x, hx, rx⟩ := rv.get ep
    refine ⟨⟨vs, x, sq, hx⟩, fun y H' hy => ?_⟩
    obtain ⟨T, x', e1, hT, e2, hy⟩ := hy
    subst e1
    subst e2
    have := hy vs sq
    rw [hx] at this
    cases this
    exact ⟨w2.upd T _, rfl, R.new hT, GrE.new hT, RV.newT hT (.cons (rv_int' _) (.cons rx .nil))⟩
  · rw [enumV_get] at e
    obtain ⟨vs, sq, rv⟩ := key w2 g
    cases z : xs[i]? with
    | some p => rw [z] at e; cases e
    | none => exact ⟨vs, sq, rv.get0 z⟩
theorem jr_enumT {xs : List PV} {a : Addr} (h : RV w (.tup xs) (.ref a)) : JR (enumV 0 xs) w (IteT K a) := by
  have key : ∀ w2, Gr w w2 → ∃ vs, SqT K w2.H a vs ∧ RVs w2 xs vs := fun w2 g => by
    obtain ⟨b, vs, e, q, r⟩ := rv_tup (.inl (h.mo g _ _))
    cases e
    exact ⟨vs, SqT.of q, r⟩
  refine ⟨fun i w2 s v g R e => ?_, fun i w2 g e => ?_⟩
  · rw [enumV_get] at e
    obtain ⟨p, ep, e2⟩ := Option.map_eq_some_iff.mp e
    subst e2
    rw [Nat.zero_add]
    obtain ⟨vs, sq, rv⟩ := key w2 g
    obtain ⟨x, hx, rx⟩ := rv.get ep
    refine ⟨⟨vs, x, sq, hx⟩, fun y H' hy => ?_⟩
    obtain ⟨T, x', e1, hT, e2, hy⟩ := hy
    subst e1
    subst e2
    have := hy vs sq
    rw [hx] at this
    cases this
    exact ⟨w2.upd T _, rfl, R.new hT, GrE.new hT, RV.newT hT (.cons (rv_int' _) (.cons rx .nil))⟩
  · rw [enumV_get] at e
    obtain ⟨vs, sq, rv⟩ := key w2 g
    cases z : xs[i]? with
    | some p => rw [z] at e; cases e
    | none => exact ⟨vs, sq, rv.get0 z⟩
theorem zipP_get : ∀ {xs ys : List PV} {i : Nat}, (zipP xs ys)[i]? = (match xs[i]?, ys[i]? with
    | some p, some q => some (.tup [p, q])
    | _, _ => none)
  | [], ys, i => by simp [zipP]
  | x :: xs, [], i => by
    unfold zipP
    cases (x :: xs)[i]? <;> simp
  | x :: xs, y :: ys, 0 => rfl
  | x :: xs, y :: ys, i + 1 => by
    unfold zipP
    rw [List.getElem?_cons_succ, List.getElem?_cons_succ, List.getElem?_cons_succ]
    exact zipP_get
theorem jr_zip {xs ys : List PV} {a b : Addr} (h : RV w (.lv xs) (.ref a)) (h' : RV w (.lv ys) (.ref b)) : JR (zipP xs ys) w (Itz K a b) := by
  have key : ∀ w2, Gr w w2 → ∃ vs ws, SqL K w2.H a vs ∧ SqL K w2.H b ws ∧ RVs w2 xs vs ∧ RVs w2 ys ws := fun w2 g => by
    obtain ⟨c, vs, e, q, r⟩ := rv_lv (.inl (h.mo g _ _))
    cases e
    obtain ⟨c, ws, e, q', r'⟩ := rv_lv (.inl (h'.mo g _ _))
    cases e
    exact ⟨vs, ws, .inl q, .inl q', r, r'⟩
  refine ⟨fun i w2 s v g R e => ?_, fun i w2 g e => ?_⟩
  · rw [zipP_get] at e
    cases z : xs[i]? with
    | none => rw [z] at e; cases e
    | some p =>
      rw [z] at e
      cases z' : ys[i]? with
      | none => rw [z'] at e; cases e
      | some p' =>
        rw [z'] at e
        cases e
        obtain ⟨vs, ws, sq, sq', rv, rv'⟩ := key w2 g
        obtain ⟨x, hx, rx⟩ := rv.get z
        obtain ⟨x', hx', rx'⟩ := rv'.get z'
        refine ⟨⟨vs, ws, x, x', sq, sq', hx, hx'⟩, fun y H' hy => ?_⟩
        obtain ⟨T, y1, y2, e1, hT, e2, hy1, hy2⟩ := hy
        subst e1
        subst e2
        have := hy1 vs sq
        rw [hx] at this
        cases this
        have := hy2 ws sq'
        rw [hx'] at this
        cases this
        exact ⟨w2.upd T _, rfl, R.new hT, GrE.new hT, RV.newT hT (.cons rx (.cons rx' .nil))⟩
  · rw [zipP_get] at e
    obtain ⟨vs, ws, sq, sq', rv, rv'⟩ := key w2 g
    cases z : xs[i]? with
    | none => exact ⟨vs, ws, sq, sq', .inl (rv.get0 z)⟩
    | some p =>
      rw [z] at e
      cases z' : ys[i]? with
      | some p' => rw [z'] at e; cases e
      | none => exact ⟨vs, ws, sq, sq', .inr (rv'.get0 z')⟩
theorem jr_zipT {xs ys : List PV} {a b : Addr} (h : RV w (.tup xs) (.ref a)) (h' : RV w (.tup ys) (.ref b)) : JR (zipP xs ys) w (ItzT K a b) := by
  have key : ∀ w2, Gr w w2 → ∃ vs ws, SqT K w2.H a vs ∧ SqT K w2.H b ws ∧ RVs w2 xs vs ∧ RVs w2 ys ws := fun w2 g => by
    obtain ⟨c, vs, e, q, r⟩ := rv_tup (.inl (h.mo g _ _))
    cases e
    obtain ⟨c, ws, e, q', r'⟩ := rv_tup (.inl (h'.mo g _ _))
    cases e
    exact ⟨vs, ws, SqT.of q, SqT.of q', r, r'⟩
  refine ⟨fun i w2 s v g R e => ?_, fun i w2 g e => ?_⟩
  · rw [zipP_get] at e
    cases z : xs[i]? with
    | none => rw [z] at e; cases e
    | some p =>
      rw [z] at e
      cases z' : ys[i]? with
      | none => rw [z'] at e; cases e
      | some p' =>
        rw [z'] at e
        cases e
        obtain ⟨vs, ws, sq, sq', rv, rv'⟩ := key w2 g
        obtain ⟨x, hx, rx⟩ := rv.get z
        obtain ⟨x', hx', rx'⟩ := rv'.get z'
        refine ⟨⟨vs, ws, x, x', sq, sq', hx, hx'⟩, fun y H' hy => ?_⟩
        obtain ⟨T, y1, y2, e1, hT, e2, hy1, hy2⟩ := hy
        subst e1
        subst e2
        have := hy1 vs sq
        rw [hx] at this
        cases this
        have := hy2 ws sq'
        rw [hx'] at this
        cases this
        exact ⟨w2.upd T _, rfl, R.new hT, GrE.new hT, RV.newT hT (.cons rx (.cons rx' .nil))⟩
  · rw [zipP_get] at e
    obtain ⟨vs, ws, sq, sq', rv, rv'⟩ := key w2 g
    cases z : xs[i]? with
    | none => exact ⟨vs, ws, sq, sq', .inl (rv.get0 z)⟩
    | some p =>
      rw [z] at e
      cases z' : ys[i]? with
      | some p' => rw [z'] at e; cases e
      | none => exact ⟨vs, ws, sq, sq', .inr (rv'.get0 z')⟩
/-! ### a list, a tuple, a text: known at the run -/
def iSeq (K : PySem.W.Frag) (te : TE) : TI := fun σ H R => te σ H fun x H1 => (∃ a, x = .ref a ∧ (∃ xs, SqL K H1 a xs) ∧ R (Itl K a) H1) ∨ (∃ a, x = .ref a ∧ (∃ xs, SqT K H1 a xs) ∧ R (Itt K a) H1) ∨ (∃ y, x = .str y ∧ R (Its y) H1)
theorem pi_seq {X : Cx} {tg e : Expr} {te : TE} (he : PE X e te) : PI X tg e (iSeq X.K te) := by
  refine ⟨fun pins s σ H R I h => ?_⟩
  refine thn (he.run pins s σ H _ I h) fun v s1 ⟨x, H1, I1, r1, q1⟩ => ?_
  have one : ∀ b ∈ [s1.heap.objs.size], FpOk X pins H1 b := fun b hb => by
    have e : b = s1.heap.objs.size := by simpa using hb
    subst e
    exact I1.fpOk (Nat.le_refl _) (I1.hok.fresh (Nat.le_refl _))
  rcases q1 with ⟨a, rfl, ⟨xs, hq⟩, q⟩ | ⟨a, rfl, ⟨xs, hq⟩, q⟩ | ⟨y, rfl, q⟩
  · cases r1
    obtain ⟨its, rv, p, hz⟩ := I1.list hq
    refine wpAny_pyIter_list p.isList ?_
    exact ⟨s1.heap.objs.size, [s1.heap.objs.size], _, _, H1, rfl, I1.kept (t' := s1.toks) fun b o e => Heap.get?_push_of_some _ e, turn_list a _, ⟨_, Heap.get?_push_size _ rfl, rfl, rfl⟩, one, q⟩
  · cases r1
    obtain ⟨its, rv, p, hz⟩ := I1.tuple hq
    refine wpAny_pyIter_tuple (show s1.heap.IsTuple a its.toArray from p) ?_
    exact ⟨s1.heap.objs.size, [s1.heap.objs.size], _, _, H1, rfl, I1.kept (t' := s1.toks) fun b o e => Heap.get?_push_of_some _ e, turn_tuple a _, ⟨_, Heap.get?_push_size _ rfl, rfl, rfl⟩, one, q⟩
  · obtain ⟨t, rfl⟩ := r1
    cases ha : y.cps.all (· < 128)
    · exact wpAny_pyIter_wide ha (pi_one (tk := s1.toks) I1 _ (turn_str _ y t "str_iterator" (.inr rfl)) ⟨_, Heap.get?_push_size _ rfl, rfl, rfl⟩ q)
    · exact wpAny_pyIter_ascii ha (pi_one (tk := s1.toks) I1 _ (turn_str _ y t "str_ascii_iterator" (.inl rfl)) ⟨_, Heap.get?_push_size _ rfl, rfl, rfl⟩ q)
end
section
variable {cl : Cl} {W : WX} {C : Nat → List PV → St → Rz (PV × Bool)} {σ : L2.St} {H : Hp} {K : PySem.W.Frag}
theorem wi_seq {a : XE} {R : It → Hp → Prop} (h : tI cl W C (.seq a) σ H R) : iSeq K (tV cl W C a) σ H R := by
  obtain ⟨w, e, s, rfl, h2, x, h⟩ := h
  unfold pI at h
  refine tG_then (tG_from (es := escI (.seq a) ++ bareI (.seq a)) (V1 := RV) (es1 := esc a ++ bare a) (f := pE C a) an_I (by intro i hi; simp only [esc, escL, escO, escI, bare, bareL, bareI, List.mem_append] at hi ⊢; grind) h2 x h) fun u H1 h => ?_
  obtain ⟨w1, p, s1, rfl, h2, g, x, hv, h⟩ := h
  cases p with
  | tup xs =>
    obtain ⟨a, vs, rfl, sq, rv⟩ := rv_tup (.inl hv)
    exact .inr (.inl ⟨a, rfl, ⟨vs, SqT.of sq⟩, h w1 _ x.rel GrE.refl (jr_tup hv)⟩)
  | lv xs =>
    obtain ⟨a, vs, rfl, sq, rv⟩ := rv_lv (.inl hv)
    exact .inl ⟨a, rfl, ⟨vs, .inl sq⟩, h w1 _ x.rel GrE.refl (jr_list hv)⟩
  | str z =>
    cases rv_str (.inl hv)
    exact .inr (.inr ⟨_, rfl, h w1 _ x.rel GrE.refl jr_str⟩)
  | _ => exact h.elim
theorem intOk_iff {i : Int} (h : intOk i = true) : -(2 ^ 62) ≤ i ∧ i < 2 ^ 62 := by
  unfold intOk at h
  exact of_decide_eq_true h
theorem wi_rng {a : XE} {R : It → Hp → Prop} (h : tI cl W C (.rng a) σ H R) : iRng1 (tCons (tR cl W C a) tNil) σ H R := by
  obtain ⟨w, e, s, rfl, h2, x, h⟩ := h
  unfold pI at h
  refine tG_then (tG_from (es := escI (.rng a) ++ bareI (.rng a)) (V1 := RW) (es1 := esc a) (f := pE C a) an_I (by intro i hi; simp only [esc, escL, escO, escI, bare, bareL, bareI, List.mem_append] at hi ⊢; grind) h2 x h) fun u H1 h => ?_
  obtain ⟨w1, p, s1, rfl, h2, g, x, hv, h⟩ := h
  cases p with
  | int j =>
    dsimp only at h
    by_cases c : intOk j = true
    · rw [if_pos c] at h
      cases rv_int hv
      obtain ⟨c1, c2⟩ := intOk_iff c
      refine ⟨j, rfl, c1, c2, h w1 _ x.rel GrE.refl ?_⟩
      have := jr_range (w := w1) (a := 0) (b := j)
      rw [Int.sub_zero] at this
      exact this
    · rw [if_neg c] at h; exact h.elim
  | _ => exact h.elim
theorem wi_rng2 {a b : XE} {R : It → Hp → Prop} (h : tI cl W C (.rng2 a b) σ H R) : iRng2 (tCons (tR cl W C a) (tCons (tR cl W C b) tNil)) σ H R := by
  have h' := tG_op (es := escI (.rng2 a b) ++ bareI (.rng2 a b)) (V1 := RW) (V1' := RW) (es1 := esc a) (es2 := esc b) (fa := pE C a) (fb := pE C b) (op := fun x y s => match x, y with
    | .int i, .int j => if intOk i && intOk j then .ok (rangeV i j) s else .no
    | _, _ => .no) an_I (fun _ _ a u g h => h.mo g) (by intro i hi; simp only [esc, escL, escO, escI, bare, bareL, bareI, List.mem_append] at hi ⊢; grind) (by intro i hi; simp only [esc, escL, escO, escI, bare, bareL, bareI, List.mem_append] at hi ⊢; grind) (by
    obtain ⟨w, e, s, h1, h2, x, h⟩ := h
    unfold pI at h
    exact ⟨w, e, s, h1, h2, x, h⟩)
  clear h
  refine tG_then h' fun x H1 hA => tG_then hA fun y H2 hB => ?_
  clear hA h'
  obtain ⟨w2, p, q, s2, rfl, h2, R, hp, hq, h⟩ := hB
  cases p with
  | int i =>
    cases q with
    | int j =>
      dsimp only at h
      by_cases c : (intOk i && intOk j) = true
      · rw [if_pos c] at h
        cases rv_int hp
        cases rv_int hq
        obtain ⟨c1, c2⟩ := Bool.and_eq_true_iff.mp c
        obtain ⟨c3, c4⟩ := intOk_iff c1
        obtain ⟨c5, c6⟩ := intOk_iff c2
        exact ⟨i, j, rfl, ⟨c3, c4, c5, c6⟩, h w2 _ R GrE.refl jr_range⟩
      · rw [if_neg c] at h; exact h.elim
    | _ => exact h.elim
  | _ => exact h.elim
theorem wi_enum {a : XE} {R : It → Hp → Prop} (h : tI cl W C (.enum a) σ H R) : iEnumA K (tCons (tV cl W C a) tNil) σ H R := by
  obtain ⟨w, e, s, rfl, h2, x, h⟩ := h
  unfold pI at h
  refine tG_then (tG_from (es := escI (.enum a) ++ bareI (.enum a)) (V1 := RV) (es1 := esc a ++ bare a) (f := pE C a) an_I (by intro i hi; simp only [esc, escL, escO, escI, bare, bareL, bareI, List.mem_append] at hi ⊢; grind) h2 x h) fun u H1 h => ?_
  obtain ⟨w1, p, s1, rfl, h2, g, x, hv, h⟩ := h
  cases p with
  | tup xs =>
    obtain ⟨a, vs, rfl, sq, rv⟩ := rv_tup (.inl hv)
    exact ⟨a, vs, rfl, .inr ⟨SqT.of sq, h w1 _ x.rel GrE.refl (jr_enumT hv)⟩⟩
  | lv xs =>
    obtain ⟨a, vs, rfl, sq, rv⟩ := rv_lv (.inl hv)
    exact ⟨a, vs, rfl, .inl ⟨.inl sq, h w1 _ x.rel GrE.refl (jr_enum hv)⟩⟩
  | _ => exact h.elim
theorem wi_zip {a b : XE} {R : It → Hp → Prop} (h : tI cl W C (.zip a b) σ H R) : iZipA K (tCons (tV cl W C a) (tCons (tV cl W C b) tNil)) σ H R := by
  have h' := tG_op (es := escI (.zip a b) ++ bareI (.zip a b)) (V1 := RV) (V1' := RV) (es1 := esc a ++ bare a) (es2 := esc b ++ bare b) (fa := pE C a) (fb := pE C b) (op := fun x y s => match x, y with
    | .tup xs, .tup ys => .ok (zipP xs ys) s
    | .lv xs, .lv ys => .ok (zipP xs ys) s
    | _, _ => .no) an_I (fun _ _ a u g h => h.mo g.gr _ _) (by intro i hi; simp only [esc, escL, escO, escI, bare, bareL, bareI, List.mem_append] at hi ⊢; grind) (by intro i hi; simp only [esc, escL, escO, escI, bare, bareL, bareI, List.mem_append] at hi ⊢; grind) (by
    obtain ⟨w, e, s, h1, h2, x, h⟩ := h
    unfold pI at h
    exact ⟨w, e, s, h1, h2, x, h⟩)
  clear h
  refine tG_then h' fun x H1 hA => tG_then hA fun y H2 hB => ?_
  clear hA h'
  obtain ⟨w2, p, q, s2, rfl, h2, R, hp, hq, h⟩ := hB
  cases p with
  | tup xs =>
    cases q with
    | tup ys =>
      obtain ⟨a, vs, rfl, sq, rv⟩ := rv_tup (.inl hp)
      obtain ⟨b, ws, rfl, sq', rv'⟩ := rv_tup (.inl hq)
      exact ⟨a, b, vs, ws, rfl, .inr ⟨SqT.of sq, SqT.of sq', h w2 _ R GrE.refl (jr_zipT hp hq)⟩⟩
    | _ => exact h.elim
  | lv xs =>
    cases q with
    | lv ys =>
      obtain ⟨a, vs, rfl, sq, rv⟩ := rv_lv (.inl hp)
      obtain ⟨b, ws, rfl, sq', rv'⟩ := rv_lv (.inl hq)
      exact ⟨a, b, vs, ws, rfl, .inl ⟨.inl sq, .inl sq', h w2 _ R GrE.refl (jr_zip hp hq)⟩⟩
    | _ => exact h.elim
  | _ => exact h.elim
end
end Pu

set_option linter.all false
set_option autoImplicit false
set_option maxRecDepth 100000
set_option maxHeartbeats 4000000
/-! P15: targets, comprehensions. -/
namespace Pu
open PySem PySem.Spec PyProof.Rows L2
def gT (tg : TgE) : TG := fun v σ H Q => ∃ (w : Vw) (e : Env) (s : St) (es : List Nat) (p : PV) (e' : Env), w.H = H ∧ XR w s es e σ ∧ RV w p v ∧ asn tg p e = some e' ∧
  ∀ σ', XR w s (es ++ tg.slots) e' σ' → σ'.length = σ.length → (∀ j, j ∉ tg.slots → σ'[j]? = σ[j]?) → Q σ' H
def gTs (l : List TgE) : TGs := fun vs σ H Q => ∃ (w : Vw) (e : Env) (s : St) (es : List Nat) (ps : List PV) (e' : Env), w.H = H ∧ XR w s es e σ ∧ RVs w ps vs ∧ asns l ps e = some e' ∧
  ∀ σ', XR w s (es ++ TgE.slotsL l) e' σ' → σ'.length = σ.length → (∀ j, j ∉ TgE.slotsL l → σ'[j]? = σ[j]?) → Q σ' H
section
variable {σ : L2.St} {H : Hp} {w : Vw} {s : St} {e : Env} {es : List Nat}
theorem XR.set (x : XR w s es e σ) (i : Nat) {p : PV} {v : V} (h : RV w p v) : XR w s (es ++ [i]) (e.set i (some p)) (σ.set i (some v)) :=
  ⟨x.rel, by rw [List.length_set, List.length_set]; exact x.len, fun j q hq => by
    rw [List.getElem?_set] at hq ⊢
    by_cases z : i = j
    · subst z
      rw [if_pos rfl] at hq ⊢
      by_cases l : i < e.length
      · rw [if_pos l] at hq
        rw [if_pos (by rw [← x.len]; exact l)]
        cases hq
        exact ⟨v, rfl, .inl h, fun _ => h⟩
      · rw [if_neg l] at hq
        cases hq
    · rw [if_neg z] at hq ⊢
      obtain ⟨u, a, b, c⟩ := x.val j q hq
      refine ⟨u, a, b, fun m => c ?_⟩
      rcases List.mem_append.mp m with m | m
      · exact m
      · exact absurd (List.mem_singleton.mp m).symm z⟩
theorem g_nm {i : Nat} {v : V} {Q : L2.St → Hp → Prop} (h : gT (.nm i) v σ H Q) : gName i v σ H Q := by
  obtain ⟨w, e, s, es, p, e', rfl, x, hp, h, k⟩ := h
  unfold asn at h
  cases h
  refine k _ (x.set i hp) (by rw [List.length_set]) fun j hj => ?_
  unfold TgE.slots at hj
  exact List.getElem?_set_ne fun z => hj (by rw [z]; simp)
theorem g_nil {vs : List V} {Q : L2.St → Hp → Prop} (h : gTs [] vs σ H Q) : gNil vs σ H Q := by
  obtain ⟨w, e, s, es, ps, e', rfl, x, hp, h, k⟩ := h
  cases ps with
  | nil =>
    unfold asns at h
    cases h
    exact ⟨hp.inv0, k σ (x.sub fun i hi => by unfold TgE.slotsL at hi; simpa using hi) rfl fun _ _ => rfl⟩
  | cons p ps => unfold asns at h; cases h
theorem g_cons {t : TgE} {ts : List TgE} {vs : List V} {Q : L2.St → Hp → Prop} (h : gTs (t :: ts) vs σ H Q) : gCons (gT t) (gTs ts) vs σ H Q := by
  obtain ⟨w, e, s, es, ps, e', rfl, x, hp, h, k⟩ := h
  cases ps with
  | nil => unfold asns at h; cases h
  | cons p ps =>
    unfold asns at h
    obtain ⟨u, us, rfl, h1, h2⟩ := hp.inv
    cases q : asn t p e with
    | none => simp only [q] at h; cases h
    | some e1 =>
      simp only [q] at h
      refine ⟨u, us, rfl, w, e, s, es, p, e1, rfl, x, h1, q, fun σ1 x1 l1 f1 => ⟨w, e1, s, _, ps, e', rfl, x1, h2, h, fun σ2 x2 l2 f2 => ?_⟩⟩
      refine k σ2 (x2.sub fun i hi => by unfold TgE.slotsL at hi; rw [List.append_assoc]; exact hi) (l2.trans l1) fun j hj => ?_
      unfold TgE.slotsL at hj
      rw [f2 j fun z => hj (List.mem_append_right _ z), f1 j fun z => hj (List.mem_append_left _ z)]
theorem asns_len : ∀ (l : List TgE) (xs : List PV) (e e' : Env), asns l xs e = some e' → xs.length = l.length := by
  intro l
  induction l with
  | nil =>
    intro xs e e' h
    cases xs with
    | nil => rfl
    | cons _ _ => unfold asns at h; cases h
  | cons t ts ih =>
    intro xs e e' h
    cases xs with
    | nil => unfold asns at h; cases h
    | cons x xs =>
      unfold asns at h
      cases q : asn t x e with
      | none => simp only [q] at h; cases h
      | some e1 =>
        simp only [q] at h
        rw [List.length_cons, List.length_cons, ih xs e1 e' h]
theorem g_tp {K : PySem.W.Frag} {l : List TgE} {n : Nat} (hn : n = l.length) {v : V} {Q : L2.St → Hp → Prop} (h : gT (.tp l) v σ H Q) : gTup K n (gTs l) v σ H Q := by
  subst hn
  obtain ⟨w, e, s, es, p, e', rfl, x, hp, h, k⟩ := h
  cases p with
  | tup xs =>
    unfold asn at h
    obtain ⟨a, vs, rfl, sq, rv⟩ := rv_tup (.inl hp)
    refine ⟨a, vs, rfl, SqT.of sq, by rw [← rv.length]; exact asns_len l xs e e' h, w, e, s, es, xs, e', rfl, x, rv, h, fun σ1 x1 l1 f1 => k σ1 (x1.sub fun i hi => by unfold TgE.slots at hi; exact hi) l1 fun j hj => f1 j ?_⟩
    unfold TgE.slots at hj
    exact hj
  | _ => unfold asn at h; cases h
mutual
theorem asn_len : ∀ (tg : TgE) (p : PV) (e e' : Env), asn tg p e = some e' → e'.length = e.length
  | .nm i, p, e, e', h => by unfold asn at h; cases h; rw [List.length_set]
  | .tp l, p, e, e', h => by
    cases p <;> unfold asn at h <;> first | cases h | exact asns_len2 l _ e e' h
theorem asns_len2 : ∀ (l : List TgE) (ps : List PV) (e e' : Env), asns l ps e = some e' → e'.length = e.length
  | [], ps, e, e', h => by cases ps <;> unfold asns at h <;> cases h; rfl
  | t :: ts, ps, e, e', h => by
    cases ps with
    | nil => unfold asns at h; cases h
    | cons p ps =>
      unfold asns at h
      cases q : asn t p e with
      | none => simp only [q] at h; cases h
      | some e1 =>
        simp only [q] at h
        rw [asns_len2 ts ps e1 e' h, asn_len t p e e1 q]
end
mutual
theorem asn_out : ∀ (tg : TgE) (p : PV) (e e' : Env), asn tg p e = some e' → ∀ j, j ∉ tg.slots → e'[j]? = e[j]?
  | .nm i, p, e, e', h, j, hj => by
    unfold asn at h; cases h
    unfold TgE.slots at hj
    exact List.getElem?_set_ne fun z => hj (by rw [z]; simp)
  | .tp l, p, e, e', h, j, hj => by
    unfold TgE.slots at hj
    cases p <;> unfold asn at h <;> first | cases h | exact asns_out l _ e e' h j hj
theorem asns_out : ∀ (l : List TgE) (ps : List PV) (e e' : Env), asns l ps e = some e' → ∀ j, j ∉ TgE.slotsL l → e'[j]? = e[j]?
  | [], ps, e, e', h, j, _ => by cases ps <;> unfold asns at h <;> cases h; rfl
  | t :: ts, ps, e, e', h, j, hj => by
    unfold TgE.slotsL at hj
    cases ps with
    | nil => unfold asns at h; cases h
    | cons p ps =>
      unfold asns at h
      cases q : asn t p e with
      | none => simp only [q] at h; cases h
      | some e1 =>
        simp only [q] at h
        rw [asns_out ts ps e1 e' h j fun z => hj (List.mem_append_right _ z), asn_out t p e e1 q j fun z => hj (List.mem_append_left _ z)]
end

/-! ### comprehensions -/
theorem ite_f {P Q : Prop} (q : Q) : if false = true then P else Q := by rw [if_neg Bool.false_ne_true]; exact q
theorem ite_t {P Q : Prop} (q : P) : if true = true then P else Q := by rw [if_pos rfl]; exact q
theorem yes_t {P Q : Hp → Prop} (h : P H) : tYes σ H (fun b H3 => if b = true then P H3 else Q H3) := by show (if true = true then P H else Q H); rw [if_pos rfl]; exact h
theorem wipeE_length (e : Env) : ∀ is : List Nat, (wipeE e is).length = e.length
  | [] => rfl
  | i :: is => by unfold wipeE; rw [List.length_set]; exact wipeE_length e is
theorem XR.wipe2 (x : XR w s es e σ) (is : List Nat) : XR w s es (wipeE e is) (L2.wipe σ is) := by
  induction is with
  | nil => exact x
  | cons i is ih =>
    refine ⟨x.rel, by unfold wipeE L2.wipe; rw [List.length_set, List.length_set]; exact ih.len, fun j p h => ?_⟩
    unfold wipeE at h
    unfold L2.wipe
    rw [List.getElem?_set] at h ⊢
    by_cases z : i = j
    · subst z
      rw [if_pos rfl] at h
      split at h <;> cases h
    · rw [if_neg z] at h ⊢
      exact ih.val j p h
/-- slots outside vs are the same: the same when wiped -/
theorem wipe_eq {σ2 σ0 : L2.St} {is : List Nat} (hl : σ2.length = σ0.length) (h : ∀ j, j ∉ is → σ2[j]? = σ0[j]?) : L2.wipe σ2 is = L2.wipe σ0 is := by
  apply List.ext_getElem?
  intro j
  have key : ∀ (τ : L2.St) (is : List Nat), (L2.wipe τ is)[j]? = if j ∈ is then (if j < τ.length then some none else none) else τ[j]? := by
    intro τ is
    induction is with
    | nil => simp [L2.wipe]
    | cons i is ih =>
      unfold L2.wipe
      rw [List.getElem?_set, L2.wipe_length, ih]
      by_cases z : i = j
      · subst z; simp
      · have z' : ¬ j = i := fun q => z q.symm
        rw [if_neg z]
        simp only [List.mem_cons, z', false_or]
  rw [key, key, hl]
  by_cases z : j ∈ is
  · rw [if_pos z, if_pos z]
  · rw [if_neg z, if_neg z, h j z]
theorem wipe_idem {σ0 : L2.St} (is : List Nat) : L2.wipe (L2.wipe σ0 is) is = L2.wipe σ0 is := by
  refine wipe_eq (L2.wipe_length _ _) fun j hj => ?_
  induction is with
  | nil => rfl
  | cons i is ih =>
    unfold L2.wipe
    rw [List.getElem?_set_ne fun z => hj (by rw [z]; exact List.mem_cons_self)]
    exact ih fun z => hj (List.mem_cons_of_mem _ z)
theorem wipe_append (σ : L2.St) : ∀ a b : List Nat, L2.wipe σ (a ++ b) = L2.wipe (L2.wipe σ b) a
  | [], _ => rfl
  | x :: a, b => by
    show (L2.wipe σ (a ++ b)).set x none = (L2.wipe (L2.wipe σ b) a).set x none
    rw [wipe_append σ a b]
/-- .. where D, too, is hidden -/
abbrev Vw.hid (w : Vw) (D : Addr) : Vw := { w with Z := fun b => w.Z b ∨ b = D }
/-- the list at D grows: w the view without it, as it stood at wI -/
structure Hid (wI : Vw) (D : Addr) (w : Vw) (s : St) (acc : List PV) (av : List V) : Prop where
  gr : GrE wI w
  rel : Rel (w.hid D) s
  hD : w.H D = some (.lst av)
  out : D ∉ w.ρ
  rv : RVs (w.hid D) acc av
section
variable {wI w1 : Vw} {D : Addr} {s1 : St} {acc : List PV} {av : List V}
/-- back: the view without D -/
abbrev Vw.unhid (w1 : Vw) (Z : Addr → Prop) : Vw := { w1 with Z := Z }
theorem Hid.step (h : Hid wI D w s acc av) (g : GrE (w.hid D) w1) (R : Rel w1 s1) : Hid wI D (w1.unhid w.Z) s1 acc av ∧ (w1.unhid w.Z).hid D = w1 ∧ GrE w (w1.unhid w.Z) := by
  have e : (w1.unhid w.Z).hid D = w1 := by
    obtain ⟨c, r, z, H1⟩ := w1
    have := g.zE
    simp only at this
    subst this
    rfl
  have g1 : GrE w (w1.unhid w.Z) := ⟨g.cls, g.pre, g.all, g.imm, rfl, g.newρ, g.live⟩
  refine ⟨⟨h.gr.trans g1, by rw [e]; exact R, g.all D _ h.hD h.out, fun z => ?_, by rw [e]; exact h.rv.mo g.gr _ _⟩, e, g1⟩
  rcases g.newρ D z with q | q
  · exact h.out q
  · have q : w.H D = none := q
    rw [h.hD] at q; cases q
theorem Hid.gr0 (h : Hid wI D w s acc av) (h0 : wI.H D = none) : Gr wI (w.hid D) :=
  ⟨h.gr.cls, h.gr.pre, fun a o q h1 h2 => by
    obtain ⟨q1, q2, q3⟩ := h.gr.gr.keep a o q h1 h2
    refine ⟨q1, fun z => ?_, q3⟩
    rcases z with z | z
    · exact q2 z
    · exact ne_of_none q h0 z, h.gr.imm⟩
/-- the hidden list changes -/
theorem hid_upd (hD : w.H D = some (.lst av)) (out : D ∉ w.ρ) (o : HO) : Gr (w.hid D) ((w.upd D o).hid D) :=
  ⟨rfl, fun _ _ h => h, fun a u q h1 h2 => by
    have ne : a ≠ D := fun z => h1 (.inr z)
    exact ⟨by show L2.upd w.H D o a = _; rw [upd_ne ne]; exact q, h1, h2⟩, fun a u q i => by
    have ne : a ≠ D := fun z => by
      rw [z] at q
      have q : w.H D = some u := q
      rw [hD] at q
      cases q
      exact i
    show L2.upd w.H D o a = _
    rw [upd_ne ne]; exact q⟩
theorem Hid.add (h : Hid wI D w s acc av) (h0 : wI.H D = none) {p : PV} {v : V} (hv : RV (w.hid D) p v) : Hid wI D (w.upd D (.lst (av ++ [v]))) s (acc ++ [p]) (av ++ [v]) := by
  have g := hid_upd h.hD h.out (.lst (av ++ [v]))
  refine ⟨⟨h.gr.cls, h.gr.pre, fun a o q h1 => ?_, fun a o q i => ?_, h.gr.zE, h.gr.newρ, fun a q => ?_⟩, ⟨h.rel.len, h.rel.nd, fun n xs a h1 h2 => ?_, fun a z => ?_, h.rel.sh⟩, upd_same, h.out, (h.rv.append (.cons hv .nil)).mo g _ _⟩
  · show L2.upd w.H D _ a = _
    rw [upd_ne (ne_of_none q h0)]
    exact h.gr.all a o q h1
  · show L2.upd w.H D _ a = _
    rw [upd_ne (ne_of_none q h0)]
    exact h.gr.imm a o q i
  · have q : L2.upd w.H D (.lst (av ++ [v])) a = none := q
    by_cases e : a = D
    · rw [e, upd_same] at q; cases q
    · rw [upd_ne e] at q; exact h.gr.live a q
  · obtain ⟨vs, q, r⟩ := h.rel.pen n xs a h1 h2
    have ne : a ≠ D := fun z => h.out (z ▸ List.mem_of_getElem? h2)
    exact ⟨vs, (by show L2.upd w.H D _ a = _; rw [upd_ne ne]; exact q), r.mo g _ _⟩
  · by_cases e : a = D
    · exact ⟨_, by show L2.upd w.H D _ a = _; rw [e]; exact upd_same⟩
    · obtain ⟨o, q⟩ := h.rel.zin a z
      exact ⟨o, by show L2.upd w.H D _ a = _; rw [upd_ne e]; exact q⟩
theorem Hid.start (R : Rel wI s) (h0 : wI.H D = none) : Hid wI D (wI.upd D (.lst [])) s [] [] := by
  have g : Gr wI ((wI.upd D (.lst [])).hid D) := ⟨rfl, fun _ _ h => h, fun a o q h1 h2 => by
    have ne : a ≠ D := ne_of_none q h0
    refine ⟨by show L2.upd wI.H D _ a = _; rw [upd_ne ne]; exact q, fun z => ?_, h2⟩
    rcases z with z | z
    · exact h1 z
    · exact ne z, fun a o q _ => by
    show L2.upd wI.H D _ a = _
    rw [upd_ne (ne_of_none q h0)]; exact q⟩
  refine ⟨GrE.new h0, ⟨R.len, R.nd, fun n xs a h1 h2 => ?_, fun a z => ?_, R.sh⟩, upd_same, R.notρ h0, .nil⟩
  · obtain ⟨vs, q, r⟩ := R.pen n xs a h1 h2
    exact ⟨vs, (by show L2.upd wI.H D _ a = _; rw [upd_ne (ne_of_none q h0)]; exact q), r.mo g _ _⟩
  · rcases z with z | z
    · obtain ⟨o, q⟩ := R.zin a z
      exact ⟨o, by show L2.upd wI.H D _ a = _; rw [upd_ne (ne_of_none q h0)]; exact q⟩
    · exact ⟨_, by show L2.upd wI.H D _ a = _; rw [z]; exact upd_same⟩
theorem unhid_gr : Gr (w.hid D) w := ⟨rfl, fun _ _ h => h, fun a o q h1 h2 => ⟨q, fun z => h1 (.inl z), h2⟩, fun _ _ q _ => q⟩
theorem Rel.unhid (R : Rel (w.hid D) s) : Rel w s := ⟨R.len, R.nd, fun n xs a h1 h2 => by
  obtain ⟨vs, q, r⟩ := R.pen n xs a h1 h2
  exact ⟨vs, q, r.mo unhid_gr _ _⟩, fun a z => R.zin a (.inl z), R.sh⟩
/-- the list is done -/
theorem Hid.fin {Q : VK} (h : Hid wI D w s acc av) (h0 : wI.H D = none) (R0 : Rel wI s1) (k : ∀ w' u, Rel w' s → GrE wI w' → RV w' (.lv acc) u → FrV wI w' (.lv acc) u → Q u w'.H) : Q (.ref D) w.H := by
  refine k w _ h.rel.unhid h.gr ?_ fun _ => ⟨D, rfl, h0, h.out, av, h.hD, h.rv⟩
  unfold RV
  exact ⟨D, av, rfl, ⟨by rw [h.gr.zE]; exact R0.notZ h0, h.out⟩, .inl h.hD, h.rv.mo unhid_gr _ _⟩
end
end
section
variable {cl : Cl} {W : WX} {C : Nat → List PV → St → Rz (PV × Bool)} {σ : L2.St} {H : Hp}
abbrev W0 : WX := fun _ _ _ _ => False
theorem lcP_len {turn : PV → St → Rz (List PV)} : ∀ (xs acc : List PV) (s : St) (r : List PV) (s' : St), lcP turn xs acc s = .ok r s' → acc.length ≤ r.length
  | [], acc, s, r, s', h => by unfold lcP at h; cases h; exact Nat.le_refl _
  | x :: xs, acc, s, r, s', h => by
    unfold lcP at h
    cases q : turn x s with
    | no => simp only [q, Rz.bind] at h; cases h
    | ex c fs s2 => simp only [q, Rz.bind] at h; cases h
    | ok a s2 =>
      simp only [q, Rz.bind] at h
      have := lcP_len xs _ s2 r s' h
      rw [List.length_append] at this
      omega
/-- the tests of a clause -/
abbrev tTs (cl : Cl) (W : WX) (C : Nat → List PV → St → Rz (PV × Bool)) (x : XO) : TT := tG cl W VB (escO x) (pT C x)
theorem x_none {Q : Bool → Hp → Prop} (h : tTs cl W C .none σ H Q) : tYes σ H Q := by
  obtain ⟨w, e, s, rfl, h2, x, h⟩ := h
  unfold pT at h
  exact h w true x.rel GrE.refl rfl
theorem x_some {a : XE} {Q : Bool → Hp → Prop} (h : tTs cl W C (.some a) σ H Q) : tT cl W C a σ H Q := by
  obtain ⟨w, e, s, rfl, h2, x, h⟩ := h
  unfold pT at h
  exact ⟨w, e, s, rfl, h2, x.sub fun i hi => by unfold escO; exact hi, h⟩
theorem bind_ok {α β : Type} {r : Rz α} {f : α → St → Rz β} {b : β} {s : St} (h : r.bind f = .ok b s) : ∃ a s1, r = .ok a s1 ∧ f a s1 = .ok b s := by
  cases r with
  | no => cases h
  | ok a s1 => exact ⟨a, s1, rfl, h⟩
  | ex c fs s1 => cases h
/-- an expression that gives a value, no error -/
theorem tG_ok {α β : Type} {V : Vw → Vw → α → β → Prop} {es : List Nat} {f : Env → St → Rz α} {Q : β → Hp → Prop} {w : Vw} {e : Env} {s : St} {a : α} {s' : St} (hc : w.cl = cl) (x : XR w s es e σ) (h : f e s = .ok a s')
    (k : ∀ w' u, Rel w' s' → GrE w w' → V w w' a u → Q u w'.H) : tG cl W V es f σ w.H Q := ⟨w, e, s, rfl, hc, x, by rw [h]; exact k⟩
theorem w_lc {a : XE} {tg : TgE} {it : XI} {ifs : XO} {Q : VK} (h : tN cl W C (.lc a tg it ifs) σ H Q) : tLc (tI cl W C it) (gT tg) (tTs cl W0 C ifs) (tV cl W0 C a) tg.slots σ H Q := by
  obtain ⟨w, e, s, rfl, h2, x, h⟩ := h
  unfold pE at h
  refine tG_then (tG_from (es := esc (.lc a tg it ifs) ++ bare (.lc a tg it ifs)) (V1 := fun w xs J => JR xs w J) (es1 := escI it ++ bareI it) (f := pI C it) an_N (by intro i hi; simp only [esc, bare, List.mem_append] at hi ⊢; grind) h2 x h) fun J H1 h => ?_
  obtain ⟨wI, xs, sI, rfl, h2, g, x, jr, h⟩ := h
  intro D hD
  cases ql : lcP (lcTurn tg (wipeE e tg.slots) (fun σ s => pT C ifs σ s) (fun σ s => pE C a σ s)) xs [] sI with
  | no => rw [ql] at h; exact h.elim
  | ex c fs s2 => rw [ql] at h; exact h.elim
  | ok ol sF =>
    rw [ql] at h
    simp only [Rz.nox, Rz.bind] at h
    by_cases c : ol.length ≤ line
    · rw [if_pos c] at h
      refine ⟨fun i m H' => ∃ (w : Vw) (s : St) (acc : List PV) (av : List V), w.H = H' ∧ Hid wI D w s acc av ∧ lcP (lcTurn tg (wipeE e tg.slots) (fun σ s => pT C ifs σ s) (fun σ s => pE C a σ s)) (xs.drop i) acc s = .ok ol sF ∧ m = xs.length - i,
        ⟨xs.length, _, sI, [], [], rfl, Hid.start x.rel hD, ql, rfl⟩, ?_⟩
      intro i m H1 wh
      obtain ⟨w1, s1, acc, av, rfl, hd, h1, hm⟩ := wh
      cases qg : xs[i]? with
      | none =>
        have l := List.getElem?_eq_none_iff.mp qg
        rw [List.drop_eq_nil_of_le l] at h1
        unfold lcP at h1
        cases h1
        exact .inl ⟨jr.stop i (w1.hid D) (hd.gr0 hD) qg, hd.fin hD x.rel fun w' u R g r f => h w' u R g ⟨r, f⟩⟩
      | some v =>
        have l := lt_of_get qg
        have ed : xs.drop i = v :: xs.drop (i + 1) := by
          rw [List.drop_eq_getElem_cons l]
          congr 1
          rw [List.getElem?_eq_getElem l] at qg
          exact Option.some.inj qg
        rw [ed] at h1
        unfold lcP at h1
        obtain ⟨r, s2, qt, h1⟩ := bind_ok h1
        obtain ⟨g1, g2⟩ := jr.go i (w1.hid D) s1 v (hd.gr0 hD) hd.rel qg
        refine .inr ⟨g1, _, fun H' n => ⟨xs.length - (i + 1), by omega, n⟩, fun y H2 hy => ?_⟩
        obtain ⟨w2, rfl, R2, G2, rv2⟩ := g2 y H2 hy
        obtain ⟨hd2, e2, g12⟩ := hd.step G2 R2
        unfold lcTurn at qt
        cases qa : asn tg v (wipeE e tg.slots) with
        | none => simp only [qa] at qt; cases qt
        | some ea =>
          simp only [qa] at qt
          obtain ⟨b, s3, qT, qt⟩ := bind_ok qt
          have xw : XR w2 s1 (esc (.lc a tg it ifs) ++ bare (.lc a tg it ifs)) (wipeE e tg.slots) (L2.wipe σ tg.slots) := by
            have x1 : XR w2 s1 (esc (.lc a tg it ifs) ++ bare (.lc a tg it ifs)) e σ := by
              refine ⟨R2, x.len, fun j p hp => ?_⟩
              obtain ⟨u, u1, u2, u3⟩ := x.val j p hp
              have k1 := hd2.gr0 hD
              rw [e2] at k1
              refine ⟨u, u1, ?_, fun z => (u3 z).mo k1 _ _⟩
              rcases u2 with u2 | ⟨A, ea, hA⟩
              · exact .inl (u2.mo k1 _ _)
              · refine .inr ⟨A, ea, ?_⟩
                have o1 := OW.mo hd2.gr hA
                have hA1 := hA.1
                have neD : A ≠ D := fun z => by
                  subst z
                  cases p with
                  | lv xs => obtain ⟨_, vs, q, _⟩ := hA; rw [hD] at q; cases q
                  | dv t ks xs => obtain ⟨_, vs, q, _⟩ := hA; obtain ⟨o, q⟩ := dct_some q; rw [hD] at q; cases q
                  | _ => exact hA.2.elim
                obtain ⟨o2, o3⟩ := o1
                refine ⟨o2, ?_⟩
                cases p with
                | lv xs =>
                  obtain ⟨_, vs, q, rr⟩ := hA
                  obtain ⟨vs', q', _⟩ := o3
                  have q2 := hd2.gr.all A _ q hA1
                  have q' : w2.H A = some (.lst vs') := q'
                  have q2 : w2.H A = some (.lst vs) := q2
                  exact ⟨vs, q2, rr.mo k1 _ _⟩
                | dv t ks xs =>
                  obtain ⟨_, vs, q, rr⟩ := hA
                  exact ⟨vs, dct_same q fun o ho => hd2.gr.all A o ho hA1, rr.mo k1 _ _⟩
                | _ => exact hA.2.elim
            exact x1.wipe2 tg.slots
          refine ⟨w2, wipeE e tg.slots, s1, _, v, ea, rfl, xw, rv2, qa, fun σ2 x2 l2 f2 => ⟨?_, ?_⟩⟩
          · rw [wipe_eq l2 f2, wipe_idem]
          · have c2 : w2.cl = cl := by
              have := hd2.gr.cls
              exact this.trans h2
            refine tG_ok c2 (x2.sub fun i hi => ?_) qT fun w3 b' R3 G3 eb => ?_
            · simp only [esc, bare, List.mem_append] at hi ⊢; grind
            · have eb : b = b' := eb
              subst eb
              rw [← e2] at G3
              obtain ⟨hd3, e3, g23⟩ := hd2.step G3 R3
              have hd3 : Hid wI D (w3.unhid w1.Z) s3 acc av := hd3
              cases b with
              | false =>
                refine ite_f ?_
                rw [if_neg Bool.false_ne_true] at qt
                cases qt
                rw [List.append_nil] at h1
                exact ⟨w3.unhid w1.Z, _, acc, av, rfl, hd3, h1, rfl⟩
              | true =>
                refine ite_t ?_
                rw [if_pos rfl] at qt
                obtain ⟨v4, s4, qe, qt⟩ := bind_ok qt
                cases qt
                have x3 := x2.mo (by rw [e2] at G3; exact G3) R3
                refine tG_ok ((by rw [e2] at G3; exact G3.cls : w3.cl = w2.cl).trans c2) (x3.sub fun i hi => ?_) qe fun w4 u R4 G4 rv4 => ?_
                · simp only [esc, bare, List.mem_append] at hi ⊢; grind
                · rw [← e3] at G4
                  obtain ⟨hd4, e4, g34⟩ := hd3.step G4 R4
                  have ll := lcP_len _ _ _ _ _ h1
                  rw [List.length_append] at ll
                  refine ⟨av, hd4.hD, ?_, _, _, acc ++ [v4], av ++ [u], rfl, hd4.add hD (by rw [e4]; exact rv4), h1, rfl⟩
                  have := hd4.rv.length
                  have e3 : line = sizeLine := line_eq
                  simp only [List.length_cons, List.length_nil] at ll
                  omega
    · rw [if_neg c] at h; exact h.elim
end
end Pu

set_option linter.all false
set_option autoImplicit false
set_option maxRecDepth 100000
set_option maxHeartbeats 4000000
/-! P16: comprehensions of two clauses. -/
namespace Pu
open PySem PySem.Spec PyProof.Rows L2
theorem xr_hid {wI w : Vw} {D : Addr} {sI s : St} {acc : List PV} {av : List V} {es : List Nat} {e : Env} {σ : L2.St} (x : XR wI sI es e σ) (hd : Hid wI D w s acc av) (hD : wI.H D = none) : XR (w.hid D) s es e σ := by
  refine ⟨hd.rel, x.len, fun j p hp => ?_⟩
  obtain ⟨u, u1, u2, u3⟩ := x.val j p hp
  have k1 := hd.gr0 hD
  refine ⟨u, u1, ?_, fun z => (u3 z).mo k1 _ _⟩
  rcases u2 with u2 | ⟨A, ea, hA⟩
  · exact .inl (u2.mo k1 _ _)
  · refine .inr ⟨A, ea, ?_⟩
    have o1 := OW.mo hd.gr hA
    have hA1 := hA.1
    refine ⟨o1.1, ?_⟩
    cases p with
    | lv xs =>
      obtain ⟨_, vs, q, rr⟩ := hA
      exact ⟨vs, hd.gr.all A _ q hA1, rr.mo k1 _ _⟩
    | dv t ks xs =>
      obtain ⟨_, vs, q, rr⟩ := hA
      exact ⟨vs, dct_same q fun o ho => hd.gr.all A o ho hA1, rr.mo k1 _ _⟩
    | _ => exact hA.2.elim
theorem wipeE_get {e : Env} : ∀ {is : List Nat} {j : Nat} {p : PV}, (wipeE e is)[j]? = some (some p) → e[j]? = some (some p) ∧ j ∉ is
  | [], _, _, h => ⟨h, fun z => nomatch z⟩
  | i :: is, j, p, h => by
    unfold wipeE at h
    rw [List.getElem?_set] at h
    by_cases z : i = j
    · subst z
      rw [if_pos rfl] at h
      split at h <;> cases h
    · rw [if_neg z] at h
      obtain ⟨a, b⟩ := wipeE_get h
      exact ⟨a, fun q => by
        rcases List.mem_cons.mp q with q | q
        · exact z q.symm
        · exact b q⟩
theorem wipe_get {σ : L2.St} : ∀ {is : List Nat} {j : Nat} {p : V}, (L2.wipe σ is)[j]? = some (some p) → σ[j]? = some (some p) ∧ j ∉ is
  | [], _, _, h => ⟨h, fun z => nomatch z⟩
  | i :: is, j, p, h => by
    unfold L2.wipe at h
    rw [List.getElem?_set] at h
    by_cases z : i = j
    · subst z
      rw [if_pos rfl] at h
      split at h <;> cases h
    · rw [if_neg z] at h
      obtain ⟨a, b⟩ := wipe_get h
      exact ⟨a, fun q => by
        rcases List.mem_cons.mp q with q | q
        · exact z q.symm
        · exact b q⟩
/-- a value's object stands -/
theorem alive {w : Vw} {s : St} {p : PV} {A : Addr} (R : Rel w s) (h : RW w p (.ref A)) : ∃ o, w.H A = some o := by
  cases p with
  | non => cases rv_non h
  | bl b => cases rv_bl h
  | int i => cases rv_int h
  | str x => cases rv_str h
  | tup xs => obtain ⟨a, vs, e, q, _⟩ := rv_tup h; cases e; exact ⟨_, q⟩
  | lv xs => obtain ⟨a, vs, e, q, _⟩ := rv_lv h; cases e; exact rd_some q
  | dv t ks xs => obtain ⟨a, vs, e, q, _⟩ := rv_dv h; cases e; exact dct_some q
  | exc c fs => obtain ⟨a, e, q, _⟩ := rv_exc h; cases e; exact ⟨_, q⟩
  | ref n =>
    obtain ⟨a, e, q⟩ := rv_ref h
    cases e
    have l := lt_of_get q
    rw [R.len] at l
    obtain ⟨vs, q, _⟩ := R.pen n s[n] A (List.getElem?_eq_getElem l) q
    exact ⟨_, q⟩
theorem rv_notD {w : Vw} {D A : Addr} {av : List V} {p : PV} (hD : w.H D = some (.lst av)) (out : D ∉ w.ρ) (h : RV (w.hid D) p (.ref A)) : A ≠ D := by
  intro z
  subst z
  cases p with
  | non => cases rv_non (.inl h)
  | bl b => cases rv_bl (.inl h)
  | int i => cases rv_int (.inl h)
  | str x => cases rv_str (.inl h)
  | tup xs =>
    obtain ⟨a, vs, e, q, _⟩ := rv_tup (.inl h)
    cases e
    have q : w.H A = some (.tup vs) := q
    rw [hD] at q; cases q
  | lv xs => unfold RV at h; obtain ⟨a, vs, e, z, _⟩ := h; cases e; exact z.1 (.inr rfl)
  | dv t ks xs => unfold RV at h; obtain ⟨a, vs, e, z, _⟩ := h; cases e; exact z.1 (.inr rfl)
  | exc c fs =>
    obtain ⟨a, e, q, _⟩ := rv_exc (.inl h)
    cases e
    have q : w.H A = some (ExH _ A) := q
    rw [hD] at q; cases q
  | ref n =>
    obtain ⟨a, e, q⟩ := rv_ref (.inl h)
    cases e
    exact out (List.mem_of_getElem? q)
theorem ow_updD {w : Vw} {D A : Addr} {av : List V} {o : HO} {p : PV} (hD : w.H D = some (.lst av)) (out : D ∉ w.ρ) (ne : A ≠ D) (h : OW (w.hid D) p A) : OW ((w.upd D o).hid D) p A := by
  have g := hid_upd hD out o
  obtain ⟨h1, h2⟩ := h
  refine ⟨h1, ?_⟩
  cases p with
  | lv xs =>
    obtain ⟨vs, q, r⟩ := h2
    exact ⟨vs, by show L2.upd w.H D o A = _; rw [upd_ne ne]; exact q, r.mo g _ _⟩
  | dv t ks xs =>
    obtain ⟨vs, q, r⟩ := h2
    exact ⟨vs, dct_same q fun u hu => (by show L2.upd w.H D o A = _; rw [upd_ne ne]; exact hu), r.mo g _ _⟩
  | _ => exact h2.elim
section
variable {cl : Cl} {W : WX} {C : Nat → List PV → St → Rz (PV × Bool)} {σ : L2.St} {H : Hp}
theorem w_lc2 {a : XE} {tg tg2 : TgE} {it it2 : XI} {Q : VK} (h : tN cl W C (.lc2 a tg it tg2 it2) σ H Q) :
    tLc2 (tI cl W C it) (gT tg) tYes (tI cl W0 C it2) (gT tg2) tYes (tV cl W0 C a) (tg.slots ++ tg2.slots) tg2.slots σ H Q := by
  obtain ⟨w, e, s, rfl, h2, x, h⟩ := h
  unfold pE at h
  refine tG_then (tG_from (es := esc (.lc2 a tg it tg2 it2) ++ bare (.lc2 a tg it tg2 it2)) (V1 := fun w xs J => JR xs w J) (es1 := escI it ++ bareI it) (f := pI C it) an_N (by intro i hi; simp only [esc, bare, List.mem_append] at hi ⊢; grind) h2 x h) fun J H1 h => ?_
  obtain ⟨wI, xs, sI, rfl, h2, g, x, jr, h⟩ := h
  intro D hD
  cases ql : lcP (lcTurn2 tg tg2 (wipeE (wipeE e tg2.slots) tg.slots) (fun σ s => pI C it2 σ s) (fun σ s => pE C a σ s)) xs [] sI with
  | no => rw [ql] at h; exact h.elim
  | ex c fs s2 => rw [ql] at h; exact h.elim
  | ok ol sF =>
    rw [ql] at h
    simp only [Rz.nox, Rz.bind] at h
    by_cases c : ol.length ≤ line
    · rw [if_pos c] at h
      refine ⟨fun i m H' => ∃ (w : Vw) (s : St) (acc : List PV) (av : List V), w.H = H' ∧ Hid wI D w s acc av ∧ lcP (lcTurn2 tg tg2 (wipeE (wipeE e tg2.slots) tg.slots) (fun σ s => pI C it2 σ s) (fun σ s => pE C a σ s)) (xs.drop i) acc s = .ok ol sF ∧ m = xs.length - i,
        ⟨xs.length, _, sI, [], [], rfl, Hid.start x.rel hD, ql, rfl⟩, ?_⟩
      intro i m H1 wh
      obtain ⟨w1, s1, acc, av, rfl, hd, h1, hm⟩ := wh
      cases qg : xs[i]? with
      | none =>
        have l := List.getElem?_eq_none_iff.mp qg
        rw [List.drop_eq_nil_of_le l] at h1
        unfold lcP at h1
        cases h1
        exact .inl ⟨jr.stop i (w1.hid D) (hd.gr0 hD) qg, hd.fin hD x.rel fun w' u R g r f => h w' u R g ⟨r, f⟩⟩
      | some v =>
        have l := lt_of_get qg
        have ed : xs.drop i = v :: xs.drop (i + 1) := by
          rw [List.drop_eq_getElem_cons l]
          congr 1
          rw [List.getElem?_eq_getElem l] at qg
          exact Option.some.inj qg
        rw [ed] at h1
        unfold lcP at h1
        obtain ⟨r, s2, qt, h1⟩ := bind_ok h1
        obtain ⟨g1, g2⟩ := jr.go i (w1.hid D) s1 v (hd.gr0 hD) hd.rel qg
        refine .inr ⟨g1, _, fun H' n => ⟨xs.length - (i + 1), by omega, n⟩, fun y H2 hy => ?_⟩
        obtain ⟨w2, rfl, R2, G2, rv2⟩ := g2 y H2 hy
        obtain ⟨hd2, e2, g12⟩ := hd.step G2 R2
        unfold lcTurn2 at qt
        cases qa : asn tg v (wipeE (wipeE e tg2.slots) tg.slots) with
        | none => simp only [qa] at qt; cases qt
        | some ea =>
          simp only [qa] at qt
          obtain ⟨ys, s3, qI, qt⟩ := bind_ok qt
          have xw : XR w2 s1 (esc (.lc2 a tg it tg2 it2) ++ bare (.lc2 a tg it tg2 it2)) (wipeE (wipeE e tg2.slots) tg.slots) (L2.wipe σ (tg.slots ++ tg2.slots)) := by
            have x1 := xr_hid x hd2 hD
            rw [e2] at x1
            rw [wipe_append]
            exact (x1.wipe2 tg2.slots).wipe2 tg.slots
          refine ⟨w2, _, s1, _, v, ea, rfl, xw, rv2, qa, fun σ2 x2 l2 f2 => ⟨?_, ?_⟩⟩
          · rw [wipe_eq l2 fun j hj => f2 j fun z => hj (List.mem_append_left _ z), wipe_idem]
          · have c2 : w2.cl = cl := by
              have := hd2.gr.cls
              exact this.trans h2
            refine yes_t ?_
            refine tG_ok c2 (x2.sub fun i hi => ?_) qI fun w3 J1 R3 G3 jr1 => ?_
            · simp only [esc, bare, List.mem_append] at hi ⊢; grind
            · have jr1 : JR ys w3 J1 := jr1
              have G3' := G3
              rw [← e2] at G3
              obtain ⟨hd3, e3, g23⟩ := hd2.step G3 R3
              have x3 := x2.mo G3' R3
              have noD : ∀ i p A, ea[i]? = some (some p) → σ2[i]? = some (some (V.ref A)) → A ≠ D := fun i p A h1 h2 => by
                by_cases hi : i ∈ tg.slots
                · obtain ⟨u, u1, _, u3⟩ := x2.val i p h1
                  rw [h2] at u1
                  cases u1
                  have u4 := u3 (List.mem_append_right _ hi)
                  rw [← e2] at u4
                  exact rv_notD hd2.hD hd2.out u4
                · rw [asn_out tg v _ _ qa i hi] at h1
                  rw [f2 i hi] at h2
                  have h1 := (wipeE_get (wipeE_get h1).1).1
                  have h2 := (wipe_get h2).1
                  obtain ⟨u, u1, u2, _⟩ := x.val i p h1
                  rw [h2] at u1
                  cases u1
                  obtain ⟨o, q⟩ := alive x.rel u2
                  exact ne_of_none q hD
              refine ⟨fun j m2 H' => ∃ (w4 : Vw) (s4 : St) (acc2 : List PV) (av2 : List V), w4.H = H' ∧ Hid wI D w4 s4 (acc ++ acc2) av2 ∧ Gr w3 (w4.hid D) ∧ XR (w4.hid D) s4 ((esc (.lc2 a tg it tg2 it2) ++ bare (.lc2 a tg it tg2 it2)) ++ tg.slots) ea σ2 ∧
                  lcP (lcTurn tg2 (wipeE ea tg2.slots) yes (fun σ s => pE C a σ s)) (ys.drop j) acc2 s4 = .ok r s2 ∧ m2 = ys.length - j,
                ⟨ys.length, w3.unhid (w2.unhid w1.Z).Z, s3, [], av, rfl, by rw [List.append_nil]; exact hd3, by rw [e3]; exact Gr.refl, by rw [e3]; exact x3, qt, rfl⟩, ?_⟩
              intro j m2 H4 wh2
              obtain ⟨w4, s4, acc2, av2, rfl, hd4, gr4, x4, h4, hm2⟩ := wh2
              cases qg2 : ys[j]? with
              | none =>
                have l2 := List.getElem?_eq_none_iff.mp qg2
                rw [List.drop_eq_nil_of_le l2] at h4
                unfold lcP at h4
                cases h4
                exact .inl ⟨jr1.stop j (w4.hid D) gr4 qg2, _, _, _, av2, rfl, hd4, h1, rfl⟩
              | some v2 =>
                have l2 := lt_of_get qg2
                have ed2 : ys.drop j = v2 :: ys.drop (j + 1) := by
                  rw [List.drop_eq_getElem_cons l2]
                  congr 1
                  rw [List.getElem?_eq_getElem l2] at qg2
                  exact Option.some.inj qg2
                rw [ed2] at h4
                unfold lcP at h4
                obtain ⟨r5, s5, qt2, h4⟩ := bind_ok h4
                obtain ⟨g3, g4⟩ := jr1.go j (w4.hid D) s4 v2 gr4 hd4.rel qg2
                refine .inr ⟨g3, _, fun H' n => ⟨ys.length - (j + 1), by omega, n⟩, fun x2' H5 hy2 => ?_⟩
                obtain ⟨w5, rfl, R5, G5, rv5⟩ := g4 x2' H5 hy2
                obtain ⟨hd5, e5, g45⟩ := hd4.step G5 R5
                unfold lcTurn yes at qt2
                cases qa2 : asn tg2 v2 (wipeE ea tg2.slots) with
                | none => simp only [qa2] at qt2; cases qt2
                | some eb =>
                  simp only [qa2] at qt2
                  have x5 := (x4.mo G5 R5).wipe2 tg2.slots
                  refine ⟨w5, _, s4, _, v2, eb, rfl, x5, rv5, qa2, fun σ3 x6 l3 f3 => ⟨?_, ?_⟩⟩
                  · rw [wipe_eq l3 f3, wipe_idem]
                  · refine yes_t ?_
                    obtain ⟨bb, s4', e0, qt2⟩ := bind_ok qt2
                    cases e0
                    rw [if_pos rfl] at qt2
                    obtain ⟨v6, s6, qe, qt2⟩ := bind_ok qt2
                    cases qt2
                    have c5 : w5.cl = cl := by
                      have := hd5.gr.cls
                      exact this.trans h2
                    refine tG_ok c5 (x6.sub fun i hi => ?_) qe fun w6 u R6 G6 rv6 => ?_
                    · simp only [esc, bare, List.mem_append] at hi ⊢; grind
                    · have G6' := G6
                      rw [← e5] at G6
                      obtain ⟨hd6, e6, g56⟩ := hd5.step G6 R6
                      have ll := lcP_len _ _ _ _ _ h4
                      have ll2 := lcP_len _ _ _ _ _ h1
                      rw [List.length_append] at ll ll2
                      have hadd := hd6.add hD (p := v6) (v := u) (by rw [e6]; exact rv6)
                      rw [List.append_assoc] at hadd
                      have gu := hid_upd hd6.hD hd6.out (.lst (av2 ++ [u]))
                      have gg : Gr w3 (w6) := (gr4.trans G5.gr).trans G6'.gr
                      refine ⟨av2, hd6.hD, ?_, _, _, acc2 ++ [v6], av2 ++ [u], rfl, hadd, ?_, ?_, h4, rfl⟩
                      · have := hd6.rv.length
                        have e3 : line = sizeLine := line_eq
                        rw [List.length_append] at this
                        simp only [List.length_cons, List.length_nil] at ll
                        omega
                      · rw [← e6] at gg
                        exact gg.trans gu
                      · have x7 := (x4.mo G5 R5).mo G6' R6
                        rw [← e6] at x7
                        refine ⟨hadd.rel, x7.len, fun j p hp => ?_⟩
                        obtain ⟨u1, u2, u3, u4⟩ := x7.val j p hp
                        refine ⟨u1, u2, ?_, fun z => (u4 z).mo gu _ _⟩
                        rcases u3 with u3 | ⟨A, eA, hA⟩
                        · exact .inl (u3.mo gu _ _)
                        · refine .inr ⟨A, eA, ?_⟩
                          subst eA
                          have hA' : OW ((w6.unhid _).hid D) p A := hA
                          exact ow_updD hd6.hD hd6.out (noD j p A hp u2) hA'
    · rw [if_neg c] at h; exact h.elim
end
end Pu

set_option linter.all false
set_option autoImplicit false
set_option maxRecDepth 100000
set_option maxHeartbeats 4000000
/-! P17: the frame of a def's run. -/
namespace Pu
open PySem PySem.Spec PyProof.Rows L2
/-- where a def's run, a loop began: ρ0 the shared lists, H0 the heap, Zh what others own, Y what the run owned there -/
structure Fb where
  cl : Cl
  ρ0 : List Addr
  H0 : Hp
  Zh : Addr → Prop
  Y : Addr → Prop
def Owns (own : Own) (σ : L2.St) (a : Addr) : Prop := ∃ i, i ∈ own ∧ σ[i]? = some (some (.ref a))
abbrev Fb.w0 (f : Fb) : Vw := ⟨f.cl, f.ρ0, f.Zh, f.H0⟩
/-- the view; X: what is new, and nobody has it yet -/
abbrev Fb.vw (f : Fb) (X : Addr → Prop) (ρ : List Addr) (H : Hp) (own : Own) (σ : L2.St) : Vw := ⟨f.cl, ρ, fun a => (f.Zh a ∨ Owns own σ a) ∨ X a, H⟩
abbrev X0 : Addr → Prop := fun _ => False
structure Bs (f : Fb) (ρ : List Addr) (H : Hp) : Prop where
  pre : ∀ (n : Nat) (a : Addr), f.ρ0[n]? = some a → ρ[n]? = some a
  all : ∀ a o, f.H0 a = some o → a ∉ f.ρ0 → ¬ f.Y a → H a = some o
  imm : ∀ a o, f.H0 a = some o → Imm o → H a = some o
  newρ : ∀ a ∈ ρ, a ∈ f.ρ0 ∨ f.H0 a = none
  live : ∀ a, H a = none → f.H0 a = none
structure Fr (f : Fb) (X : Addr → Prop) (ρ : List Addr) (H : Hp) (s : St) (own : Own) (e : Env) (σ : L2.St) : Prop where
  base : Bs f ρ H
  rel : Rel (f.vw X ρ H own σ) s
  zh : ∀ a, f.Zh a → (∃ o, f.H0 a = some o) ∧ ¬ f.Y a
  xn : ∀ a, X a → f.H0 a = none ∧ ¬ Owns own σ a
  len : e.length = σ.length
  val : ∀ (i : Nat) (p : PV), e[i]? = some (some p) → i ∉ own → ∃ v, σ[i]? = some (some v) ∧ RV (f.vw X ρ H own σ) p v
  owv : ∀ (i : Nat) (p : PV), e[i]? = some (some p) → i ∈ own → ∃ a, σ[i]? = some (some (.ref a)) ∧ OW (f.vw X ρ H own σ) p a
  nz : ∀ a, Owns own σ a → f.H0 a = none ∨ f.Y a
  inj : ∀ (i j : Nat) (a : Addr), i ∈ own → j ∈ own → σ[i]? = some (some (.ref a)) → σ[j]? = some (some (.ref a)) → i = j
section
variable {f : Fb} {ρ ρ1 : List Addr} {H H1 : Hp} {s s1 : St} {own own1 : Own} {e e1 : Env} {σ σ1 : L2.St} {w w1 : Vw} {X : Addr → Prop}
theorem Bs.gr (b : Bs f ρ H) (g : GrE (f.vw X ρ H own σ) (f.vw X ρ1 H1 own σ)) : Bs f ρ1 H1 where
  pre := fun n a h => g.pre n a (b.pre n a h)
  all := fun a o h h1 h2 => g.all a o (b.all a o h h1 h2) fun z => by
    rcases b.newρ a z with q | q
    · exact h1 q
    · rw [h] at q; cases q
  imm := fun a o h i => g.imm a o (b.imm a o h i) i
  newρ := fun a h => by
    rcases g.newρ a h with q | q
    · exact b.newρ a q
    · exact .inr (b.live a q)
  live := fun a h => b.live a (g.live a h)
/-- a shared list's contents are read alike by all -/
theorem rv_sh {p : PV} {v : V} (h : shP p = true) (pre : ∀ (n : Nat) (a : Addr), w.ρ[n]? = some a → w1.ρ[n]? = some a) (r : RV w p v) : RV w1 p v := by
  cases p with
  | non => unfold RV at r ⊢; exact r
  | bl b => unfold RV at r ⊢; exact r
  | int i => unfold RV at r ⊢; exact r
  | str x => unfold RV at r ⊢; exact r
  | ref n =>
    unfold RV at r ⊢
    obtain ⟨a, q, z⟩ := r
    exact ⟨a, q, pre n a z⟩
  | _ => cases h
theorem rvs_sh (pre : ∀ (n : Nat) (a : Addr), w.ρ[n]? = some a → w1.ρ[n]? = some a) : ∀ {ps : List PV} {vs : List V}, ps.all shP = true → RVs w ps vs → RVs w1 ps vs
  | [], _, _, r => by rw [r.inv0]; exact .nil
  | p :: ps, _, h, r => by
    obtain ⟨u, us, rfl, a, b⟩ := r.inv
    rw [List.all_cons, Bool.and_eq_true] at h
    exact .cons (rv_sh h.1 pre a) (rvs_sh pre h.2 b)
/-- another view of the same heap, of the same shared lists -/
theorem Rel.view (R : Rel w s) {Z : Addr → Prop} (hz : ∀ a, Z a → ∃ o, w.H a = some o) : Rel { w with Z := Z } s :=
  ⟨R.len, R.nd, fun n xs a h1 h2 => by
    obtain ⟨vs, q, r⟩ := R.pen n xs a h1 h2
    exact ⟨vs, q, rvs_sh (w := w) (w1 := { w with Z := Z }) (fun _ _ h => h) (R.sh n xs h1) r⟩, hz, R.sh⟩
theorem Gr.less {Z Z' : Addr → Prop} (h : ∀ a, Z' a → Z a) : Gr { w with Z := Z } { w with Z := Z' } := ⟨rfl, fun _ _ h => h, fun a o q h1 h2 => ⟨q, fun z => h1 (h a z), h2⟩, fun _ _ q _ => q⟩
theorem OW.gr {p : PV} {a : Addr} (g : Gr w w1) (same : ∀ o, w.H a = some o → w1.H a = some o) (hρ : a ∉ w1.ρ) (h : OW w p a) : OW w1 p a := by
  refine ⟨hρ, ?_⟩
  obtain ⟨_, h⟩ := h
  cases p with
  | lv xs =>
    obtain ⟨vs, q, r⟩ := h
    exact ⟨vs, same _ q, r.mo g _ _⟩
  | dv t ks xs =>
    obtain ⟨vs, q, r⟩ := h
    exact ⟨vs, dct_same q same, r.mo g _ _⟩
  | _ => exact h.elim
theorem OW.some {p : PV} {a : Addr} (h : OW w p a) : ∃ o, w.H a = some o ∧ ¬ Imm o := by
  obtain ⟨_, h⟩ := h
  cases p with
  | lv xs =>
    obtain ⟨vs, q, r⟩ := h
    exact ⟨_, q, fun z => z⟩
  | dv t ks xs =>
    obtain ⟨vs, q, r⟩ := h
    cases t with
    | false => obtain ⟨l, q, _⟩ := q; exact ⟨_, q, fun z => z⟩
    | true => obtain ⟨l, q, _⟩ := q; exact ⟨_, q, fun z => z⟩
  | _ => exact h.elim
/-- given up, it is a value -/
theorem OW.rv {p : PV} {a : Addr} (h : OW w p a) (z : ¬ w.Z a) : RV w p (.ref a) := by
  obtain ⟨hr, h⟩ := h
  cases p with
  | lv xs =>
    obtain ⟨vs, q, r⟩ := h
    unfold RV
    exact ⟨a, vs, rfl, ⟨z, hr⟩, .inl q, r⟩
  | dv t ks xs =>
    obtain ⟨vs, q, r⟩ := h
    unfold RV
    exact ⟨a, vs, rfl, ⟨z, hr⟩, q, r⟩
  | _ => exact h.elim
theorem Owns.sub {r : Own} {a : Addr} (h : ∀ i ∈ r, i ∈ own) : Owns r σ a → Owns own σ a := fun ⟨i, m, q⟩ => ⟨i, h i m, q⟩
theorem mem_rel {r : List Nat} {i : Nat} : i ∈ rel own r ↔ i ∈ own ∧ i ∉ r := by
  unfold Pu.rel
  rw [List.mem_filter]
  simp
theorem mem_addO {i j : Nat} : ∀ {own : Own}, i ∈ addO j own ↔ i = j ∨ i ∈ own
  | [] => by unfold addO; simp
  | k :: own => by
    unfold addO
    split
    · simp
    · split
      · rename_i h; subst h; simp
      · rw [List.mem_cons, mem_addO, List.mem_cons]; grind
theorem owns_congr (h : ∀ i ∈ own, σ1[i]? = σ[i]?) (a : Addr) : Owns own σ1 a ↔ Owns own σ a := by
  constructor
  · rintro ⟨i, m, q⟩
    exact ⟨i, m, by rw [← h i m]; exact q⟩
  · rintro ⟨i, m, q⟩
    exact ⟨i, m, by rw [h i m]; exact q⟩
theorem vw_congr (h : ∀ i ∈ own, σ1[i]? = σ[i]?) : f.vw X ρ H own σ1 = f.vw X ρ H own σ := by
  have : (fun a => (f.Zh a ∨ Owns own σ1 a) ∨ X a) = (fun a => (f.Zh a ∨ Owns own σ a) ∨ X a) := by
    funext a
    rw [show Owns own σ1 a = Owns own σ a from propext (owns_congr h a)]
  unfold Fb.vw
  rw [this]
namespace Fr
theorem xr {es : List Nat} (F : Fr f X ρ H s own e σ) (hd : ∀ i ∈ es, i ∉ own) : XR (f.vw X ρ H own σ) s es e σ :=
  ⟨F.rel, F.len, fun i p h => by
    by_cases m : i ∈ own
    · obtain ⟨a, q, o⟩ := F.owv i p h m
      exact ⟨_, q, .inr ⟨a, rfl, o⟩, fun z => absurd m (hd i z)⟩
    · obtain ⟨v, q, r⟩ := F.val i p h m
      exact ⟨v, q, .inl r, fun _ => r⟩⟩
/-- what the view hides is new since the base, or was owned there -/
theorem hidden (F : Fr f X ρ H s own e σ) {a : Addr} {o : HO} (h : f.H0 a = some o) (hy : ¬ f.Y a) : ¬ Owns own σ a := fun z => by
  rcases F.nz a z with q | q
  · rw [h] at q; cases q
  · exact hy q
theorem notZh (F : Fr f X ρ H s own e σ) {a : Addr} (h : f.H0 a = none ∨ f.Y a) : ¬ f.Zh a := fun z => by
  obtain ⟨⟨o, q⟩, y⟩ := F.zh a z
  rcases h with h | h
  · rw [q] at h; cases h
  · exact y h
/-- some slots give up what they own -/
theorem release (F : Fr f X ρ H s own e σ) (r : List Nat) : Fr f X ρ H s (Pu.rel own r) e σ := by
  have sub : ∀ i ∈ Pu.rel own r, i ∈ own := fun i h => (mem_rel.mp h).1
  have sz : ∀ a, (f.vw X ρ H (Pu.rel own r) σ).Z a → (f.vw X ρ H own σ).Z a := fun a z => z.imp (fun z => z.imp id (Owns.sub sub)) id
  have g : Gr (f.vw X ρ H own σ) (f.vw X ρ H (Pu.rel own r) σ) := Gr.less (w := f.vw X ρ H own σ) sz
  refine ⟨F.base, F.rel.view fun a z => F.rel.zin a (sz a z), F.zh, fun a x => ⟨(F.xn a x).1, fun z => (F.xn a x).2 (z.sub sub)⟩, F.len, fun i p h m => ?_, fun i p h m => ?_, fun a z => F.nz a (z.sub sub), fun i j a h1 h2 => F.inj i j a (sub i h1) (sub j h2)⟩
  · by_cases o : i ∈ own
    · obtain ⟨a, q, ow⟩ := F.owv i p h o
      have z : ¬ (f.vw X ρ H (Pu.rel own r) σ).Z a := by
        rintro ((z | ⟨j, hj, qj⟩) | z)
        · exact F.notZh (F.nz a ⟨i, o, q⟩) z
        · have := F.inj i j a o (sub j hj) q qj
          subst this
          exact m hj
        · exact (F.xn a z).2 ⟨i, o, q⟩
      exact ⟨_, q, (ow.gr g (fun _ h => h) ow.1).rv z⟩
    · obtain ⟨v, q, rv⟩ := F.val i p h o
      exact ⟨v, q, rv.mo g _ _⟩
  · obtain ⟨a, q, ow⟩ := F.owv i p h (sub i m)
    exact ⟨a, q, ow.gr g (fun _ h => h) ow.1⟩
/-- behind an expression -/
theorem grow (F : Fr f X ρ H s own e σ) (g : GrE (f.vw X ρ H own σ) (f.vw X ρ1 H1 own σ)) (R : Rel (f.vw X ρ1 H1 own σ) s1) : Fr f X ρ1 H1 s1 own e σ := by
  refine ⟨F.base.gr g, R, F.zh, F.xn, F.len, fun i p h m => ?_, fun i p h m => ?_, F.nz, F.inj⟩
  · obtain ⟨v, q, r⟩ := F.val i p h m
    exact ⟨v, q, r.mo g.gr _ _⟩
  · obtain ⟨a, q, r⟩ := F.owv i p h m
    exact ⟨a, q, r.mo g⟩
theorem eq_vw (g : GrE (f.vw X ρ H own σ) w) : w = f.vw X w.ρ w.H own σ := by
  obtain ⟨c, r, z, h⟩ := w
  have h1 := g.cls
  have h2 := g.zE
  dsimp only at h1 h2
  subst h1 h2
  rfl
theorem grow' (F : Fr f X ρ H s own e σ) (g : GrE (f.vw X ρ H own σ) w) (R : Rel w s1) : Fr f X w.ρ w.H s1 own e σ := by
  have e2 := eq_vw g
  rw [e2] at g R
  exact F.grow g R
/-- .. that makes a thing at a -/
theorem hide (F : Fr f X ρ H s own e σ) (g : GrE (f.vw X ρ H own σ) w) (R : Rel w s1) {a : Addr} (h0 : H a = none) {o : HO} (h1 : w.H a = some o) :
    Fr f (fun b => X b ∨ b = a) w.ρ w.H s1 own e σ := by
  have e2 := eq_vw g
  rw [e2] at g R
  have old : ∀ b u, H b = some u → b ≠ a := fun b u q => ne_of_none q h0
  have notO : ¬ Owns own σ a := fun z => by
    obtain ⟨u, q⟩ := F.rel.zin a (.inl (.inr z))
    exact old a u q rfl
  have gr : Gr (f.vw X ρ H own σ) (f.vw (fun b => X b ∨ b = a) w.ρ w.H own σ) := by
    refine ⟨rfl, g.pre, fun b u q z1 z2 => ⟨g.all b u q z2, fun z => ?_, g.notρ q z2⟩, g.imm⟩
    rcases z with z | z | z
    · exact z1 (.inl z)
    · exact z1 (.inr z)
    · exact old b u q z
  have b2 := F.base.gr g
  refine ⟨b2, ?_, F.zh, fun b x => ?_, F.len, fun i p h m => ?_, fun i p h m => ?_, F.nz, F.inj⟩
  · refine R.view fun b z => ?_
    rcases z with z | z | z
    · exact R.zin b (.inl z)
    · exact R.zin b (.inr z)
    · exact ⟨o, by rw [z]; exact h1⟩
  · rcases x with x | x
    · exact F.xn b x
    · subst x
      exact ⟨F.base.live _ h0, notO⟩
  · obtain ⟨v, q, r⟩ := F.val i p h m
    exact ⟨v, q, r.mo gr _ _⟩
  · obtain ⟨b, q, r⟩ := F.owv i p h m
    obtain ⟨u, qu, _⟩ := r.some
    exact ⟨b, q, r.gr gr (fun u q => g.all b u q r.1) (g.notρ qu r.1)⟩
/-- a slot that owns nothing gets a value -/
theorem set (F : Fr f X ρ H s own e σ) {i : Nat} (m : i ∉ own) {p : PV} {v : V} (r : RV (f.vw X ρ H own σ) p v) : Fr f X ρ H s own (e.set i (some p)) (σ.set i (some v)) := by
  have ne : ∀ j ∈ own, j ≠ i := fun j h z => m (z ▸ h)
  have sm : ∀ j ∈ own, (σ.set i (some v))[j]? = σ[j]? := fun j h => List.getElem?_set_ne (ne j h).symm
  have ev : f.vw X ρ H own (σ.set i (some v)) = f.vw X ρ H own σ := vw_congr sm
  refine ⟨F.base, by rw [ev]; exact F.rel, F.zh, fun a x => ⟨(F.xn a x).1, fun z => (F.xn a x).2 ((owns_congr sm a).mp z)⟩, by rw [List.length_set, List.length_set]; exact F.len, ?_, ?_, fun a z => F.nz a ((owns_congr sm a).mp z), ?_⟩
  · rw [ev]
    intro j q h n
    rw [List.getElem?_set] at h ⊢
    by_cases z : i = j
    · subst z
      rw [if_pos rfl] at h ⊢
      split at h
      · rename_i l
        cases h
        rw [if_pos (by rw [← F.len]; exact l)]
        exact ⟨v, rfl, r⟩
      · cases h
    · rw [if_neg z] at h ⊢
      exact F.val j q h n
  · rw [ev]
    intro j q h n
    rw [List.getElem?_set_ne (ne j n).symm] at h ⊢
    exact F.owv j q h n
  · intro j k a n1 n2 q1 q2
    rw [sm j n1] at q1
    rw [sm k n2] at q2
    exact F.inj j k a n1 n2 q1 q2
/-- .. a thing that nobody has yet -/
theorem gain {a : Addr} (F : Fr f (fun b => X b ∨ b = a) ρ H s own e σ) {i : Nat} (m : i ∉ own) (nx : ¬ X a) {p : PV} (ow : OW (f.vw (fun b => X b ∨ b = a) ρ H own σ) p a) :
    Fr f X ρ H s (addO i own) (e.set i (some p)) (σ.set i (some (.ref a))) := by
  have ne : ∀ j ∈ own, j ≠ i := fun j h z => m (z ▸ h)
  have sm : ∀ j ∈ own, (σ.set i (some (V.ref a)))[j]? = σ[j]? := fun j h => List.getElem?_set_ne (ne j h).symm
  have own2 : ∀ b, Owns (addO i own) (σ.set i (some (.ref a))) b → Owns own σ b ∨ b = a := by
    rintro b ⟨j, n, q⟩
    rcases mem_addO.mp n with n | n
    · subst n
      rw [List.getElem?_set] at q
      rw [if_pos rfl] at q
      split at q
      · cases q; exact .inr rfl
      · cases q
    · rw [sm j n] at q
      exact .inl ⟨j, n, q⟩
  have sz : ∀ b, (f.vw X ρ H (addO i own) (σ.set i (some (.ref a)))).Z b → (f.vw (fun b => X b ∨ b = a) ρ H own σ).Z b := by
    rintro b ((z | z) | z)
    · exact .inl (.inl z)
    · rcases own2 b z with h | h
      · exact .inl (.inr h)
      · exact .inr (.inr h)
    · exact .inr (.inl z)
  have g : Gr (f.vw (fun b => X b ∨ b = a) ρ H own σ) (f.vw X ρ H (addO i own) (σ.set i (some (.ref a)))) := Gr.less (w := f.vw X ρ H own σ) sz
  have xa := F.xn a (.inr rfl)
  refine ⟨F.base, F.rel.view fun b z => F.rel.zin b (sz b z), F.zh, fun b x => ?_, by rw [List.length_set, List.length_set]; exact F.len, fun j q h n => ?_, fun j q h n => ?_, fun b z => ?_, ?_⟩
  · refine ⟨(F.xn b (.inl x)).1, fun z => ?_⟩
    rcases own2 b z with h | h
    · exact (F.xn b (.inl x)).2 h
    · exact nx (h ▸ x)
  · have n1 : j ≠ i := fun z => n (mem_addO.mpr (.inl z))
    have n2 : j ∉ own := fun z => n (mem_addO.mpr (.inr z))
    rw [List.getElem?_set_ne n1.symm] at h ⊢
    obtain ⟨v, q1, r⟩ := F.val j q h n2
    exact ⟨v, q1, r.mo g _ _⟩
  · by_cases z : i = j
    · subst z
      rw [List.getElem?_set, if_pos rfl] at h ⊢
      split at h
      · rename_i l
        cases h
        rw [if_pos (by rw [← F.len]; exact l)]
        exact ⟨a, rfl, ow.gr g (fun _ h => h) ow.1⟩
      · cases h
    · have n2 : j ∈ own := (mem_addO.mp n).resolve_left fun q => z q.symm
      rw [List.getElem?_set_ne z] at h ⊢
      obtain ⟨b, q1, r⟩ := F.owv j q h n2
      exact ⟨b, q1, r.gr g (fun _ h => h) r.1⟩
  · rcases own2 b z with h | h
    · exact F.nz b h
    · subst h; exact .inl xa.1
  · intro j k b n1 n2 q1 q2
    have one : ∀ j, j ∈ addO i own → (σ.set i (some (V.ref a)))[j]? = some (some (.ref b)) → (j = i ∧ b = a) ∨ (j ∈ own ∧ σ[j]? = some (some (.ref b))) := by
      intro j n q
      rcases mem_addO.mp n with n | n
      · subst n
        rw [List.getElem?_set, if_pos rfl] at q
        split at q
        · cases q; exact .inl ⟨rfl, rfl⟩
        · cases q
      · rw [sm j n] at q
        exact .inr ⟨n, q⟩
    rcases one j n1 q1 with ⟨a1, a2⟩ | ⟨a1, a2⟩ <;> rcases one k n2 q2 with ⟨b1, b2⟩ | ⟨b1, b2⟩
    · rw [a1, b1]
    · exact absurd ⟨k, b1, a2 ▸ b2⟩ xa.2
    · exact absurd ⟨j, a1, b2 ▸ a2⟩ xa.2
    · exact F.inj j k b a1 b1 a2 b2
theorem change_gr (F : Fr f X ρ H s own e σ) {i : Nat} (m : i ∈ own) {p : PV} {a : Addr} {o : HO} (h : e[i]? = some (some p)) (q : σ[i]? = some (some (.ref a))) : Gr (f.vw X ρ H own σ) (f.vw X ρ (L2.upd H a o) own σ) := by
  obtain ⟨b, q', ow⟩ := F.owv i p h m
  rw [q] at q'
  cases q'
  obtain ⟨u, qu, iu⟩ := ow.some
  have qu : H a = some u := qu
  have hz : Owns own σ a := ⟨i, m, q⟩
  have hn := F.nz a hz
  have g : Gr (f.vw X ρ H own σ) (f.vw X ρ (L2.upd H a o) own σ) := by
    refine ⟨rfl, fun _ _ h => h, fun b u q z1 z2 => ⟨?_, z1, z2⟩, fun b u q i => ?_⟩
    · show L2.upd H a o b = _
      rw [upd_ne fun z => z1 (.inl (.inr (by rw [z]; exact hz)))]
      exact q
    · show L2.upd H a o b = _
      rw [upd_ne fun z => ?_]
      · exact q
      · have q9 : H b = some u := q
        rw [z, qu] at q9
        cases q9
        exact iu i
  exact g
/-- a thing that a slot owns changes -/
theorem change (F : Fr f X ρ H s own e σ) {i : Nat} (m : i ∈ own) {p p' : PV} {a : Addr} {o : HO} (h : e[i]? = some (some p)) (q : σ[i]? = some (some (.ref a)))
    (k : Gr (f.vw X ρ H own σ) (f.vw X ρ (L2.upd H a o) own σ) → OW (f.vw X ρ (L2.upd H a o) own σ) p' a) : Fr f X ρ (L2.upd H a o) s own (e.set i (some p')) σ := by
  obtain ⟨b, q', ow⟩ := F.owv i p h m
  rw [q] at q'
  cases q'
  obtain ⟨u, qu, iu⟩ := ow.some
  have qu : H a = some u := qu
  have hz : Owns own σ a := ⟨i, m, q⟩
  have hn := F.nz a hz
  have g : Gr (f.vw X ρ H own σ) (f.vw X ρ (L2.upd H a o) own σ) := by
    refine ⟨rfl, fun _ _ h => h, fun b u q z1 z2 => ⟨?_, z1, z2⟩, fun b u q i => ?_⟩
    · show L2.upd H a o b = _
      rw [upd_ne fun z => z1 (.inl (.inr (by rw [z]; exact hz)))]
      exact q
    · show L2.upd H a o b = _
      rw [upd_ne fun z => ?_]
      · exact q
      · have q9 : H b = some u := q
        rw [z, qu] at q9
        cases q9
        exact iu i
  have ne : ∀ b u, f.H0 b = some u → ¬ f.Y b → b ≠ a := fun b u q9 y z => by
    rw [z] at q9 y
    rcases hn with hn | hn
    · rw [q9] at hn; cases hn
    · exact y hn
  have ow2 := k g
  have aρ : a ∉ ρ := ow.1
  refine ⟨⟨F.base.pre, fun b u q r y => ?_, fun b u q i => ?_, F.base.newρ, fun b q => ?_⟩, ⟨F.rel.len, F.rel.nd, fun n xs b h1 h2 => ?_, fun b z => ?_, F.rel.sh⟩, F.zh, F.xn, by rw [List.length_set]; exact F.len, fun j r hr n => ?_, fun j r hr n => ?_, F.nz, F.inj⟩
  · rw [upd_ne (ne b u q y)]
    exact F.base.all b u q r y
  · by_cases z : b = a
    · have := F.base.imm b u q i
      rw [z, qu] at this
      cases this
      exact absurd i iu
    · rw [upd_ne z]
      exact F.base.imm b u q i
  · by_cases z : b = a
    · rw [z, upd_same] at q; cases q
    · rw [upd_ne z] at q
      exact F.base.live b q
  · obtain ⟨vs, q1, r1⟩ := F.rel.pen n xs b h1 h2
    have h2 : ρ[n]? = some b := h2
    refine ⟨vs, ?_, r1.mo g _ _⟩
    show L2.upd H a o b = _
    rw [upd_ne fun z => aρ (by rw [← z]; exact List.mem_of_getElem? h2)]
    exact q1
  · obtain ⟨u2, q2⟩ := F.rel.zin b z
    by_cases z : b = a
    · exact ⟨o, by rw [z]; exact upd_same⟩
    · exact ⟨u2, by show L2.upd H a o b = _; rw [upd_ne z]; exact q2⟩
  · have n1 : i ≠ j := fun z => n (z ▸ m)
    rw [List.getElem?_set_ne n1] at hr
    obtain ⟨v, q1, r1⟩ := F.val j r hr n
    exact ⟨v, q1, r1.mo g _ _⟩
  · by_cases z : i = j
    · subst z
      rw [List.getElem?_set, if_pos rfl] at hr
      split at hr
      · cases hr
        exact ⟨a, q, ow2⟩
      · cases hr
    · rw [List.getElem?_set_ne z] at hr
      obtain ⟨b, q1, r1⟩ := F.owv j r hr n
      have nb : b ≠ a := fun y => z (F.inj i j a m n q (y ▸ q1))
      refine ⟨b, q1, r1.gr g (fun u h => ?_) r1.1⟩
      show L2.upd H a o b = _
      rw [upd_ne nb]
      exact h
/-- what is dead is forgotten -/
theorem kill (F : Fr f X ρ H s own e σ) (is : List Nat) : Fr f X ρ H s (Pu.rel own is) (wipeE e is) σ := by
  have F2 := F.release is
  refine ⟨F2.base, F2.rel, F2.zh, F2.xn, ?_, fun i p h => F2.val i p (wipeE_get h).1, fun i p h => F2.owv i p (wipeE_get h).1, F2.nz, F2.inj⟩
  rw [← F2.len]
  induction is with
  | nil => rfl
  | cons i is ih => unfold wipeE; rw [List.length_set]; exact ih (F.release is)
end Fr
end
end Pu

set_option linter.all false
set_option autoImplicit false
set_option maxRecDepth 100000
set_option maxHeartbeats 4000000
/-! P18: statements by the evaluator. -/
namespace Pu
open PySem PySem.Spec PyProof.Rows L2
abbrev Fb.wZ (f : Fb) (ρ : List Addr) (H : Hp) : Vw := ⟨f.cl, ρ, f.Zh, H⟩
def FrW (f : Fb) (ρ : List Addr) (H : Hp) (p : PV) (u : V) : Prop := p.isM = true → ∃ a, u = .ref a ∧ (f.H0 a = none ∨ f.Y a) ∧ OW { f.wZ ρ H with Z := fun b => f.Zh b ∨ b = a } p a
def EndOk (W : WX) (f : Fb) (D : Ends) : Out → St → Prop
  | .nx e own, s => ∀ ρ H σ, Fr f X0 ρ H s own e σ → D.nx σ H
  | .bk e own, s => ∀ ρ H σ, Fr f X0 ρ H s own e σ → D.bk σ H
  | .ct e own, s => ∀ ρ H σ, Fr f X0 ρ H s own e σ → D.ct σ H
  | .rt v fr, s => ∀ ρ H u, Bs f ρ H → Rel (f.wZ ρ H) s → RV (f.wZ ρ H) v u → (fr = true → FrW f ρ H v u) → D.rt u H
  | .ex c fs e own, s => ∀ ρ H σ d, Fr f X0 ρ H s own e σ → exP fs d → f.cl.O c → W (.ref (f.cl.A c)) d σ H
def tS (cl : Cl) (W : WX) (run : Env → Own → St → Option (Out × St)) : TS := fun D σ H =>
  ∃ (f : Fb) (ρ : List Addr) (s : St) (own : Own) (e : Env) (o : Out) (s' : St), f.cl = cl ∧ Fr f X0 ρ H s own e σ ∧ run e own s = some (o, s') ∧ EndOk W f D o s'
section
variable {f : Fb} {ρ ρ1 : List Addr} {H H1 : Hp} {s s1 s' : St} {own own1 : Own} {e e1 : Env} {σ σ1 : L2.St} {w w1 : Vw} {X : Addr → Prop} {cl : Cl} {W : WX} {D : Ends} {C : Nat → List PV → St → Rz (PV × Bool)} {o : Out}
theorem run_tG {α β : Type} {V : Vw → Vw → α → β → Prop} {es : List Nat} {g : Env → St → Rz α} {k : α → St → Option (Out × St)} (F : Fr f X0 ρ H s own e σ) (hc : f.cl = cl) (hd : ∀ i ∈ es, i ∉ own)
    (h : (g e s).run e own k = some (o, s')) (E : EndOk W f D o s') :
    tG cl W V es g σ H fun u H1 => ∃ (w1 : Vw) (a : α) (s1 : St), w1.H = H1 ∧ GrE (f.vw X0 ρ H own σ) w1 ∧ Rel w1 s1 ∧ V (f.vw X0 ρ H own σ) w1 a u ∧ k a s1 = some (o, s') := by
  refine ⟨f.vw X0 ρ H own σ, e, s, rfl, hc, F.xr hd, ?_⟩
  unfold Goes
  cases q : g e s with
  | no => rw [q] at h; cases h
  | ok a s1 =>
    rw [q] at h
    exact fun w' u R G v => ⟨w', a, s1, rfl, G, R, v, h⟩
  | ex c fs s1 =>
    rw [q] at h
    cases h
    intro w' d R G x oc
    rw [← hc] at oc ⊢
    exact E w'.ρ w'.H σ d (F.grow' G R) x oc
theorem Gr.same {w2 : Vw} (hc : w2.cl = w.cl) (hρ : w2.ρ = w.ρ) (hH : w2.H = w.H) (hz : ∀ a, w2.Z a → w.Z a) : Gr w w2 :=
  ⟨hc, fun n a h => by rw [hρ]; exact h, fun a o q h1 h2 => ⟨by rw [hH]; exact q, fun z => h1 (hz a z), by rw [hρ]; exact h2⟩, fun a o q _ => by rw [hH]; exact q⟩
theorem OW.same {w2 : Vw} {p : PV} {a : Addr} (h : OW w p a) (hc : w2.cl = w.cl) (hρ : w2.ρ = w.ρ) (hH : w2.H = w.H) (hz : ∀ a, w2.Z a → w.Z a) : OW w2 p a :=
  h.gr (Gr.same hc hρ hH hz) (fun o q => by rw [hH]; exact q) (by rw [hρ]; exact h.1)
theorem relG {r : List Nat} : Gr (f.vw X ρ H own σ) (f.vw X ρ H (Pu.rel own r) σ) := Gr.same rfl rfl rfl fun _ z => z.imp (fun z => z.imp id (Owns.sub fun _ hj => (mem_rel.mp hj).1)) id
theorem notRel {r : List Nat} : ∀ i ∈ r, i ∉ Pu.rel own r := fun i h z => (mem_rel.mp z).2 h
theorem notRelL {r r' : List Nat} : ∀ i ∈ r, i ∉ Pu.rel own (r ++ r') := fun i h z => (mem_rel.mp z).2 (List.mem_append_left _ h)
/-- slot i gets what an expression made -/
theorem Fr.put (F : Fr f X ρ H s own e σ) (g : GrE (f.vw X ρ H own σ) w) (R : Rel w s1) {r : PV × Bool} {u : V} (v : VF (f.vw X ρ H own σ) w r u) (i : Nat) :
    Fr f X w.ρ w.H s1 (Pu.own1 own i r) (e.set i (some r.1)) (σ.set i (some u)) := by
  have ni : i ∉ Pu.rel own [i] := notRel i (by simp)
  have e2 := Fr.eq_vw g
  unfold Pu.own1
  by_cases c : (r.2 && r.1.isM) = true
  · rw [if_pos c]
    rw [Bool.and_eq_true] at c
    obtain ⟨a, rfl, h0, ow⟩ := v.2 c.1 c.2
    obtain ⟨oa, qa, _⟩ := ow.some
    have h1 := (F.hide g R h0 qa).release [i]
    refine h1.gain ni (fun x => ?_) ?_
    · obtain ⟨o, q⟩ := F.rel.zin a (.inr x)
      have h0 : H a = none := h0
      have q : H a = some o := q
      rw [h0] at q; cases q
    · refine ow.same g.cls.symm rfl rfl fun b z => ?_
      have zE := g.zE
      show w.Z b ∨ b = a
      rw [zE]
      rcases z with (z | z) | z | z
      · exact .inl (.inl (.inl z))
      · exact .inl (.inl (.inr (z.sub fun j hj => (mem_rel.mp hj).1)))
      · exact .inl (.inr z)
      · exact .inr z
  · rw [if_neg c]
    have F1 := (F.grow' g R).release [i]
    refine F1.set ni ?_
    have rv := v.1
    rw [e2] at rv
    exact rv.mo (Gr.less (w := f.vw X w.ρ w.H own σ) (Z' := (f.vw X w.ρ w.H (Pu.rel own [i]) σ).Z) fun b z => z.imp (fun z => z.imp id (Owns.sub fun j hj => (mem_rel.mp hj).1)) id) _ _
theorem s_asg {i : Nat} {x : XE} (h : tS cl W (pS C (.asg (.nm i) x)) D σ H) : tAsg (tF cl W C x) (gName i) D σ H := by
  obtain ⟨f, ρ, s, own, e, o, s', hc, F, h, E⟩ := h
  unfold pS at h
  refine tG_then (run_tG (V := VF) (F.release (esc x ++ bare x)) hc notRel h E) fun u H1 h => ?_
  obtain ⟨w1, r, s1, rfl, g, R, v, h⟩ := h
  cases h
  exact E _ _ _ ((F.release _).put g R v i)
/-- behind a target -/
theorem Fr.asn (F : Fr f X ρ H s own e σ) {slots : List Nat} {e' : Env} {σ' : L2.St} (hd : ∀ i ∈ slots, i ∉ own)
    (x : XR (f.vw X ρ H own σ) s ((List.range e.length).filter (fun i => !own.contains i) ++ slots) e' σ') (le : e'.length = e.length) (fe : ∀ j, j ∉ slots → e'[j]? = e[j]?) (l2 : σ'.length = σ.length) (f2 : ∀ j, j ∉ slots → σ'[j]? = σ[j]?) :
    Fr f X ρ H s own e' σ' := by
  have sm : ∀ j ∈ own, σ'[j]? = σ[j]? := fun j h => f2 j fun z => hd j z h
  have ev : f.vw X ρ H own σ' = f.vw X ρ H own σ := vw_congr sm
  refine ⟨F.base, by rw [ev]; exact F.rel, F.zh, fun a x => ⟨(F.xn a x).1, fun z => (F.xn a x).2 ((owns_congr sm a).mp z)⟩, x.len, ?_, ?_, fun a z => F.nz a ((owns_congr sm a).mp z), ?_⟩
  · rw [ev]
    intro j q h n
    obtain ⟨u, u1, _, u3⟩ := x.val j q h
    refine ⟨u, u1, u3 ?_⟩
    by_cases z : j ∈ slots
    · exact List.mem_append_right _ z
    · refine List.mem_append_left _ (List.mem_filter.mpr ⟨List.mem_range.mpr ?_, by simpa using n⟩)
      have := lt_of_get h
      rw [le] at this
      exact this
  · rw [ev]
    intro j q h n
    have z : j ∉ slots := fun z => hd j z n
    rw [fe j z] at h
    rw [f2 j z]
    exact F.owv j q h n
  · intro j k a n1 n2 q1 q2
    rw [sm j n1] at q1
    rw [sm k n2] at q2
    exact F.inj j k a n1 n2 q1 q2
theorem gT_fr (F : Fr f X ρ H s own e σ) {tg : TgE} {p : PV} {v : V} {e' : Env} {Q : L2.St → Hp → Prop} (hd : ∀ i ∈ tg.slots, i ∉ own) (r : RV (f.vw X ρ H own σ) p v) (h : asn tg p e = some e') (k : ∀ σ', Fr f X ρ H s own e' σ' → Q σ' H) : gT tg v σ H Q :=
  ⟨f.vw X ρ H own σ, e, s, (List.range e.length).filter (fun i => !own.contains i), p, e', rfl, F.xr (by simp), r, h, fun σ' x l2 f2 => k σ' (F.asn hd x (by rw [x.len, l2, F.len]) (fun j hj => asn_out tg p e e' h j hj) l2 f2)⟩
theorem s_asgT {K : PySem.W.Frag} {l : List TgE} {x : XE} {n : Nat} (hn : n = l.length) (h : tS cl W (pS C (.asg (.tp l) x)) D σ H) : tAsg (tF cl W C x) (gTup K n (gTs l)) D σ H := by
  obtain ⟨f, ρ, s, own, e, o, s', hc, F, h, E⟩ := h
  unfold pS at h
  refine tG_then (run_tG (V := VF) (F.release (esc x ++ bare x)) hc notRel h E) fun u H1 h => ?_
  obtain ⟨w1, r, s1, rfl, g, R, v, h⟩ := h
  obtain ⟨p, fr⟩ := r
  cases p with
  | tup xs =>
    dsimp only at h
    obtain ⟨e2, q, h⟩ := Option.bind_eq_some_iff.mp h
    rw [if_pos rfl] at h
    cases h
    have e3 := Fr.eq_vw g
    have F1 := ((F.release (esc x ++ bare x)).grow' g R).release (TgE.slotsL l)
    have rv := v.1
    rw [e3] at rv
    have rv := rv.mo (Gr.less (w := f.vw X0 w1.ρ w1.H (Pu.rel own (esc x ++ bare x)) σ) (Z' := (f.vw X0 w1.ρ w1.H (Pu.rel (Pu.rel own (esc x ++ bare x)) (TgE.slotsL l)) σ).Z) fun b z => z.imp (fun z => z.imp id (Owns.sub fun j hj => (mem_rel.mp hj).1)) id) _ _
    have hq : asn (.tp l) (.tup xs) e = some e2 := by unfold asn; exact q
    have G := gT_fr (tg := .tp l) F1 (Q := D.nx) (fun i hi => by unfold TgE.slots at hi; exact notRel i hi) rv hq fun σ' F2 => E _ _ _ F2
    exact g_tp hn G
  | _ =>
    dsimp only at h
    obtain ⟨e2, q, h⟩ := Option.bind_eq_some_iff.mp h
    rw [if_neg (by decide)] at h
    cases h
theorem s_ex {x : XE} (h : tS cl W (pS C (.ex x)) D σ H) : tDrop (tR cl W C x) D σ H := by
  obtain ⟨f, ρ, s, own, e, o, s', hc, F, h, E⟩ := h
  unfold pS at h
  refine tG_then (run_tG (V := VR) (F.release (esc x)) hc notRel h E) fun u H1 h => ?_
  obtain ⟨w1, r, s1, rfl, g, R, v, h⟩ := h
  cases h
  exact E _ _ _ ((F.release _).grow' g R)
theorem s_pass (h : tS cl W (pS C .pass) D σ H) : tNext D σ H := by
  obtain ⟨f, ρ, s, own, e, o, s', hc, F, h, E⟩ := h
  unfold pS at h
  cases h
  exact E _ _ _ F
theorem s_brk (h : tS cl W (pS C .brk) D σ H) : tBreak D σ H := by
  obtain ⟨f, ρ, s, own, e, o, s', hc, F, h, E⟩ := h
  unfold pS at h
  cases h
  exact E _ _ _ F
theorem s_cnt (h : tS cl W (pS C .cnt) D σ H) : tCont D σ H := by
  obtain ⟨f, ρ, s, own, e, o, s', hc, F, h, E⟩ := h
  unfold pS at h
  cases h
  exact E _ _ _ F
theorem s_never (h : tS cl W (pS C .never) D σ H) : tNever D σ H := by
  obtain ⟨f, ρ, s, own, e, o, s', hc, F, h, E⟩ := h
  unfold pS at h
  cases h
/-- a returned value: nothing is owned any more -/
theorem Fr.bare (F : Fr f X0 ρ H s own e σ) : Rel (f.wZ ρ H) s := F.rel.view (Z := f.Zh) fun a z => F.rel.zin a (.inl (.inl z))
theorem Fr.bareG (F : Fr f X0 ρ H s own e σ) : Gr (f.vw X0 ρ H own σ) (f.wZ ρ H) := Gr.less (w := f.vw X0 ρ H own σ) (Z' := f.Zh) fun a z => .inl (.inl z)
theorem s_retN (h : tS cl W (pS C .retN) D σ H) : tRetN D σ H := by
  obtain ⟨f, ρ, s, own, e, o, s', hc, F, h, E⟩ := h
  unfold pS at h
  cases h
  exact E ρ H _ F.base F.bare rv_non' fun h => by cases h
theorem s_ret {x : XE} (hx : ∀ own, ownV own x = false) (h : tS cl W (pS C (.ret x)) D σ H) : tRet (tF cl W C x) D σ H := by
  obtain ⟨f, ρ, s, own, e, o, s', hc, F, h, E⟩ := h
  unfold pS at h
  have F1 := F.release (esc x ++ bare x)
  refine tG_then (run_tG (V := VF) F1 hc notRel h E) fun u H1 h => ?_
  obtain ⟨w1, r, s1, rfl, g, R, v, h⟩ := h
  cases h
  have e2 := Fr.eq_vw g
  have F2 := F1.grow' g R
  have g2 := F2.bareG
  rw [← e2] at g2
  refine E w1.ρ w1.H u F2.base F2.bare (v.1.mo g2 _ _) fun fr m => ?_
  rw [hx, Bool.or_false] at fr
  obtain ⟨a, rfl, h0, ow⟩ := v.2 fr m
  refine ⟨a, rfl, .inl (F.base.live a h0), ow.same g.cls.symm rfl rfl fun b z => ?_⟩
  have zE := g.zE
  show w1.Z b ∨ b = a
  rw [zE]
  exact z.imp (fun z => .inl (.inl z)) id
theorem s_retV {i : Nat} (h : tS cl W (pS C (.ret (.v i))) D σ H) : tRet (tVar i) D σ H := by
  obtain ⟨f, ρ, s, own, e, o, s', hc, F, h, E⟩ := h
  unfold pS pX pE at h
  cases q : e[i]? with
  | none => simp only [q] at h; cases h
  | some o2 =>
    cases o2 with
    | none => simp only [q] at h; cases h
    | some p =>
      simp only [q, Rz.bind, Rz.run] at h
      cases h
      by_cases hi : i ∈ own
      · obtain ⟨a, qa, ow⟩ := F.owv i p q hi
        have hz := F.notZh (F.nz a ⟨i, hi, qa⟩)
        refine ⟨_, qa, E ρ H _ F.base F.bare ((ow.gr F.bareG (fun _ h => h) ow.1).rv hz) fun _ _ => ⟨a, rfl, F.nz a ⟨i, hi, qa⟩, ow.same rfl rfl rfl fun b z => ?_⟩⟩
        rcases z with z | z
        · exact .inl (.inl z)
        · exact .inl (.inr ⟨i, hi, by rw [z]; exact qa⟩)
      · obtain ⟨v, qv, rv⟩ := F.val i p q hi
        refine ⟨v, qv, E ρ H v F.base F.bare (rv.mo F.bareG _ _) fun fr => ?_⟩
        exfalso
        unfold freshB ownV at fr
        simp [hi] at fr
/-! ### suites -/
theorem b_nil (h : tS cl W (pB C .nil) D σ H) : tNext D σ H := by
  obtain ⟨f, ρ, s, own, e, o, s', hc, F, h, E⟩ := h
  unfold pB at h
  cases h
  exact E _ _ _ F
theorem b_cons {st : XS} {r : XB} (h : tS cl W (pB C (.cons st r)) D σ H) : tS cl W (pS C st) { D with nx := tS cl W (pB C r) D } σ H := by
  obtain ⟨f, ρ, s, own, e, o, s', hc, F, h, E⟩ := h
  unfold pB at h
  cases q : pS C st e own s with
  | none => simp only [q] at h; cases h
  | some q2 =>
    obtain ⟨o1, s1⟩ := q2
    simp only [q] at h
    refine ⟨f, ρ, s, own, e, o1, s1, hc, F, q, ?_⟩
    cases o1 with
    | nx e1 own1 => exact fun ρ1 H1 σ1 F1 => ⟨f, ρ1, s1, own1, e1, o, s', hc, F1, h, E⟩
    | rt v fr => cases h; exact E
    | bk e1 own1 => cases h; exact E
    | ct e1 own1 => cases h; exact E
    | ex c fs e1 own1 => cases h; exact E
theorem s_iff {t : XE} {a b : XB} (h : tS cl W (pS C (.iff t a b)) D σ H) : tIfS (tT cl W C t) (tS cl W (pB C a)) (tS cl W (pB C b)) D σ H := by
  obtain ⟨f, ρ, s, own, e, o, s', hc, F, h, E⟩ := h
  unfold pS at h
  have F1 := F.release (esc t)
  refine tG_then (run_tG (V := VB) (g := fun e s => (pE C t e s).bind asB) F1 hc notRel h E) fun u H1 h => ?_
  obtain ⟨w1, c, s1, rfl, g, R, v, h⟩ := h
  have v : c = u := v
  subst v
  have F2 := F1.grow' g R
  cases c with
  | true =>
    rw [if_pos rfl] at h
    rw [if_pos rfl]
    exact ⟨f, _, s1, _, e, o, s', hc, F2, h, E⟩
  | false =>
    rw [if_neg (by decide)] at h
    rw [if_neg (by decide)]
    exact ⟨f, _, s1, _, e, o, s', hc, F2, h, E⟩
/-! ### op=, stores -/
theorem s_aug {i : Nat} {op : Bop} {a : XE} {g : Int → Int → Int} (hop : ∀ x y, bop op (.int x) (.int y) = some (.int (g x y))) (h : tS cl W (pS C (.aug i op a)) D σ H) : tAug i (tR cl W C a) (ipI g) D σ H := by
  obtain ⟨f, ρ, s, own, e, o, s', hc, F, h, E⟩ := h
  unfold pS at h
  have F1 := F.release (esc a)
  split at h
  · rename_i x qx
    have ni : i ∉ Pu.rel own (esc a) := fun m => by
      obtain ⟨b, _, ow⟩ := F1.owv i _ qx m
      exact ow.2.elim
    obtain ⟨v, qv, rv⟩ := F1.val i _ qx ni
    cases rv_int (.inl rv)
    refine ⟨_, qv, tG_then (run_tG (V := VR) F1 hc notRel h E) fun u H1 h => ?_⟩
    obtain ⟨w1, r, s1, rfl, G, R, v, h⟩ := h
    split at h
    · rename_i y
      rw [hop] at h
      cases h
      cases rv_int v
      exact ⟨x, y, rfl, rfl, E _ _ _ ((F1.grow' G R).set ni (rv_int' _))⟩
    · cases h
  · cases h
theorem goes_tG {α β : Type} {V : Vw → Vw → α → β → Prop} {es : List Nat} {g : Env → St → Rz α} (F : Fr f X0 ρ H s own e σ) (g0 : GrE (f.vw X0 ρ H own σ) w1) (R : Rel w1 s1) (hc : f.cl = cl) (hd : ∀ i ∈ es, i ∉ own)
    {k : α → St → Option (Out × St)} (h : (g e s1).run e own k = some (o, s')) (E : EndOk W f D o s') :
    tG cl W V es g σ w1.H fun u H2 => ∃ (w2 : Vw) (a : α) (s2 : St), w2.H = H2 ∧ GrE w1 w2 ∧ GrE (f.vw X0 ρ H own σ) w2 ∧ Rel w2 s2 ∧ V w1 w2 a u ∧ k a s2 = some (o, s') := by
  have e1 := Fr.eq_vw g0
  have F1 := F.grow' g0 R
  refine tG_then (run_tG (V := V) F1 hc hd h E) fun u H2 h => ?_
  obtain ⟨w2, a, s2, rfl, g, R2, v, h⟩ := h
  rw [← e1] at g v
  exact ⟨w2, a, s2, rfl, g, g0.trans g, R2, v, h⟩
/-- a shared list is written -/
theorem GrE.wr {n : Nat} {a : Addr} (h : w.ρ[n]? = some a) {vs vs' : List V} (q : w.H a = some (.lst vs)) : GrE w (w.upd a (.lst vs')) := by
  have ne : ∀ b, b ∉ w.ρ → b ≠ a := fun b hb z => hb (by rw [z]; exact List.mem_of_getElem? h)
  refine ⟨rfl, fun _ _ h => h, fun b u q1 h1 => ?_, fun b u q1 i => ?_, rfl, fun _ h => .inl h, fun b q1 => ?_⟩
  · show L2.upd w.H a _ b = _
    rw [upd_ne (ne b h1)]
    exact q1
  · show L2.upd w.H a _ b = _
    rw [upd_ne fun z => ?_]
    · exact q1
    · rw [z, q] at q1
      cases q1
      exact i
  · have q1 : L2.upd w.H a (.lst vs') b = none := q1
    by_cases z : b = a
    · rw [z, upd_same] at q1; cases q1
    · rw [upd_ne z] at q1; exact q1
theorem Rel.wr (R : Rel w s) {n : Nat} {a : Addr} (h : w.ρ[n]? = some a) {vs vs' : List V} (q : w.H a = some (.lst vs)) {xs : List PV} (hs : xs.all shP = true) (r : RVs w xs vs') : Rel (w.upd a (.lst vs')) (s.set n xs) := by
  have g := GrE.wr (vs' := vs') h q
  refine ⟨by rw [List.length_set]; exact R.len, R.nd, fun m ys b h1 h2 => ?_, fun b z => ?_, fun m ys h1 => ?_⟩
  · have h2 : w.ρ[m]? = some b := h2
    rw [List.getElem?_set] at h1
    by_cases z : n = m
    · subst z
      rw [h] at h2
      cases h2
      rw [if_pos rfl] at h1
      split at h1
      · cases h1
        exact ⟨vs', upd_same, r.mo g.gr _ _⟩
      · cases h1
    · rw [if_neg z] at h1
      obtain ⟨us, q1, r1⟩ := R.pen m ys b h1 h2
      have ne : b ≠ a := fun y => by
        rw [y] at h2
        exact z ((List.getElem?_inj (lt_of_get h) R.nd).mp (h.trans h2.symm))
      exact ⟨us, by show L2.upd w.H a _ b = _; rw [upd_ne ne]; exact q1, r1.mo g.gr _ _⟩
  · obtain ⟨u, q1⟩ := R.zin b z
    by_cases y : b = a
    · exact ⟨.lst vs', by rw [y]; exact upd_same⟩
    · exact ⟨u, by show L2.upd w.H a _ b = _; rw [upd_ne y]; exact q1⟩
  · rw [List.getElem?_set] at h1
    by_cases z : n = m
    · rw [if_pos z] at h1
      split at h1
      · cases h1; exact hs
      · cases h1
    · rw [if_neg z] at h1
      exact R.sh m ys h1
theorem all_set {xs : List PV} {v : PV} (h : xs.all shP = true) (hv : shP v = true) (k : Nat) : (xs.set k v).all shP = true := by
  rw [List.all_eq_true] at h ⊢
  intro y hy
  rcases List.mem_or_eq_of_mem_set hy with z | z
  · exact h y z
  · rw [z]; exact hv
theorem s_setIx {i : Nat} {x a : XE} (h : tS cl W (pS C (.setIx i x a)) D σ H) : tAsg (tV cl W C a) (gSub (tVar i) (tR cl W C x) rSet) D σ H := by
  obtain ⟨f, ρ, s, own, e, o, s', hc, F, h, E⟩ := h
  unfold pS at h
  have F1 := F.release (esc a ++ (bare a ++ esc x))
  split at h
  · rename_i p qp
    refine tG_then (run_tG (V := VV) F1 hc (fun j hj z => (mem_rel.mp z).2 (by simp only [List.mem_append] at hj ⊢; grind)) h E) fun u H1 h => ?_
    obtain ⟨w1, v, s1, rfl, g, R, rv, h⟩ := h
    have F2 := F1.grow' g R
    have e1 := Fr.eq_vw g
    obtain ⟨y, qy⟩ : ∃ y, σ[i]? = some (some y) := by
      by_cases m : i ∈ Pu.rel own (esc a ++ (bare a ++ esc x))
      · obtain ⟨b, q, _⟩ := F1.owv i p qp m; exact ⟨_, q⟩
      · obtain ⟨b, q, _⟩ := F1.val i p qp m; exact ⟨_, q⟩
    refine ⟨y, qy, tG_then (run_tG (V := VR) F2 hc (fun j hj z => (mem_rel.mp z).2 (by simp only [List.mem_append] at hj ⊢; grind)) h E) fun j H2 h => ?_⟩
    obtain ⟨w2, jv, s2, rfl, g2, R2, rj, h⟩ := h
    have e2 := Fr.eq_vw g2
    have F3 := F2.grow' g2 R2
    have rv2 : RV w2 v u := by rw [e1] at rv; exact rv.mo g2.gr _ _
    cases p with
    | lv xs =>
      cases jv with
      | int j0 =>
        dsimp only at h
        by_cases hi : (Pu.rel own (esc a ++ (bare a ++ esc x))).contains i = true
        · rw [if_pos hi] at h
          obtain ⟨k, qk, h⟩ := Option.map_eq_some_iff.mp h
          cases h
          have hi : i ∈ Pu.rel own (esc a ++ (bare a ++ esc x)) := by simpa using hi
          obtain ⟨b, qb, ow⟩ := F3.owv i _ qp hi
          rw [qb] at qy
          cases qy
          obtain ⟨bρ, vs, hb, rx⟩ := ow
          cases rv_int rj
          rw [e2] at rv2
          exact ⟨f.vw X0 w2.ρ w2.H _ σ, b, xs, vs, j0, k, v, rfl, rfl, hb, rx, rfl, rv2, qk, fun vs' r' => E _ _ _ (F3.change hi qp qb fun g => ⟨bρ, vs', upd_same, r'.mo g _ _⟩)⟩
        · rw [if_neg hi] at h; cases h
      | _ => cases h
    | ref n =>
      cases jv with
      | int j0 =>
        dsimp only at h
        by_cases hv : shP v = true
        · rw [if_pos hv] at h
          cases qn : s2[n]? with
          | none => simp only [qn] at h; cases h
          | some xs =>
            simp only [qn] at h
            obtain ⟨k, qk, h⟩ := Option.map_eq_some_iff.mp h
            cases h
            have ni : i ∉ Pu.rel own (esc a ++ (bare a ++ esc x)) := fun m => by
              obtain ⟨b, _, ow⟩ := F1.owv i _ qp m
              exact ow.2.elim
            obtain ⟨y2, qy2, ry⟩ := F3.val i _ qp ni
            rw [qy] at qy2
            cases qy2
            obtain ⟨b, rfl, qb⟩ := rv_ref (.inl ry)
            obtain ⟨vs, hb, rx⟩ := F3.rel.pen n xs b qn qb
            cases rv_int rj
            rw [e2] at rv2
            refine ⟨f.vw X0 w2.ρ w2.H _ σ, b, xs, vs, j0, k, v, rfl, rfl, hb, rx, rfl, rv2, qk, fun vs' r' => E w2.ρ (L2.upd w2.H b (.lst vs')) σ ?_⟩
            exact F3.grow (GrE.wr (w := f.vw X0 w2.ρ w2.H _ σ) qb hb) (F3.rel.wr qb hb (all_set (F3.rel.sh n xs qn) hv k) r')
        · rw [if_neg hv] at h; cases h
      | _ => cases h
    | _ => cases jv <;> cases h
  · cases h
theorem VVs_def {w w' : Vw} {ps : List PV} {us : List V} (h : VVs w w' ps us) : RVs w' ps us := h
/-- i.append(..) .. -/
theorem chg_go {m : Chg} {i : Nat} {es : XL} {k : PV × List PV → Out} {Q : VK} {own : Own} {xs : List PV} (hc : f.cl = cl) (F1 : Fr f X0 ρ H s own e σ) (hd : ∀ j ∈ escL es ++ bareL es, j ∉ own) (qp : e[i]? = some (some (.lv xs))) (hi : i ∈ own)
    (h : ((pL C es e s).run e own fun vs s => (Pu.chg m xs vs).map fun r => (k r, s)) = some (o, s')) (E : EndOk W f D o s')
    (kk : ∀ r xs' ρ1 H1 u, EndOk W f D (k (r, xs')) s' → Fr f X0 ρ1 H1 s' own (e.set i (some (.lv xs'))) σ → RV (f.vw X0 ρ1 H1 own σ) r u → Q u H1) (K : PySem.W.Frag) : tBM K "list" (rC m) (tVar i) (tVs cl W C es) σ H Q := by
  obtain ⟨b, qb, ow⟩ := F1.owv i _ qp hi
  obtain ⟨bρ, us0, hb, rx⟩ := ow
  refine ⟨_, qb, .inl ⟨rfl, _, SqL.of hb⟩, tG_then (run_tG (V := VVs) F1 hc hd h E) fun us H1 h => ?_⟩
  obtain ⟨w1, ps, s1, rfl, g, R, rv, h⟩ := h
  have e1 := Fr.eq_vw g
  have F2 := F1.grow' g R
  rw [e1] at rv
  obtain ⟨r, qr, h⟩ := Option.map_eq_some_iff.mp h
  cases h
  obtain ⟨b2, qb2, ow2⟩ := F2.owv i _ qp hi
  rw [qb] at qb2
  cases qb2
  obtain ⟨bρ, us1, hb1, rx1⟩ := ow2
  obtain ⟨r, xs'⟩ := r
  refine ⟨f.vw X0 w1.ρ w1.H own σ, b, xs, ps, us1, r, xs', rfl, rfl, hb1, rx1, rv, qr, fun u vs' ru rvs => ?_⟩
  have gg : Gr (f.vw X0 w1.ρ w1.H own σ) (f.vw X0 w1.ρ (L2.upd w1.H b (.lst vs')) own σ) → RV (f.vw X0 w1.ρ (L2.upd w1.H b (.lst vs')) own σ) r u := fun g => ru.mo g _ _
  have F3 := F2.change (o := .lst vs') (p' := .lv xs') hi qp qb fun g => ⟨bρ, vs', upd_same, rvs.mo g _ _⟩
  refine kk r xs' w1.ρ (L2.upd w1.H b (.lst vs')) u E F3 (gg (Fr.change_gr F2 hi qp qb))
theorem s_chg {K : PySem.W.Frag} {m : Chg} {i : Nat} {es : XL} (h : tS cl W (pS C (.chg m i es)) D σ H) : tDrop (tBM K "list" (rC m) (tVar i) (tVs cl W C es)) D σ H := by
  obtain ⟨f, ρ, s, own, e, o, s', hc, F, h, E⟩ := h
  unfold pS at h
  have F1 := F.release (escL es ++ bareL es)
  split at h
  · rename_i xs qp
    by_cases hi : (Pu.rel own (escL es ++ bareL es)).contains i = true
    · rw [if_pos hi] at h
      exact chg_go hc F1 notRel qp (by simpa using hi) h E (fun r xs' ρ1 H1 u E F _ => E _ _ _ F) K
    · rw [if_neg hi] at h; cases h
  · cases h
theorem s_asgC {K : PySem.W.Frag} {m : Chg} {i j : Nat} {es : XL} (h : tS cl W (pS C (.asgC j m i es)) D σ H) : tAsg (tBM K "list" (rC m) (tVar i) (tVs cl W C es)) (gName j) D σ H := by
  obtain ⟨f, ρ, s, own, e, o, s', hc, F, h, E⟩ := h
  unfold pS at h
  have F1 := F.release (escL es ++ bareL es)
  split at h
  · rename_i xs qp
    by_cases hi : ((Pu.rel own (escL es ++ bareL es)).contains i && !(i == j)) = true
    · rw [if_pos hi] at h
      rw [Bool.and_eq_true] at hi
      refine chg_go hc F1 notRel qp (by simpa using hi.1) h E (fun r xs' ρ1 H1 u E F ru => ?_) K
      exact E _ _ _ ((F.release [j]).set (notRel j (by simp)) (ru.mo relG _ _))
    · rw [if_neg hi] at h; cases h
  · cases h
end
end Pu

set_option linter.all false
set_option autoImplicit false
set_option maxRecDepth 100000
set_option maxHeartbeats 4000000
/-! P19: loops, several assignments at once, shared lists. -/
namespace Pu
open PySem PySem.Spec PyProof.Rows L2
/-- the frame of a loop that begins here -/
abbrev Fb.at (f : Fb) (ρ : List Addr) (H : Hp) (own : Own) (σ : L2.St) : Fb := ⟨f.cl, ρ, H, f.Zh, Owns own σ⟩
section
variable {f : Fb} {ρ ρ1 ρI : List Addr} {H H1 HI : Hp} {s s1 s' sI : St} {own own1 ownI : Own} {e e1 eI : Env} {σ σ1 σI : L2.St} {w w1 : Vw} {X : Addr → Prop} {cl : Cl} {W : WX} {D : Ends} {C : Nat → List PV → St → Rz (PV × Bool)} {o : Out}
theorem Fr.start (F : Fr f X0 ρ H s own e σ) : Fr (f.at ρ H own σ) X0 ρ H s own e σ := by
  refine ⟨⟨fun _ _ h => h, fun a o h _ _ => h, fun a o h _ => h, fun a h => .inl h, fun a h => h⟩, F.rel, fun a z => ⟨?_, fun y => F.notZh (F.nz a y) z⟩, fun a x => x.elim, F.len, F.val, F.owv, fun a z => .inr z, F.inj⟩
  obtain ⟨⟨o, q⟩, _⟩ := F.zh a z
  cases c : H a with
  | none => rw [F.base.live a c] at q; cases q
  | some u => exact ⟨u, c⟩
theorem Bs.comp (F : Fr f X0 ρI HI sI ownI eI σI) (b : Bs (f.at ρI HI ownI σI) ρ H) : Bs f ρ H where
  pre := fun n a h => b.pre n a (F.base.pre n a h)
  all := fun a o h h1 h2 => b.all a o (F.base.all a o h h1 h2) (fun z => by
    rcases F.base.newρ a z with q | q
    · exact h1 q
    · rw [h] at q; cases q) (F.hidden h h2)
  imm := fun a o h i => b.imm a o (F.base.imm a o h i) i
  newρ := fun a h => by
    rcases b.newρ a h with q | q
    · exact F.base.newρ a q
    · exact .inr (F.base.live a q)
  live := fun a h => F.base.live a (b.live a h)
theorem Fr.new_or (F : Fr f X0 ρI HI sI ownI eI σI) {a : Addr} (h : HI a = none ∨ Owns ownI σI a) : f.H0 a = none ∨ f.Y a := by
  rcases h with h | h
  · exact .inl (F.base.live a h)
  · exact F.nz a h
theorem Fr.comp (F : Fr f X0 ρI HI sI ownI eI σI) (G : Fr (f.at ρI HI ownI σI) X0 ρ H s own e σ) : Fr f X0 ρ H s own e σ :=
  ⟨Bs.comp F G.base, G.rel, F.zh, fun _ x => x.elim, G.len, G.val, G.owv, fun a z => F.new_or (G.nz a z), G.inj⟩
theorem EndOk.comp (F : Fr f X0 ρI HI sI ownI eI σI) {o : Out} (E : EndOk W f D o s) : EndOk W (f.at ρI HI ownI σI) D o s := by
  cases o with
  | nx e own => exact fun ρ H σ G => E ρ H σ (F.comp G)
  | bk e own => exact fun ρ H σ G => E ρ H σ (F.comp G)
  | ct e own => exact fun ρ H σ G => E ρ H σ (F.comp G)
  | rt v fr => exact fun ρ H u b R r fw => E ρ H u (Bs.comp F b) R r fun h m => (fw h m).imp fun a q => ⟨q.1, F.new_or q.2.1, q.2.2⟩
  | ex c fs e own => exact fun ρ H σ d G x oc => E ρ H σ d (F.comp G) x oc
/-- what was known at the loop's start stays known -/
theorem Fr.gr (F : Fr f X0 ρ H s own e σ) : Gr ⟨f.cl, f.ρ0, fun a => f.Zh a ∨ f.Y a, f.H0⟩ (f.vw X0 ρ H own σ) := by
  refine ⟨rfl, F.base.pre, fun a o q h1 h2 => ⟨F.base.all a o q h2 fun y => h1 (.inr y), fun z => ?_, fun z => ?_⟩, F.base.imm⟩
  · rcases z with (z | z) | z
    · exact h1 (.inl z)
    · rcases F.nz a z with n | n
      · have q : f.H0 a = some o := q
        rw [n] at q; cases q
      · exact h1 (.inr n)
    · exact z
  · rcases F.base.newρ a z with n | n
    · exact h2 n
    · have q : f.H0 a = some o := q
      rw [n] at q; cases q
/-- the ends of a turn of a loop -/
theorem EndOk.loop {D : Ends} {N : L2.St → Hp → Prop} {o1 : Out} {kills : List Nat}
    (k : match o1 with
      | .nx e own => ∀ ρ H σ, Fr f X0 ρ H s1 (Pu.rel own kills) (wipeE e kills) σ → N σ H
      | .ct e own => ∀ ρ H σ, Fr f X0 ρ H s1 (Pu.rel own kills) (wipeE e kills) σ → N σ H
      | .bk e own => EndOk W f D (.nx e own) s1
      | .rt v fr => EndOk W f D (.rt v fr) s1
      | .ex c fs e own => EndOk W f D (.ex c fs e own) s1) : EndOk W f { D with nx := N, ct := N, bk := D.nx } o1 s1 := by
  cases o1 with
  | nx e own => exact fun ρ H σ F => k ρ H σ (F.kill kills)
  | ct e own => exact fun ρ H σ F => k ρ H σ (F.kill kills)
  | bk e own => exact k
  | rt v fr => exact k
  | ex c fs e own => exact k
theorem s_for {tg : TgE} {it : XI} {body : XB} {kills : List Nat} (h : tS cl W (pS C (.for tg it body kills)) D σ H) : tFor (tI cl W C it) (gT tg) (tS cl W (pB C body)) D σ H := by
  obtain ⟨f, ρ, s, own, e, o, s', hc, F, h, E⟩ := h
  unfold pS at h
  refine tG_then (run_tG (V := VI) (F.release (escI it ++ bareI it)) hc notRel h E) fun J H1 h => ?_
  obtain ⟨w1, xs, s1, rfl, g, R, jr, h⟩ := h
  have e1 := Fr.eq_vw g
  have F1 := (F.release (escI it ++ bareI it)).grow' g R
  generalize Pu.rel own (escI it ++ bareI it) = own1 at *
  have jr : JR xs w1 J := jr
  obtain ⟨fI, hI⟩ : ∃ fI, fI = f.at w1.ρ w1.H own1 σ := ⟨_, rfl⟩
  have FI : Fr fI X0 w1.ρ w1.H s1 own1 e σ := hI ▸ F1.start
  have EI : EndOk W fI D o s' := hI ▸ EndOk.comp F1 E
  have hcI : fI.cl = cl := by rw [hI]; exact hc
  have gI : ∀ (ρ : List Addr) (H : Hp) (s : St) (own : Own) (e : Env) (σ2 : L2.St), Fr fI X0 ρ H s own e σ2 → Gr w1 (fI.vw X0 ρ H own σ2) := fun ρ2 H2 s2 own2 e2 σ2 G => by
    have g1 := G.gr
    have g0 : Gr w1 ⟨fI.cl, fI.ρ0, fun a => fI.Zh a ∨ fI.Y a, fI.H0⟩ := by
      rw [e1, hI]
      exact Gr.same rfl rfl rfl fun a z => .inl z
    exact g0.trans g1
  clear hI E F1
  refine ⟨fun i m σ H => ∃ ρ s own e, Fr fI X0 ρ H s own e σ ∧ forP (forTurn tg kills (fun σ w s => pB C body σ w s)) (xs.drop i) e own s = some (o, s') ∧ m = xs.length - i, ⟨xs.length, _, _, _, _, FI, h, rfl⟩, ?_⟩
  intro i m σ H wh
  obtain ⟨ρ, s, own, e, F, h, hm⟩ := wh
  have g2 := gI _ _ _ _ _ _ F
  cases qg : xs[i]? with
  | none =>
    have l := List.getElem?_eq_none_iff.mp qg
    rw [List.drop_eq_nil_of_le l] at h
    unfold forP at h
    cases h
    exact .inl ⟨jr.stop i _ g2 qg, EI _ _ _ F⟩
  | some v =>
    have l := lt_of_get qg
    have ed : xs.drop i = v :: xs.drop (i + 1) := by
      rw [List.drop_eq_getElem_cons l]
      congr 1
      rw [List.getElem?_eq_getElem l] at qg
      exact Option.some.inj qg
    rw [ed] at h
    unfold forP at h
    obtain ⟨j1, j2⟩ := jr.go i _ s v g2 F.rel qg
    refine .inr ⟨j1, fun σ H => ∃ ρ s own e, Fr fI X0 ρ H s own e σ ∧ forP (forTurn tg kills (fun σ w s => pB C body σ w s)) (xs.drop (i + 1)) e own s = some (o, s'), fun σ' H' n => ?_, fun x H' hy => ?_⟩
    · obtain ⟨ρ, s, own, e, a, b⟩ := n
      exact ⟨xs.length - (i + 1), by omega, ρ, s, own, e, a, b, rfl⟩
    · obtain ⟨w3, rfl, R3, g3, rv3⟩ := j2 x H' hy
      have e3 := Fr.eq_vw g3
      have F3 := (F.grow' g3 R3).release tg.slots
      rw [e3] at rv3
      unfold forTurn at h
      cases qa : asn tg v e with
      | none => simp only [qa] at h; cases h
      | some e2 =>
        simp only [qa] at h
        refine gT_fr F3 notRel (rv3.mo relG _ _) qa fun σ2 F4 => ?_
        cases qb : pB C body e2 (Pu.rel own tg.slots) s with
        | none => simp only [qb, Pu.kill] at h; cases h
        | some q =>
          obtain ⟨o1, s1⟩ := q
          refine ⟨fI, _, s, _, e2, o1, s1, hcI, F4, qb, EndOk.loop (kills := kills) ?_⟩
          simp only [qb, Pu.kill] at h
          cases o1 with
          | nx e5 own5 => exact fun ρ H σ F5 => ⟨ρ, _, _, _, F5, h⟩
          | ct e5 own5 => exact fun ρ H σ F5 => ⟨ρ, _, _, _, F5, h⟩
          | bk e5 own5 => cases h; exact EI
          | rt v fr => cases h; exact EI
          | ex c fs e5 own5 => cases h; exact EI
theorem s_wh {t : XE} {body : XB} {kills : List Nat} (h : tS cl W (pS C (.wh t body kills)) D σ H) : tWhile (tT cl W C t) (tS cl W (pB C body)) D σ H := by
  obtain ⟨f, ρ, s, own, e, o, s', hc, F, h, E⟩ := h
  unfold pS at h
  refine ⟨fun m σ H => ∃ ρ s own e, Fr f X0 ρ H s own e σ ∧ whP (esc t) (fun σ s => (pE C t σ s).bind asB) (fun σ w s => Pu.kill kills (pB C body σ w s)) m e own s = some (o, s'), ⟨_, _, _, _, _, F, h⟩, ?_⟩
  intro m σ H wh
  obtain ⟨ρ, s, own, e, F, h⟩ := wh
  cases m with
  | zero => unfold whP at h; cases h
  | succ m =>
    unfold whP at h
    have F1 := F.release (esc t)
    refine tG_then (run_tG (V := VB) (g := fun e s => (pE C t e s).bind asB) F1 hc notRel h E) fun u H1 h => ?_
    obtain ⟨w1, c, s1, rfl, g, R, v, h⟩ := h
    have v : c = u := v
    subst v
    have F2 := F1.grow' g R
    cases c with
    | true =>
      rw [if_pos rfl] at h
      rw [if_pos rfl]
      refine ⟨fun σ H => ∃ ρ s own e, Fr f X0 ρ H s own e σ ∧ whP (esc t) (fun σ s => (pE C t σ s).bind asB) (fun σ w s => Pu.kill kills (pB C body σ w s)) m e own s = some (o, s'), fun σ' H' n => ⟨m, Nat.lt_succ_self m, n⟩, ?_⟩
      cases qb : pB C body e (Pu.rel own (esc t)) s1 with
      | none => simp only [qb, Pu.kill] at h; cases h
      | some q =>
        obtain ⟨o1, s2⟩ := q
        refine ⟨f, _, s1, _, e, o1, s2, hc, F2, qb, EndOk.loop (kills := kills) ?_⟩
        simp only [qb, Pu.kill] at h
        cases o1 with
        | nx e5 own5 => exact fun ρ H σ F5 => ⟨ρ, _, _, _, F5, h⟩
        | ct e5 own5 => exact fun ρ H σ F5 => ⟨ρ, _, _, _, F5, h⟩
        | bk e5 own5 => cases h; exact E
        | rt v fr => cases h; exact E
        | ex c fs e5 own5 => cases h; exact E
    | false =>
      rw [if_neg (by decide)] at h
      rw [if_neg (by decide)]
      cases h
      exact E _ _ _ F2
/-! ### a list is shared from here on -/
theorem GrE.more (g : GrE w w1) {a : Addr} (h : w.H a = none) : GrE w { w1 with ρ := w1.ρ ++ [a] } := by
  refine ⟨g.cls, fun n b q => ?_, g.all, g.imm, g.zE, fun b q => ?_, g.live⟩
  · have := g.pre n b q
    show (w1.ρ ++ [a])[n]? = _
    rw [List.getElem?_append_left (lt_of_get this)]
    exact this
  · rcases List.mem_append.mp q with q | q
    · exact g.newρ b q
    · rw [List.mem_singleton.mp q]; exact .inr h
theorem Rel.more (R : Rel w s) {a : Addr} (na : a ∉ w.ρ) {xs : List PV} {vs : List V} (q : w.H a = some (.lst vs)) (hs : xs.all shP = true) (r : RVs w xs vs) : Rel { w with ρ := w.ρ ++ [a] } (s ++ [xs]) := by
  have pre : ∀ (n : Nat) (b : Addr), w.ρ[n]? = some b → (w.ρ ++ [a])[n]? = some b := fun n b h => by
    rw [List.getElem?_append_left (lt_of_get h)]; exact h
  refine ⟨by show (w.ρ ++ [a]).length = _; rw [List.length_append, List.length_append, R.len]; rfl, ?_, fun n ys b h1 h2 => ?_, R.zin, fun n ys h1 => ?_⟩
  · show (w.ρ ++ [a]).Nodup
    rw [List.nodup_append]
    exact ⟨R.nd, by simp, fun x hx y hy => by rw [List.mem_singleton.mp hy]; exact fun z => na (z ▸ hx)⟩
  · have h2 : (w.ρ ++ [a])[n]? = some b := h2
    by_cases c : n < s.length
    · rw [List.getElem?_append_left c] at h1
      rw [List.getElem?_append_left (by rw [R.len]; exact c)] at h2
      obtain ⟨us, q1, r1⟩ := R.pen n ys b h1 h2
      exact ⟨us, q1, rvs_sh (w := w) pre (R.sh n ys h1) r1⟩
    · have c2 : n = s.length := by
        have := lt_of_get h1
        rw [List.length_append] at this
        simp only [List.length_cons, List.length_nil] at this
        omega
      subst c2
      rw [get_end] at h1
      cases h1
      rw [← R.len, get_end] at h2
      cases h2
      exact ⟨vs, q, rvs_sh (w := w) pre hs r⟩
  · by_cases c : n < s.length
    · rw [List.getElem?_append_left c] at h1
      exact R.sh n ys h1
    · have c2 : n = s.length := by
        have := lt_of_get h1
        rw [List.length_append] at this
        simp only [List.length_cons, List.length_nil] at this
        omega
      subst c2
      rw [get_end] at h1
      cases h1
      exact hs
theorem s_asgP {i : Nat} {x : XE} (h : tS cl W (pS C (.asgP i x)) D σ H) : tAsg (tF cl W C x) (gName i) D σ H := by
  obtain ⟨f, ρ, s, own, e, o, s', hc, F, h, E⟩ := h
  unfold pS at h
  refine tG_then (run_tG (V := VF) (F.release (esc x ++ bare x)) hc notRel h E) fun u H1 h => ?_
  obtain ⟨w1, r, s1, rfl, g, R, v, h⟩ := h
  split at h
  · rename_i xs
    by_cases hs : xs.all shP = true
    · rw [if_pos hs] at h
      cases h
      obtain ⟨a, rfl, h0, na, vs, q, rv⟩ := v.2 rfl rfl
      have rv1 : RVs w1 xs vs := rvs_sh (w := { w1 with Z := fun b => w1.Z b ∨ b = a }) (w1 := w1) (fun _ _ h => h) hs rv
      have R2 := R.more na q hs rv1
      have F2 := ((F.release _).grow' (g.more h0) R2).release [i]
      refine E _ _ _ (F2.set (notRel i (by simp)) ?_)
      unfold RV
      refine ⟨a, rfl, ?_⟩
      show (w1.ρ ++ [a])[s1.length]? = _
      rw [← R.len]
      exact get_end
    · rw [if_neg hs] at h; cases h
  · cases h
/-! ### several at once -/
def setV (σ : L2.St) : List Nat → List V → L2.St
  | i :: is, u :: us => (setV σ is us).set i (some u)
  | _, _ => σ
/-- the values of a, b = x, y: each may be a new thing -/
def VPar (w w' : Vw) (rs : List (PV × Bool)) (us : List V) : Prop := us.length = rs.length ∧ ∀ (f : Fb) (X : Addr → Prop) (ρ : List Addr) (H : Hp) (s : St) (own : Own) (e : Env) (σ : L2.St), w = f.vw X ρ H own σ → Fr f X ρ H s own e σ →
  GrE w w' → ∀ s1, Rel w' s1 → ∀ (is : List Nat) (e' : Env) (own' : Own), setAll e own is rs = some (e', own') → Fr f X w'.ρ w'.H s1 own' e' (setV σ is us) ∧ ∀ c, Owns own' (setV σ is us) c → Owns own σ c ∨ w.H c = none
abbrev tFs (cl : Cl) (W : WX) (C : Nat → List PV → St → Rz (PV × Bool)) (x : XL) : TA := tG cl W VPar (escL x ++ bareL x) (pLX C x)
theorem f_nil (Q : List V → Hp → Prop) (h : tFs cl W C .nil σ H Q) : tNil σ H Q := by
  obtain ⟨w, e, s, rfl, h2, x, h⟩ := h
  unfold pLX at h
  refine h w _ x.rel GrE.refl ⟨rfl, fun f X ρ H s own e σ ew F g s1 R is e' own' q => by
    subst ew
    unfold setAll at q
    cases is with
    | nil => cases q; exact ⟨F.grow' GrE.refl R, fun c z => .inl z⟩
    | cons i is => cases q⟩
theorem XR.hide {es : List Nat} (x : XR w s es e σ) (g : GrE w w1) (R : Rel w1 s1) {a : Addr} (h0 : w.H a = none) {u : HO} (h1 : w1.H a = some u) : XR { w1 with Z := fun b => w1.Z b ∨ b = a } s1 es e σ := by
  have gr : Gr w { w1 with Z := fun b => w1.Z b ∨ b = a } := ⟨g.cls, g.pre, fun b o q h2 h3 => ⟨g.all b o q h3, fun z => by
    rcases z with z | z
    · rw [g.zE] at z; exact h2 z
    · exact ne_of_none q h0 z, g.notρ q h3⟩, g.imm⟩
  refine ⟨R.view fun b z => ?_, x.len, fun i p h => ?_⟩
  · rcases z with z | z
    · exact R.zin b z
    · exact ⟨u, by rw [z]; exact h1⟩
  · obtain ⟨v, q, r1, r2⟩ := x.val i p h
    refine ⟨v, q, ?_, fun z => (r2 z).mo gr _ _⟩
    rcases r1 with r1 | ⟨A, eA, ow⟩
    · exact .inl (r1.mo gr _ _)
    · obtain ⟨o, qo, _⟩ := ow.some
      exact .inr ⟨A, eA, ow.gr gr (fun o q => g.all A o q ow.1) (g.notρ qo ow.1)⟩
theorem GrE.toZ (g : GrE w w1) {Z : Addr → Prop} (hz : ∀ c o, w.H c = some o → Z c → w.Z c) : Gr w { w1 with Z := Z } :=
  ⟨g.cls, g.pre, fun c o q h1 h2 => ⟨g.all c o q h2, fun z => h1 (hz c o q z), g.notρ q h2⟩, g.imm⟩
theorem owns_set {i : Nat} {v : V} {c : Addr} (h : Owns (Pu.rel own [i]) (σ.set i (some v)) c) : Owns own σ c := by
  obtain ⟨j, m, q⟩ := h
  obtain ⟨m1, m2⟩ := mem_rel.mp m
  rw [List.getElem?_set_ne fun z => m2 (by rw [z]; simp)] at q
  exact ⟨j, m1, q⟩
theorem owns_add {i : Nat} {a c : Addr} (h : Owns (addO i (Pu.rel own [i])) (σ.set i (some (.ref a))) c) : Owns own σ c ∨ c = a := by
  obtain ⟨j, m, q⟩ := h
  rcases mem_addO.mp m with m | m
  · subst m
    rw [List.getElem?_set, if_pos rfl] at q
    split at q
    · cases q; exact .inr rfl
    · cases q
  · exact .inl (owns_set ⟨j, m, q⟩)
theorem f_cons {a : XE} {r : XL} (Q : List V → Hp → Prop) (h : tFs cl W C (.cons a r) σ H Q) : tCons (tF cl W C a) (tFs cl W C r) σ H Q := by
  obtain ⟨w, e, s, rfl, h2, x, h⟩ := h
  unfold pLX at h
  have sub1 : ∀ i ∈ esc a ++ bare a, i ∈ escL (.cons a r) ++ bareL (.cons a r) := by intro i hi; simp only [escL, bareL, List.mem_append] at hi ⊢; grind
  have sub2 : ∀ i ∈ escL r ++ bareL r, i ∈ escL (.cons a r) ++ bareL (.cons a r) := by intro i hi; simp only [escL, bareL, List.mem_append] at hi ⊢; grind
  refine ⟨w, e, s, rfl, h2, x.sub sub1, ?_⟩
  unfold Goes at h ⊢
  cases q : pX C a e s with
  | no => rw [q] at h; exact h
  | ex c fs s1 => rw [q] at h; exact h
  | ok r1 s1 =>
    rw [q] at h
    simp only [Rz.bind] at h
    intro w1 u R1 g1 v1
    -- the rest, from a view that may hide what is new
    have rest : ∀ w1h : Vw, w1h.H = w1.H → w1h.cl = w1.cl → w1h.ρ = w1.ρ → (∀ b, w1.Z b → w1h.Z b) → XR w1h s1 (escL r ++ bareL r) e σ →
        (∀ w2 rs us, GrE w1h w2 → VPar w1h w2 rs us → VPar w { w2 with Z := w1.Z } (r1 :: rs) (u :: us)) →
        tFs cl W C r σ w1.H fun us H2 => Q (u :: us) H2 := by
      intro w1h eH ec eρ eZ xh par
      refine ⟨w1h, e, s1, eH, ec.trans (g1.cls.trans h2), xh, ?_⟩
      have back : ∀ {w2 : Vw} {s2 : St}, Rel w2 s2 → GrE w1h w2 → Rel { w2 with Z := w1.Z } s2 ∧ GrE w { w2 with Z := w1.Z } := by
        intro w2 s2 R2 g2
        refine ⟨R2.view fun b z => R2.zin b ?_, g1.trans ⟨?_, ?_, ?_, ?_, rfl, ?_, ?_⟩⟩
        · rw [g2.zE]; exact eZ b z
        · exact g2.cls.trans ec
        · intro n b hb; exact g2.pre n b (by rw [eρ]; exact hb)
        · intro b o hb nb; exact g2.all b o (by rw [eH]; exact hb) (by rw [eρ]; exact nb)
        · intro b o hb i; exact g2.imm b o (by rw [eH]; exact hb) i
        · intro b hb
          rcases g2.newρ b hb with z | z
          · exact .inl (by rw [← eρ]; exact z)
          · exact .inr (by rw [← eH]; exact z)
        · intro b hb
          have := g2.live b hb
          rw [eH] at this
          exact this
      unfold Goes
      cases q2 : pLX C r e s1 with
      | no => rw [q2] at h; exact h
      | ok rs s2 =>
        rw [q2] at h
        simp only [Rz.bind] at h
        intro w2 us R2 g2 v2
        obtain ⟨b1, b2⟩ := back R2 g2
        exact h { w2 with Z := w1.Z } (u :: us) b1 b2 (par w2 rs us g2 v2)
      | ex c fs s2 =>
        rw [q2] at h
        intro w2 d R2 g2 xx oc
        obtain ⟨b1, b2⟩ := back R2 g2
        exact h { w2 with Z := w1.Z } d b1 b2 xx oc
    by_cases c : (r1.2 && r1.1.isM) = true
    · rw [Bool.and_eq_true] at c
      obtain ⟨A, rfl, hA, ow⟩ := v1.2 c.1 c.2
      obtain ⟨oA, qA, _⟩ := ow.some
      refine rest { w1 with Z := fun b => w1.Z b ∨ b = A } rfl rfl rfl (fun b z => .inl z) ((x.sub sub2).hide g1 R1 hA qA) fun w2 rs us g2 v2 => ?_
      refine ⟨by rw [List.length_cons, List.length_cons, v2.1], ?_⟩
      intro f X ρ H s own e σ ew F _ s3 R3 is e' own' hs
      cases is with
      | nil => unfold setAll at hs; cases hs
      | cons i is =>
        unfold setAll at hs
        obtain ⟨⟨e3, own3⟩, q3, hs⟩ := Option.map_eq_some_iff.mp hs
        cases hs
        subst ew
        have hA : H A = none := hA
        have e1 := Fr.eq_vw g1
        have F1 := F.hide g1 R1 hA qA
        have z2 := g2.zE
        have ez : w1.Z = (f.vw X ρ H own σ).Z := g1.zE
        have ec : w1.cl = f.cl := g1.cls
        have ew1 : ({ w1 with Z := fun b => w1.Z b ∨ b = A } : Vw) = f.vw (fun b => X b ∨ b = A) w1.ρ w1.H own σ := by
          have : (fun b => w1.Z b ∨ b = A) = fun b => (f.Zh b ∨ Owns own σ b) ∨ X b ∨ b = A := by
            funext b
            rw [ez]
            exact propext (by show ((f.Zh b ∨ Owns own σ b) ∨ X b) ∨ b = A ↔ _; grind)
          rw [this, ec]
        have R3' : Rel w2 s3 := by
          have : Rel { ({ w2 with Z := w1.Z } : Vw) with Z := w2.Z } s3 := R3.view fun b z => by
            rw [z2] at z
            rcases z with z | z
            · exact R3.zin b z
            · have : w2.H A = some oA := g2.all A oA qA ow.1
              exact ⟨oA, by rw [z]; exact this⟩
          exact this
        obtain ⟨F2, ow3⟩ := v2.2 f (fun b => X b ∨ b = A) w1.ρ w1.H s1 own e σ ew1 F1 g2 s3 R3' is e3 own3 q3
        have ow2 : OW w2 r1.1 A := ow.mo g2
        have nX : ¬ X A := fun z => by
          obtain ⟨o, q⟩ := F.rel.zin A (.inr z)
          have q : H A = some o := q
          rw [hA] at q; cases q
        have F3 := F2.release [i]
        unfold Pu.own1
        rw [if_pos (by rw [Bool.and_eq_true]; exact c)]
        refine ⟨F3.gain (notRel i (by simp)) nX ?_, fun b z => ?_⟩
        · have gg : Gr { w1 with Z := fun b => w1.Z b ∨ b = A } { w2 with Z := (f.vw (fun b => X b ∨ b = A) w2.ρ w2.H (Pu.rel own3 [i]) (setV σ is us)).Z } := g2.toZ fun b o hb z => by
            show w1.Z b ∨ b = A
            rw [ez]
            rcases z with (z | z) | z | z
            · exact .inl (.inl (.inl z))
            · rcases ow3 b (z.sub fun j hj => (mem_rel.mp hj).1) with y | y
              · exact .inl (.inl (.inr y))
              · have hb : w1.H b = some o := hb
                have y : w1.H b = none := y
                rw [hb] at y; cases y
            · exact .inl (.inr z)
            · exact .inr z
          have o5 := ow.gr gg (fun o q => g2.all A o q ow.1) ow2.1
          exact o5.same (by show f.cl = w2.cl; rw [g2.cls]; exact ec.symm) rfl rfl fun b z => z
        · rcases owns_add z with y | y
          · rcases ow3 b y with y | y
            · exact .inl y
            · exact .inr (g1.live b y)
          · subst y; exact .inr hA
    · refine rest w1 rfl rfl rfl (fun b z => z) ((x.sub sub2).mo g1 R1) fun w2 rs us g2 v2 => ?_
      refine ⟨by rw [List.length_cons, List.length_cons, v2.1], ?_⟩
      intro f X ρ H s own e σ ew F _ s3 R3 is e' own' hs
      cases is with
      | nil => unfold setAll at hs; cases hs
      | cons i is =>
        unfold setAll at hs
        obtain ⟨⟨e3, own3⟩, q3, hs⟩ := Option.map_eq_some_iff.mp hs
        cases hs
        subst ew
        have F1 := F.grow' g1 R1
        have ez : w1.Z = (f.vw X ρ H own σ).Z := g1.zE
        have ec : w1.cl = f.cl := g1.cls
        have z2 := g2.zE
        have R3' : Rel w2 s3 := by
          have e : w1.Z = w2.Z := z2.symm
          rw [e] at R3
          exact R3
        obtain ⟨F2, ow3⟩ := v2.2 f X w1.ρ w1.H s1 own e σ (Fr.eq_vw g1) F1 g2 s3 R3' is e3 own3 q3
        have F3 := F2.release [i]
        unfold Pu.own1
        rw [if_neg c]
        have gg : Gr w1 { w2 with Z := (f.vw X w2.ρ w2.H (Pu.rel own3 [i]) (setV σ is us)).Z } := g2.toZ fun b o hb z => by
          rw [ez]
          rcases z with (z | z) | z
          · exact .inl (.inl z)
          · rcases ow3 b (z.sub fun j hj => (mem_rel.mp hj).1) with y | y
            · exact .inl (.inr y)
            · rw [hb] at y; cases y
          · exact .inr z
        refine ⟨F3.set (notRel i (by simp)) (((v1.1).mo gg _ _).mo (Gr.same (w := { w2 with Z := (f.vw X w2.ρ w2.H (Pu.rel own3 [i]) (setV σ is us)).Z }) (w2 := f.vw X w2.ρ w2.H (Pu.rel own3 [i]) (setV σ is us)) (by show f.cl = w2.cl; rw [g2.cls]; exact ec.symm) rfl rfl fun b z => z) _ _), fun b z => ?_⟩
        rcases ow3 b (owns_set z) with y | y
        · exact .inl y
        · exact .inr (g1.live b y)
theorem s_par {i j : Nat} {es : XL} (hij : i ≠ j) (h : tS cl W (pS C (.par [i, j] es)) D σ H) : tPar i j (tFs cl W C es) D σ H := by
  obtain ⟨f, ρ, s, own, e, o, s', hc, F, h, E⟩ := h
  unfold pS at h
  have F1 := F.release (escL es ++ bareL es)
  refine tG_then (run_tG (V := VPar) F1 hc notRel h E) fun us H1 h => ?_
  obtain ⟨w1, rs, s1, rfl, g, R, v, h⟩ := h
  obtain ⟨⟨e2, own2⟩, q, h⟩ := Option.map_eq_some_iff.mp h
  cases h
  have F2 := (v.2 f X0 ρ H s _ e σ rfl F1 g _ R _ _ _ q).1
  have ll := v.1
  clear v
  match rs, us, q, F2, ll with
  | [], _, q, _, _ => cases q
  | [_], _, q, _, _ => cases q
  | _ :: _ :: _ :: _, _, q, _, _ => cases q
  | [a, b], [u, v], q, F2, _ =>
    refine ⟨u, v, rfl, ?_⟩
    have := E _ _ _ F2
    unfold setV setV setV at this
    rw [List.set_comm _ _ hij]
    exact this
theorem s_par3 {i j l : Nat} {es : XL} (hij : i ≠ j) (hil : i ≠ l) (hjl : j ≠ l) (h : tS cl W (pS C (.par [i, j, l] es)) D σ H) : tPar3 i j l (tFs cl W C es) D σ H := by
  obtain ⟨f, ρ, s, own, e, o, s', hc, F, h, E⟩ := h
  unfold pS at h
  have F1 := F.release (escL es ++ bareL es)
  refine tG_then (run_tG (V := VPar) F1 hc notRel h E) fun us H1 h => ?_
  obtain ⟨w1, rs, s1, rfl, g, R, v, h⟩ := h
  obtain ⟨⟨e2, own2⟩, q, h⟩ := Option.map_eq_some_iff.mp h
  cases h
  have F2 := (v.2 f X0 ρ H s _ e σ rfl F1 g _ R _ _ _ q).1
  have ll := v.1
  clear v
  match rs, us, q, F2, ll with
  | [], _, q, _, _ => cases q
  | [_], _, q, _, _ => cases q
  | [_, _], _, q, _, _ => cases q
  | _ :: _ :: _ :: _ :: _, _, q, _, _ => cases q
  | [a, b, c], [u, v, w], q, F2, _ =>
    refine ⟨u, v, w, rfl, ?_⟩
    have := E _ _ _ F2
    unfold setV setV setV setV at this
    rw [List.set_comm _ _ hij, List.set_comm _ _ hil, List.set_comm _ _ hjl]
    exact this
end
end Pu

set_option linter.all false
set_option autoImplicit false
set_option maxRecDepth 100000
set_option maxHeartbeats 4000000
/-! P20: errors: raise, try. -/
namespace L2
open PySem PySem.Spec PyProof.Rows
section
variable {X : Cx} {pins : List (Addr × Obj)} {σ : St} {H : Hp} {s : Shared}
/-- the caught error is tracked from here on -/
theorem Inv.keepX (I : Inv X pins σ H s) {a C : Addr} {oe : Obj} {vs : Array Value} (ha : s.heap.get? a = some oe) (hz : Zc (.ref C) none oe) (hd : oe.data = .fields vs) (na : H a = none) (nL : a ≠ X.env.locals)
    (np : ∀ p ∈ X.pn ++ pins, p.1 ≠ a) (nc : ∀ x c, X.env.cells.lookup x = some c → c ≠ a) (new : X.s_0.heap.get? a = none) : Inv X pins σ (upd H a (Pu.ExH C a)) s := by
  have ne : ∀ b u, H b = some u → b ≠ a := fun b u q z => by rw [z, na] at q; cases q
  refine ⟨I.ok, I.os, I.bare, ⟨I.base.keep, I.base.slot, fun b o e n hx => ?_, I.base.there, fun b xs e => ?_, fun b o u e => ?_, fun b ps e => ?_⟩, I.loc, I.cell, ?_, fun x c e => ?_, fun p hp => ?_, fun b o e => ?_, I.len⟩
  · rw [upd_ne fun z => ?_]
    · exact I.base.free b o e n hx
    · rw [z, new] at e; cases e
  · have := I.base.tups b xs e
    rw [upd_ne (ne b _ this)]
    exact this
  · have := I.base.frzs b o u e
    rw [upd_ne (ne b _ this)]
    exact this
  · obtain ⟨more, this⟩ := I.base.tbls b ps e
    exact ⟨more, by rw [upd_ne (ne b _ this)]; exact this⟩
  · rw [upd_ne fun z => nL z.symm]; exact I.free
  · rw [upd_ne (nc x c e)]; exact I.freeC x c e
  · obtain ⟨p1, p2, p3⟩ := I.pin p hp
    exact ⟨p1, by rw [upd_ne (np p hp)]; exact p2, p3⟩
  · by_cases z : b = a
    · subst z
      rw [upd_same] at e
      cases e
      exact ⟨⟨oe, vs, ha, hz, hd⟩, ⟨oe, ha⟩, fun h1 h2 ⟨oe, vs, q, r⟩ k => ⟨oe, vs, k _ q, r⟩⟩
    · rw [upd_ne z] at e
      exact (I.hok b o e).stay (fun _ _ _ q => q) (fun c q => by rw [upd_ne (ne c _ q)]; exact q) fun c xs q => by rw [upd_ne (ne c _ q)]; exact q
end
/-- what 'except x as n: suite' wishes of an error of the body, where the error is kept behind the suite -/
def wKeep (K : PySem.W.Frag) (c : Value) (i : Nat) (ts : Addr → Value → Option Addr → TS) (Wout : WX) (D : Ends) : WX := fun cls d σ H =>
  ∃ b, PySem.W.exmOne K cls c = some b ∧ (b = true → ∃ C, cls = .ref C ∧ d = none ∧ ∀ a, H a = none → ts a cls d { nx := fun σ' H' => H' a = none → D.nx (σ'.set i none) (upd H' a (Pu.ExH C a)), rt := fun _ _ => False } (σ.set i (some (.ref a))) H) ∧ (b = false → Wout cls d σ H)
section
variable {X : Cx} {x n : Str} {c : Value} {i : Nat} {body suite : List Stmt} {b₀ : Stmt} {np pos pos' : Pos} {tb : WX → TS} {ts : Addr → Value → Option Addr → TS} {Wout : WX}
theorem ps_try_keep (hs : X.stack = X.env :: X.outer) (hf : X.env.frame = some X.env.locals) (hex : X.ex = []) (hN : X.N.Nodup) (hi : X.N[i]? = some n) (hln : X.env.kindOf n = some .local) (hc : Names X x c) (tk : Takes X Wout)
    (hb : ∀ (W : WX) (pn : List (Addr × Obj)) (xe : Value → Shared → Prop), Takes (X.tr pn xe) W → PassesOwn (model X.prog X.w) X.A X.env xe → PSs (X.tr pn xe) body (tb W))
    (hsu : ∀ (a : Addr) (oe : Obj) (cls : Value) (d : Option Addr) (pn : List (Addr × Obj)), PSs (X.suite a ((a, oe) :: pn)) (b₀ :: suite) (ts a cls d)) :
    PS X (.Try body [.ExceptHandler (some (.Name x np)) (some n) (b₀ :: suite) pos'] [] [] pos) (fun D σ H => tb (wKeep X.K c i ts Wout D) D σ H) := by
  refine ⟨fun pins s σ H D I h => ?_⟩
  have ok := I.ok
  have hfr : X.A.frames = some (X.env :: X.outer) := by rw [ok.frames, hs]
  have hloc : Loc X.env.scope n := .inl hln
  refine wpAny_Try_except ?_
  refine wpAny_mono ((hb (wKeep X.K c i ts Wout D) (X.pn ++ pins) (fun e s₁ => wpAny (model X.prog X.w) X.A (noteFrame e X.env) (fun _ s₂ => wpAny (model X.prog X.w) X.A (setFlight e none) (fun _ s₃ =>
    wpAny (model X.prog X.w) X.A (handleBy e X.env [.ExceptHandler (some (.Name x np)) (some n) (b₀ :: suite) pos']) (SP X pins D) X.xe s₃) X.xe s₂) X.xe s₁) (fun u s' xx => ?_) PassesOwn.looking).run [] s σ H D (I.toTry _) h) (fun f s1 hsp => ?_) (fun e s1 he => he)
  · -- the catch
    obtain ⟨a, B, sI, pins', σ', H', cls, d, rfl, J', nb, up, sky, na, os, ag, b, hb1, hyes, hno⟩ := xx
    have J : Inv X pins σ' H' sI := J'.ofTry ok
    have sky' : Sky B (X.env :: X.outer) a (Zc cls d) X.env.locals s'.heap := by rw [← hs]; exact sky
    show wpAny (model X.prog X.w) X.A (noteFrame (.ref a) X.env) _ _ _
    refine Sky.land Zc.steady hfr hf sky' fun h3 fl3 up3 => ?_
    have J3 : Inv X pins σ' H' { s' with heap := h3 } := J.landed nb fl3.1 (up.trans up3) os ag
    obtain ⟨oe3, vs3, he3, hz3, hd3⟩ := fl3.there
    have notFr : ∀ {h : Heap} {o : Obj} {vs : Array Value}, h.FunFrames B (X.env :: X.outer) → h.get? a = some o → o.data = .fields vs → a ∉ frs (X.env :: X.outer) := fun {h o vs} ff e dd hm => by
      obtain ⟨_, o', e', hnf⟩ := ff.mem hm
      rw [e] at e'; cases e'
      exact hnf _ dd
    have nfr := notFr fl3.2.2.1 he3 hd3
    have nL : a ≠ X.env.locals := fun z => nfr (List.mem_filterMap.mpr ⟨X.env, List.mem_cons_self, by rw [hf, z]⟩)
    have nF : a ∉ X.fs := fun hm => by
      obtain ⟨e, he, q⟩ := List.mem_filterMap.mp hm
      exact nfr (List.mem_filterMap.mpr ⟨e, List.mem_cons_of_mem _ he, q⟩)
    -- it did not stand ahead of it all
    have newI : sI.heap.get? a = none := by
      cases q : sI.heap.get? a with
      | none => rfl
      | some o =>
        have := nb a o q (by rw [hs]; exact nfr)
        rw [fl3.2.1] at this
        cases this
    have new0 : X.s_0.heap.get? a = none := by
      cases q : X.s_0.heap.get? a with
      | none => rfl
      | some o =>
        obtain ⟨o', q'⟩ := J.base.there a o q (by rw [hex]; simp)
        rw [newI] at q'; cases q'
    have newP : ∀ p ∈ X.pn ++ pins, p.1 ≠ a := fun p hp z => by
      have := (J.pin p hp).1
      rw [z, newI] at this; cases this
    have newC : ∀ y c, X.env.cells.lookup y = some c → c ≠ a := fun y c e z => by
      obtain ⟨v, o, q, _⟩ := J.cell y c e
      rw [z, newI] at q; cases q
    have S3 := J3.suite he3 hd3 na nL nF
    refine wpAny_handleBy_cons (codeAny_handlers_test ?_) (by intro q; cases q)
    have LT : PySem.W.Looks (model X.prog X.w) h3 (typeOf (.ref a)) cls := fun A Q E s k q => wpAny_typeOf_ref (k _ _ he3) (by rw [hz3.1]; exact q)
    have LM := PySem.W.exm_one (M := model X.prog X.w) (J3.kIn) LT hb1
    have test : ∀ {Q : Value → Shared → Prop} {E : Value → Shared → Prop}, Q c { s' with heap := h3 } → wpAny (model X.prog X.w) (X.A.mark (some (.ref a))) (eval (.Name x np) X.env) Q E { s' with heap := h3 } := fun {Q E} q => by
      obtain ⟨hg, hdbg, hm | ⟨hm, hv, hnn⟩⟩ := hc
      · exact ld_glob (X := X.suite a ((a, oe3) :: (X.pn ++ pins))) S3 hg hm q hdbg
      · exact ld_blt (X := X.suite a ((a, oe3) :: (X.pn ++ pins))) S3 hg hm hv q hnn hdbg
    refine test (LM.here ?_)
    cases b with
    | true =>
      obtain ⟨C, eC, ed, hyes⟩ := hyes rfl
      subst eC ed
      refine codeAny_handlers_suite_as ?_
      refine HandSPX.lands_againZ fl3 fun h4 fl4 up4 => ?_
      have J4 : Inv X pins σ' H' { s' with heap := h4 } := J.landed nb fl4.1 ((up.trans up3).trans up4) os ag
      obtain ⟨oe4, vs4, he4, hz4, hd4⟩ := fl4.there
      have S4 := J4.suite he4 hd4 na nL nF
      refine store_ok (X := X.suite a ((a, oe4) :: (X.pn ++ pins))) (v := .ref a) S4 hN hi hloc rfl (fun s5 S5 => ?_) (.inr hln)
      refine wpAny_mono ((hsu a oe4 (.ref C) none (X.pn ++ pins)).run [] s5 _ H' _ S5 (hyes a na)) (fun f s6 hsp => ?_) (fun _ _ z => False.elim z)
      cases f with
      | next =>
        obtain ⟨σ6, H6, S6, q6⟩ := hsp
        show wpAny (model X.prog X.w) X.A (do bindName X.env n .none; unbindBehindTheSuite X.env n pos') _ X.xe s6
        refine gone_ok (X := X.suite a ((a, oe4) :: (X.pn ++ pins))) S6 hN hi hln fun s7 S7 => ?_
        have pin7 := S7.pin (a, oe4) (List.mem_append_left _ List.mem_cons_self)
        have J7 : Inv X pins (σ6.set i none) H6 s7 := S7.unsuite ok
        exact ⟨_, _, J7.keepX pin7.1 hz4 hd4 pin7.2.1 nL newP newC new0, q6 pin7.2.1⟩
      | brk =>
        obtain ⟨σ6, H6, S6, q6⟩ := hsp
        exact q6.elim
      | cont =>
        obtain ⟨σ6, H6, S6, q6⟩ := hsp
        exact q6.elim
      | ret u =>
        obtain ⟨v6, σ6, H6, S6, r6, q6⟩ := hsp
        exact q6.elim
    | false =>
      show wpAny _ X.A (handleBy (.ref a) X.env []) _ _ _
      refine wpAny_handleBy_nil ?_
      obtain ⟨k1, k2, k3, oe, vs, T, oT, ts', he, hz, hd, h1, hr⟩ := id fl3
      unfold PySem.passOn
      refine wpAny_bind (wpAny_field he hd h1 ?_)
      rw [if_neg (show ¬ ((Value.ref T == Value.none) = true) from by simp)]
      have fin : wpAny (model X.prog X.w) X.A (setFlight (.ref a) X.env.frame) (fun _ s4 => wpAny (model X.prog X.w) X.A (throw (.ref a) : Sem Flow) (SP X pins D) X.xe s4) X.xe { s' with heap := h3 } := by
        rw [hf]
        refine HandSPX.setFlight_upZ fl3 fun h4 hh4 up4 => wpAny_throw (tk _ _ ?_)
        exact ⟨a, B, sI, pins, σ', H', cls, d, rfl, J, nb, (up.trans up3).trans up4, .inr (.inr (by rw [hs]; exact hh4)), na, os, ag, hno rfl⟩
      first
        | exact wpAny_bind (wpAny_pure (wpAny_bind fin))
        | exact wpAny_bind fin
  · cases f with
    | next =>
      obtain ⟨σ', H', J', q⟩ := hsp
      exact wpAny_execs_nil ⟨σ', H', J'.ofTry ok, q⟩
    | brk =>
      obtain ⟨σ', H', J', q⟩ := hsp
      exact ⟨σ', H', J'.ofTry ok, q⟩
    | cont =>
      obtain ⟨σ', H', J', q⟩ := hsp
      exact ⟨σ', H', J'.ofTry ok, q⟩
    | ret u =>
      obtain ⟨v, σ', H', J', r, q⟩ := hsp
      exact ⟨v, σ', H', J'.ofTry ok, r, q⟩
end
end L2

set_option linter.all false
set_option autoImplicit false
set_option maxRecDepth 100000
set_option maxHeartbeats 4000000
/-! P21: raise, try by the evaluator; calls. -/
namespace Pu
open PySem PySem.Spec PyProof.Rows L2
section
variable {f : Fb} {ρ ρ1 : List Addr} {H H1 : Hp} {s s1 s' : St} {own own1 : Own} {e e1 : Env} {σ σ1 : L2.St} {w w1 : Vw} {X : Addr → Prop} {cl : Cl} {W : WX} {D : Ends} {C : Nat → List PV → St → Rz (PV × Bool)} {o : Out}
theorem s_raise {c : Nat} (oc : cl.O c) (h : tS cl W (pS C (.raise c)) D σ H) : W (.ref (cl.A c)) none σ H := by
  obtain ⟨f, ρ, s, own, e, o, s', hc, F, h, E⟩ := h
  unfold pS at h
  cases h
  subst hc
  exact E ρ H σ none F (fun _ => rfl) oc
/-- a slot is emptied -/
theorem Fr.unset (F : Fr f X ρ H s own e σ) {i : Nat} (m : i ∉ own) : Fr f X ρ H s own (e.set i none) (σ.set i none) := by
  have ne : ∀ j ∈ own, j ≠ i := fun j h z => m (z ▸ h)
  have sm : ∀ j ∈ own, (σ.set i none)[j]? = σ[j]? := fun j h => List.getElem?_set_ne (ne j h).symm
  have ev : f.vw X ρ H own (σ.set i none) = f.vw X ρ H own σ := vw_congr sm
  refine ⟨F.base, by rw [ev]; exact F.rel, F.zh, fun a x => ⟨(F.xn a x).1, fun z => (F.xn a x).2 ((owns_congr sm a).mp z)⟩, by rw [List.length_set, List.length_set]; exact F.len, ?_, ?_, fun a z => F.nz a ((owns_congr sm a).mp z), ?_⟩
  · rw [ev]
    intro j q h n
    rw [List.getElem?_set] at h ⊢
    by_cases z : i = j
    · rw [if_pos z] at h
      split at h <;> cases h
    · rw [if_neg z] at h ⊢
      exact F.val j q h n
  · rw [ev]
    intro j q h n
    rw [List.getElem?_set_ne (ne j n).symm] at h ⊢
    exact F.owv j q h n
  · intro j k a n1 n2 q1 q2
    rw [sm j n1] at q1
    rw [sm k n2] at q2
    exact F.inj j k a n1 n2 q1 q2
/-- which errors the clause takes -/
def Takes1 (K : PySem.W.Frag) (cl : Cl) (c : Nat) : Prop := ∀ d, cl.O d → PySem.W.exmOne K (.ref (cl.A d)) (clU cl c) = some (subC d c)
theorem tryP_or {c : Nat} {h : Env → Own → Nat → List PV → Option Out} {r : Option (Out × St)} (q : tryP c h r = some (o, s')) :
    (r = some (o, s') ∧ ∀ d fs e own, o = .ex d fs e own → subC d c = false) ∨ ∃ d fs e own s1, r = some (.ex d fs e own, s1) ∧ subC d c = true ∧ h e own d fs = some o ∧ s1 = s' := by
  cases r with
  | none => cases q
  | some r =>
    obtain ⟨o1, s1⟩ := r
    cases o1 with
    | ex d fs e own =>
      unfold tryP at q
      dsimp only at q
      by_cases c1 : subC d c = true
      · rw [if_pos c1] at q
        obtain ⟨o2, q1, q2⟩ := Option.map_eq_some_iff.mp q
        cases q2
        exact .inr ⟨d, fs, e, own, _, rfl, c1, q1, rfl⟩
      · rw [if_neg c1] at q
        refine .inl ⟨q, fun d' fs' e' own' z => ?_⟩
        subst z
        cases q
        simpa using c1
    | nx e own => exact .inl ⟨q, fun _ _ _ _ z => by subst z; cases q⟩
    | bk e own => exact .inl ⟨q, fun _ _ _ _ z => by subst z; cases q⟩
    | ct e own => exact .inl ⟨q, fun _ _ _ _ z => by subst z; cases q⟩
    | rt v fr => exact .inl ⟨q, fun _ _ _ _ z => by subst z; cases q⟩
/-- an end that is no error -/
theorem EndOk.wish {W W' : WX} (E : EndOk W f D o s) (k : ∀ d fs e own, o = .ex d fs e own → ∀ dd σ H, f.cl.O d → exP fs dd → W (.ref (f.cl.A d)) dd σ H → W' (.ref (f.cl.A d)) dd σ H) : EndOk W' f D o s := by
  cases o with
  | ex d fs e own => exact fun ρ H σ dd F x oc => k d fs e own rfl dd σ H oc x (E ρ H σ dd F x oc)
  | nx e own => exact E
  | bk e own => exact E
  | ct e own => exact E
  | rt v fr => exact E
/-- what the suite m = n does -/
def tKeep (i j : Nat) : Addr → Value → Option Addr → TS := fun _ _ _ => tAsg (tVar i) (gName j)
theorem s_tryAs {K : PySem.W.Frag} {b : XB} {c i j : Nat} (ij : i ≠ j) (hM : Takes1 K cl c) (h : tS cl W (pS C (.tryAs b c i j)) D σ H) : tS cl (wKeep K (clU cl c) i (tKeep i j) W D) (pB C b) D σ H := by
  obtain ⟨f, ρ, s, own, e, o, s', hc, F, h, E⟩ := h
  unfold pS at h
  subst hc
  rcases tryP_or h with ⟨q, k⟩ | ⟨d, fs, e1, own1, s1, q, sc, hh, rfl⟩
  · refine ⟨f, ρ, s, own, e, o, s', rfl, F, q, EndOk.wish E fun d fs e own eo dd σ H oc x w => ?_⟩
    have sc := k d fs e own eo
    exact ⟨false, by rw [hM d oc, sc], (fun z => by cases z), fun _ => w⟩
  · refine ⟨f, ρ, s, own, e, _, _, rfl, F, q, fun ρ H σ dd F1 x oc => ⟨true, by rw [hM d oc, sc], fun _ => ⟨_, rfl, ?_, fun a ha => ?_⟩, fun z => by cases z⟩⟩
    · by_cases c1 : (fs.isEmpty && decide (i < e1.length)) = true
      · exact x (List.isEmpty_iff.mp (Bool.and_eq_true_iff.mp c1).1)
      · rw [if_neg c1] at hh; cases hh
    · by_cases c1 : (fs.isEmpty && decide (i < e1.length)) = true
      · rw [if_pos c1] at hh
        cases hh
        have ef := List.isEmpty_iff.mp (Bool.and_eq_true_iff.mp c1).1
        have li := of_decide_eq_true (Bool.and_eq_true_iff.mp c1).2
        subst ef
        rw [F1.len] at li
        · refine ⟨.ref a, by rw [List.getElem?_set_self li], fun _ => ?_⟩
          have F2 := F1.release [i, j]
          have F3 := F2.grow (GrE.new (o := ExH (f.cl.A d) a) ha) (F2.rel.new ha)
          have rv : RV (f.vw X0 ρ (L2.upd H a (ExH (f.cl.A d) a)) (Pu.rel own1 [i, j]) σ) (.exc d []) (.ref a) := by
            unfold RV
            exact ⟨a, rfl, upd_same, rfl, oc⟩
          have F4 := (F3.set (notRel j (by simp)) rv).unset (i := i) (notRel i (by simp))
          have e5 : ((σ.set i (some (V.ref a))).set j (some (.ref a))).set i none = (σ.set j (some (.ref a))).set i none := by
            rw [List.set_comm _ _ ij, List.set_set]
          rw [e5]
          exact E _ _ _ F4
      · rw [if_neg c1] at hh; cases hh
/-- except X: return v -/
def tcOf : PV → Option V
  | .non => some .non
  | .bl b => some (.bl b)
  | .int i => some (.int i)
  | .str x => some (.str ⟨⟨x⟩⟩)
  | _ => none
theorem tcOf_rv {v : PV} {u : V} (h : tcOf v = some u) : RV w v u := by
  cases v <;> first | (cases h; done) | (cases h; unfold RV; rfl)
theorem s_tryRet {K : PySem.W.Frag} {b : XB} {c : Nat} {v : PV} {u : V} (hv : tcOf v = some u) (hM : Takes1 K cl c) (h : tS cl W (pS C (.tryRet b c v)) D σ H) : tS cl (wOnly K (clU cl c) (fun _ _ _ => tRet (tC u)) W D) (pB C b) D σ H := by
  obtain ⟨f, ρ, s, own, e, o, s', hc, F, h, E⟩ := h
  unfold pS at h
  subst hc
  rcases tryP_or h with ⟨q, k⟩ | ⟨d, fs, e1, own1, s1, q, sc, hh, rfl⟩
  · refine ⟨f, ρ, s, own, e, o, s', rfl, F, q, EndOk.wish E fun d fs e own eo dd σ H oc x w => ?_⟩
    have sc := k d fs e own eo
    exact ⟨false, by rw [hM d oc, sc], (fun z => by cases z), fun _ => w⟩
  · refine ⟨f, ρ, s, own, e, _, _, rfl, F, q, fun ρ H σ dd F1 x oc => ⟨true, by rw [hM d oc, sc], fun _ a ha => ?_, fun z => by cases z⟩⟩
    cases hh
    exact E ρ H u F1.base F1.bare (tcOf_rv hv) fun z => by cases z
theorem s_tryRetL {K K2 : PySem.W.Frag} {b : XB} {c : Nat} {te : TE} (ht : ∀ σ H Q, (∀ p, H p = none → Q (.ref p) (L2.upd H p (.lst []))) → te σ H Q) (hM : Takes1 K cl c) (h : tS cl W (pS C (.tryRet b c (.lv []))) D σ H) : tS cl (wOnly K (clU cl c) (fun _ _ _ => tRet te) W D) (pB C b) D σ H := by
  obtain ⟨f, ρ, s, own, e, o, s', hc, F, h, E⟩ := h
  unfold pS at h
  subst hc
  rcases tryP_or h with ⟨q, k⟩ | ⟨d, fs, e1, own1, s1, q, sc, hh, rfl⟩
  · refine ⟨f, ρ, s, own, e, o, s', rfl, F, q, EndOk.wish E fun d fs e own eo dd σ H oc x w => ?_⟩
    have sc := k d fs e own eo
    exact ⟨false, by rw [hM d oc, sc], (fun z => by cases z), fun _ => w⟩
  · refine ⟨f, ρ, s, own, e, _, _, rfl, F, q, fun ρ H σ dd F1 x oc => ⟨true, by rw [hM d oc, sc], fun _ a ha => ?_, fun z => by cases z⟩⟩
    cases hh
    refine ht _ _ _ fun p hp => ?_
    have F2 := F1.grow (GrE.new (o := .lst []) hp) (F1.rel.new hp)
    exact E ρ _ _ F2.base F2.bare (RV.newL F1.bare hp .nil) fun z => by cases z
theorem s_tryCnt {K : PySem.W.Frag} {b : XB} {c : Nat} (hM : Takes1 K cl c) (h : tS cl W (pS C (.tryCnt b c)) D σ H) : tS cl (wOnly K (clU cl c) (fun _ _ _ => tCont) W D) (pB C b) D σ H := by
  obtain ⟨f, ρ, s, own, e, o, s', hc, F, h, E⟩ := h
  unfold pS at h
  subst hc
  rcases tryP_or h with ⟨q, k⟩ | ⟨d, fs, e1, own1, s1, q, sc, hh, rfl⟩
  · refine ⟨f, ρ, s, own, e, o, s', rfl, F, q, EndOk.wish E fun d fs e own eo dd σ H oc x w => ?_⟩
    have sc := k d fs e own eo
    exact ⟨false, by rw [hM d oc, sc], (fun z => by cases z), fun _ => w⟩
  · refine ⟨f, ρ, s, own, e, _, _, rfl, F, q, fun ρ H σ dd F1 x oc => ⟨true, by rw [hM d oc, sc], fun _ a ha => ?_, fun z => by cases z⟩⟩
    cases hh
    exact E ρ H σ F1
/-! ### calls -/
def spF (cl : Cl) (r : List PV → St → Rz (PV × Bool)) : Sp := fun vs H Q E => ∃ (w : Vw) (s : St) (ps : List PV), w.H = H ∧ w.cl = cl ∧ Rel w s ∧ RVs w ps vs ∧
  RzOk (fun r s => ∀ w' u, Rel w' s → GrE w w' → VF w w' r u → Q u w'.H) (fun c fs s => ∀ w' d, Rel w' s → GrE w w' → exP fs d → cl.O c → E (.ref (cl.A c)) d w'.H) (r ps s)
theorem w_callF {n : Nat} {es : XL} {Q : VK} (h : tF cl W C (.call n es) σ H Q) : tCallS (spF cl (C n)) (WE W) (tVs cl W C es) σ H Q := by
  obtain ⟨w, e, s, rfl, h2, x, h⟩ := h
  unfold pX at h
  refine tG_then (tG_from (V1 := RVs) (es1 := escL es ++ bareL es) (f := pL C es) an_F (by intro i hi; simp only [esc, bare, List.mem_append] at hi ⊢; grind) h2 x h) fun us H1 h => ?_
  obtain ⟨w1, ps, s1, rfl, h2, g, x, rv, h⟩ := h
  exact ⟨w1, s1, ps, rfl, h2, x.rel, rv, h⟩
theorem goes_fst {r : Rz (PV × Bool)} {Q : VK} {V : Vw → Vw → PV → V → Prop} (hV : ∀ w w' r u, VF w w' r u → V w w' r.1 u) (h : Goes cl W V σ Q w (r.bind fun r s => .ok r.1 s)) : Goes cl W VF σ Q w r := by
  unfold Goes at h ⊢
  cases r with
  | no => exact h
  | ok a s => exact fun w' u R g v => h w' u R g (hV _ _ _ _ v)
  | ex c fs s => exact h
theorem w_callV {n : Nat} {es : XL} {Q : VK} (h : tV cl W C (.call n es) σ H Q) : tCallS (spF cl (C n)) (WE W) (tVs cl W C es) σ H Q := by
  obtain ⟨w, e, s, rfl, h2, x, h⟩ := h
  unfold pE at h
  refine tG_then (tG_from (V1 := RVs) (es1 := escL es ++ bareL es) (f := pL C es) an_V (by intro i hi; simp only [esc, bare, List.mem_append] at hi ⊢; grind) h2 x h) fun us H1 h => ?_
  obtain ⟨w1, ps, s1, rfl, h2, g, x, rv, h⟩ := h
  exact ⟨w1, s1, ps, rfl, h2, x.rel, rv, goes_fst (fun _ _ _ _ v => v.1) h⟩
theorem w_callR {n : Nat} {es : XL} {Q : VK} (h : tR cl W C (.call n es) σ H Q) : tCallS (spF cl (C n)) (WE W) (tVs cl W C es) σ H Q := by
  refine w_callV (tG_weak (fun _ _ _ _ h => .inl h) (fun i hi => ?_) h)
  simp only [esc, bare, List.mem_append] at hi ⊢
  grind
end
/-! ### what a def promises -/
structure FnG (P : Program) (w : World) (K : PySem.W.Frag) (mg : Str → Option Value) (base : Heap) (k : Nat) (f : Addr) (fd : FuncData) (ps : List Str) (sp : Sp) : Prop where
  len : ∀ vs H Q E, sp vs H Q E → vs.length = ps.length
  run : ∀ (A : Around) (outer : List PySem.Env) (s : Shared) (H : Hp) (args : Args) (us : List Value) (vs : List V) (Q : VK) (E : XK), A.guards = some [] → Room k A → Env0 P w K mg base A outer s H → BindsTo s fd args (ps.zip us) → Vals vs us → sp vs H Q E →
    codeAny (model P w) A (.call (.ref f) args) (CR (L2.CX P w) outer P w H s Q E) s
section
variable {X : Cx} {k : Nat} {f : Addr} {fd : FuncData} {ps : List Str} {sp : Sp} {x : Str} {p pos : Pos} {e : Expr} {es : List Expr} {t : TA} {W : WX}
theorem run_g {pins : List (Addr × Obj)} {σ : L2.St} {H : Hp} {s : Shared} {Q : VK} {us : List Value} {vs : List V} (F : FnG X.prog X.w X.K X.mg X.base k f fd ps sp) (hG : X.A.guards = some []) (hr : Room k X.A) (hb : Binds X.K fd ps []) (tk : L2.Takes X W)
    (I : L2.Inv X pins σ H s) (r : Vals vs us) (h : sp vs H Q (WE W σ)) : wpAny (model X.prog X.w) X.A (call (.ref f) us) (EP X pins σ Q) X.xe s := by
  have hl : (us ++ []).length = ps.length := by rw [List.append_nil, ← r.length]; exact F.len _ _ _ _ h
  have b := hb s us I.kIn hl
  rw [List.append_nil] at b
  refine wpAny_call (codeAny_mono (F.run X.A X.stack s H ⟨us, []⟩ us vs Q _ hG hr I.env0 b r h) fun r s' hq => ?_)
  cases r with
  | error e => exact passAt tk σ pins H s e s' I hq
  | ok fl =>
    cases fl with
    | ret u => exact I.after hq
    | next => exact False.elim hq
    | brk => exact False.elim hq
    | cont => exact False.elim hq
theorem pe_callG (F : FnG X.prog X.w X.K X.mg X.base k f fd ps sp) (hG : X.A.guards = some []) (hr : Room k X.A) (hg : Gl X x) (hm : X.mg x = some (.ref f)) (hk : PySem.W.keepIn X.K (.ref f) = true) (hb : Binds X.K fd ps []) (tk : L2.Takes X W)
    (ha : PA X (e :: es) t) (hdb : (x == ("__debug__" : Str)) = false) (he : starEach (e :: es) X.env = (false, eval e X.env) :: starEach es X.env) (hpl : (backTo pos (starEach es X.env)).any (·.1) = false) :
    PE X (.Call (.Name x p) (e :: es) [] pos) (tCallS sp (WE W) t) := by
  refine ⟨fun pins s σ H Q I h => ?_⟩
  refine wpAny_Call_Name_kw (ld_glob I hg hm ?_ hdb)
  exact PySem.W.callWith_K (h₀ := X.base) I.ok.mod.kin hk (thn (ha.run pos pins s σ H _ I h) fun us s1 ⟨vs, H1, I1, r, q⟩ => ⟨I1.kIn, run_g F hG hr hb tk I1 r q⟩) he hpl
theorem pe_callG0 (F : FnG X.prog X.w X.K X.mg X.base k f fd ps sp) (hG : X.A.guards = some []) (hr : Room k X.A) (hg : Gl X x) (hm : X.mg x = some (.ref f)) (hk : PySem.W.keepIn X.K (.ref f) = true) (hb : Binds X.K fd ps []) (tk : L2.Takes X W)
    (hdb : (x == ("__debug__" : Str)) = false) : PE X (.Call (.Name x p) [] [] pos) (tCallS sp (WE W) tNil) := by
  refine ⟨fun pins s σ H Q I h => ?_⟩
  refine wpAny_Call_Name_kw (ld_glob I hg hm ?_ hdb)
  exact PySem.W.callWith_K0 I.kIn hk (run_g (us := []) F hG hr hb tk I .nil h)
end
section
variable {P : Program} {w : World} {K : PySem.W.Frag} {mg : Str → Option Value} {base : Heap} {x qual : Str} {params : Arguments} {body : List Stmt} {scope : Scope} {f : Addr} {fd : FuncData}
/-- a def by its body -/
theorem fnG_of {N ps : List Str} {k : Nat} {sp : Sp} (F : FunD K x qual params body scope [] [] f fd) (S : FnScope N ps scope) (len : ∀ vs H Q E, sp vs H Q E → vs.length = ps.length)
    (hbody : ∀ (cdv : Value) (A : Around) (outer : List PySem.Env) (s : Shared) (H : Hp) (vs : List V) (Q : VK) (E : XK), A.guards = some [] → Room k (A.deeper (envOfC qual scope s.heap.objs.size f cdv)) → sp vs H Q E →
      ∃ t, PSs (cxOf (L2.CX P w) P w K mg base N qual scope f cdv A outer s H E) body t ∧ t { nx := fun _ H' => Q .non H', rt := Q } (L2.start N vs) H) : FnG P w K mg base (k + 1) f fd ps sp := by
  obtain ⟨oc, od, dV, kV, doc, pm, an, cdv, ct, osl, rfl, lk, hcd, _, _⟩ := F.ex
  refine ⟨len, fun A outer s H args us vs Q E hG hr e0 hb r hsp => ?_⟩
  have keep := fun (b : Addr) (o : Obj) (e : base.get? b = some o) => (e0.bs b o e).1
  have KX : K.In s.heap := e0.mod.kin.keeps keep
  have lim : s.heap.NoLimit := e0.mod.nolimit.keeps keep
  have where_ : ∀ y ∈ ps.zip us, scope.names.lookup y.1 = some .local ∨ (scope.names.lookup y.1 = some .cell ∧ ((cellsFrom (s.heap.objs.size + 1) scope.names []).lookup y.1).isSome = true) := fun y hy => by
    rcases S.par y.1 (List.of_mem_zip hy).1 with q | q
    · exact .inl q
    · exact .inr ⟨q, PySem.W.cellsFrom_some _ _ _ (.inl q)⟩
  refine codeAny_call_function hr.depth (KX _ _ lk) rfl S.co S.gen rfl (PySem.W.codeRec_of KX hcd) (hb _ _ _ _ (wpAny_newFunctionEnv_cells S.kind where_ fun env he s1 y => ?_))
  subst he
  refine ⟨lim.keeps y.toInCall.keep, codeAny_func ?_⟩
  obtain ⟨t, ht, hq⟩ := hbody cdv A outer s H vs Q E hG (hr.deeper _) hsp
  have I := inv_start (CX := L2.CX P w) (E := E) S hr.hd e0 (len _ _ _ _ hsp) r y
  refine wpAny_mono (ht.run [] s1 (L2.start N vs) H _ I hq) (fun fl s' hs => ?_) fun _ _ hs => hs
  cases fl with
  | ret u =>
    obtain ⟨v, σ', H', J, rv, q⟩ := hs
    exact ⟨v, H', J.os, J.bare, J.base, J.hok, rv, q⟩
  | next =>
    obtain ⟨σ', H', J, q⟩ := hs
    exact ⟨.non, H', J.os, J.bare, J.base, J.hok, rfl, q⟩
  | brk =>
    obtain ⟨_, _, _, q⟩ := hs
    exact False.elim q
  | cont =>
    obtain ⟨_, _, _, q⟩ := hs
    exact False.elim q
end
end Pu

set_option linter.all false
set_option autoImplicit false
set_option maxRecDepth 100000
/-! P22: does a text say what the evaluator's syntax says? Destructors, side conditions. -/
namespace Pu
open PySem PySem.Spec PyProof.Rows L2
abbrev PStr := PySem.Str
/-! ### reading a text -/
def asName : Expr → Option PStr
  | .Name x _ => some x
  | _ => none
def asTup : Expr → Option (List Expr)
  | .Tuple l _ _ => some l
  | _ => none
def asLst : Expr → Option (List Expr)
  | .List l _ => some l
  | _ => none
def asBin : Expr → Option (Expr × Operator × Expr)
  | .BinOp a op b _ => some (a, op, b)
  | _ => none
def asUn : Expr → Option (UnaryOp × Expr)
  | .UnaryOp op a _ => some (op, a)
  | _ => none
def asCmp : Expr → Option (Expr × CmpOp × Expr)
  | .Compare a [op] [b] _ => some (a, op, b)
  | _ => none
def asCmp2 : Expr → Option (Expr × CmpOp × CmpOp × Expr × Expr)
  | .Compare a [o1, o2] [b, c] _ => some (a, o1, o2, b, c)
  | _ => none
/-- the first operand; the rest, an expression again, and the same with one less -/
def asBool : Expr → Option (BoolOp × Expr × Expr)
  | .BoolOp op [a, b] pos => some (op, a, b)
  | .BoolOp op (a :: b :: c :: r) pos => some (op, a, .BoolOp op (b :: c :: r) pos)
  | _ => none
def asIf : Expr → Option (Expr × Expr × Expr)
  | .IfExp t a b _ => some (t, a, b)
  | _ => none
def asCall : Expr → Option (PStr × List Expr)
  | .Call (.Name x _) l [] _ => some (x, l)
  | _ => none
def asMeth : Expr → Option (Expr × PStr × List Expr)
  | .Call (.Attribute o m ap) l [] cp => if ap.endLine == cp.line then some (o, m, l) else none
  | _ => none
def asSub : Expr → Option (Expr × Expr)
  | .Subscript a b _ => some (a, b)
  | _ => none
def asSlice : Expr → Option (Expr × Option Expr × Option Expr)
  | .Subscript a (.Slice lo hi none _) _ => some (a, lo, hi)
  | _ => none
def asRev : Expr → Option Expr
  | .Subscript a (.Slice none none (some (.UnaryOp .USub (.Constant (.int i) _ _) _)) _) _ => if i = 1 then some a else none
  | _ => none
def noStar : Expr → Bool
  | .Starred _ _ => false
  | _ => true
def noSlice : Expr → Bool
  | .Slice _ _ _ _ => false
  | _ => true
def noSup : Expr → Bool
  | .Call _ _ _ _ => false
  | _ => true
def noComp : Expr → Bool
  | .ListComp _ _ _ _ => false
  | .SetComp _ _ _ _ => false
  | .DictComp _ _ _ _ _ => false
  | _ => true
def noSet : Expr → Bool
  | .Set _ _ _ => false
  | _ => true
/-- a test that is not looked into -/
def plainT : Expr → Bool
  | .BoolOp _ _ _ => false
  | .UnaryOp _ _ _ => false
  | .Compare _ _ _ _ => false
  | .Name _ _ => true
  | .Call _ _ _ _ => true
  | .Subscript _ _ _ => true
  | .IfExp _ _ _ _ => false
  | .Constant (.bool _) _ _ => true
  | _ => false

section
variable {X : Cx} {e : Expr}
theorem asName_ok {x : PStr} (h : asName e = some x) : ∃ p, e = .Name x p := by
  unfold asName at h
  split at h
  · cases h; exact ⟨_, rfl⟩
  · cases h
theorem asTup_ok {x : List Expr} (h : asTup e = some x) : ∃ k p, e = .Tuple x k p := by
  unfold asTup at h
  split at h
  · cases h; exact ⟨_, _, rfl⟩
  · cases h
theorem asLst_ok {x : List Expr} (h : asLst e = some x) : ∃ p, e = .List x p := by
  unfold asLst at h
  split at h
  · cases h; exact ⟨_, rfl⟩
  · cases h
theorem asBin_ok {a b : Expr} {op : Operator} (h : asBin e = some (a, op, b)) : ∃ p, e = .BinOp a op b p := by
  unfold asBin at h
  split at h
  · cases h; exact ⟨_, rfl⟩
  · cases h
theorem asUn_ok {a : Expr} {op : UnaryOp} (h : asUn e = some (op, a)) : ∃ p, e = .UnaryOp op a p := by
  unfold asUn at h
  split at h
  · cases h; exact ⟨_, rfl⟩
  · cases h
theorem asCmp_ok {a b : Expr} {op : CmpOp} (h : asCmp e = some (a, op, b)) : ∃ p, e = .Compare a [op] [b] p := by
  unfold asCmp at h
  split at h
  · cases h; exact ⟨_, rfl⟩
  · cases h
theorem asCmp2_ok {a b c : Expr} {o1 o2 : CmpOp} (h : asCmp2 e = some (a, o1, o2, b, c)) : ∃ p, e = .Compare a [o1, o2] [b, c] p := by
  unfold asCmp2 at h
  split at h
  · cases h; exact ⟨_, rfl⟩
  · cases h
theorem asBool_ok {a b : Expr} {op : BoolOp} (h : asBool e = some (op, a, b)) : ∃ p, e = .BoolOp op [a, b] p ∨ ∃ c d r, e = .BoolOp op (a :: c :: d :: r) p ∧ b = .BoolOp op (c :: d :: r) p := by
  unfold asBool at h
  split at h
  · cases h; exact ⟨_, .inl rfl⟩
  · cases h; exact ⟨_, .inr ⟨_, _, _, rfl, rfl⟩⟩
  · cases h
theorem asIf_ok {a b c : Expr} (h : asIf e = some (c, a, b)) : ∃ p, e = .IfExp c a b p := by
  unfold asIf at h
  split at h
  · cases h; exact ⟨_, rfl⟩
  · cases h
theorem asCall_ok {x : PStr} {l : List Expr} (h : asCall e = some (x, l)) : ∃ p q, e = .Call (.Name x p) l [] q := by
  unfold asCall at h
  split at h
  · cases h; exact ⟨_, _, rfl⟩
  · cases h
theorem asMeth_ok {o : Expr} {x : PStr} {l : List Expr} (h : asMeth e = some (o, x, l)) : ∃ p q, e = .Call (.Attribute o x p) l [] q ∧ (p.endLine == q.line) = true := by
  unfold asMeth at h
  split at h
  · split at h
    · cases h; exact ⟨_, _, rfl, by assumption⟩
    · cases h
  · cases h
theorem asSub_ok {a b : Expr} (h : asSub e = some (a, b)) : ∃ p, e = .Subscript a b p := by
  unfold asSub at h
  split at h
  · cases h; exact ⟨_, rfl⟩
  · cases h
theorem asRev_ok {a : Expr} (h : asRev e = some a) : ∃ k p1 p2 p3 p, e = .Subscript a (.Slice none none (some (.UnaryOp .USub (.Constant (.int 1) k p1) p2)) p3) p := by
  unfold asRev at h
  split at h
  · split at h
    · rename_i z
      subst z
      cases h
      exact ⟨_, _, _, _, _, rfl⟩
    · cases h
  · cases h
theorem asSlice_ok {a : Expr} {lo hi : Option Expr} (h : asSlice e = some (a, lo, hi)) : ∃ p q, e = .Subscript a (.Slice lo hi none p) q := by
  unfold asSlice at h
  split at h
  · cases h; exact ⟨_, _, rfl⟩
  · cases h
theorem star_ok (h : noStar e = true) (es : List Expr) : starEach (e :: es) X.env = (false, eval e X.env) :: starEach es X.env := by
  cases e <;> first | rfl | cases h
theorem back_any : ∀ (l : List (Bool × Sem Value)) (pos : Pos), (backTo pos l).any (·.1) = l.any (·.1)
  | [], _ => rfl
  | (b, m) :: r, pos => by
    have ih := back_any r pos
    unfold backTo at ih ⊢
    rw [List.map_cons, List.any_cons, List.any_cons, ih]
theorem plain_ok {es : List Expr} (pos : Pos) (h : es.all noStar = true) : (backTo pos (starEach es X.env)).any (·.1) = false := by
  rw [back_any]
  induction es with
  | nil => rfl
  | cons e es ih =>
    rw [List.all_cons, Bool.and_eq_true] at h
    rw [star_ok h.1, List.any_cons, ih h.2] <;> rfl
theorem few_ok {es : List Expr} (pos : Pos) (h : es.all noStar = true) (hl : decide (es.length < 30) = true) : ((backTo pos (starEach es X.env)).all (fun x => !x.1) && (backToKw pos (keywordEach [] X.env)).all (fun x => x.1.isSome)
      && decide (es.length + ([] : List Keyword).length + (if ([] : List Keyword).isEmpty then 0 else 1) < 30)) = true := by
  have p := plain_ok (X := X) pos h
  have q : ∀ l : List (Bool × Sem Value), l.any (·.1) = false → l.all (fun x => !x.1) = true := by
    intro l hl
    induction l with
    | nil => rfl
    | cons x r ih =>
      rw [List.any_cons, Bool.or_eq_false_iff] at hl
      rw [List.all_cons, ih hl.2, hl.1] <;> rfl
  rw [q _ p]
  have k : (backToKw pos (keywordEach [] X.env)).all (fun x => x.1.isSome) = true := rfl
  rw [k]
  exact hl
theorem ix_ok (h : noSlice e = true) : PlainIx e := by
  intro o i
  cases e <;> first | rfl | cases h
theorem base_ok (h : noSup e = true) (name : PStr) : attributeBase e name X.env (eval e X.env) = eval e X.env := by
  cases e <;> first | rfl | cases h
theorem swap_ok (h : noComp e = true) (t : Option Expr) (l : Nat) : swapsWith e t l X.env = pure false := by
  cases e <;> first | rfl | cases h
theorem set_fold (h : noSet e = true) : ∀ (env : PySem.Env) (x : Value), foldedSetIterable e env x = pure x := by
  intro env x
  cases e <;> first | rfl | cases h
theorem plainT_ok (h : plainT e = true) : ∀ whole, isTrue e X.env whole = (do let v ← whole; standAt e.pos; holding [v] (truthy v)) := by
  intro whole
  unfold plainT at h
  split at h <;> first | rfl | cases h
end
end Pu

set_option linter.all false
set_option autoImplicit false
set_option maxRecDepth 100000
/-! P23: the checker of expressions. -/
namespace Pu
open PySem PySem.Spec PyProof.Rows L2
structure Ctx where
  N : List PStr
  sc : Scope
  fn : PStr → Bool
  fns : List (PStr × Nat)
  free : List PStr
  cst : List (PStr × PV)
  cls : List (PStr × Nat)
  rs : List Nat
  top : Bool
structure Fits (C : Nat → List PV → St → Rz (PV × Bool)) (cl : Cl) (W : WX) (c : Ctx) (X : Cx) : Prop where
  N : X.N = c.N
  nd : X.N.Nodup
  sc : X.env.scope = c.sc
  kind : c.sc.kind = .function
  fn : X.fn = c.fn
  calm : X.calm = true
  units : X.A.units + 64 < cLine
  tk : L2.Takes X W
  calls : ∀ x i, c.fns.lookup x = some i → ∃ f fd ps k, X.mg x = some (.ref f) ∧ FnG X.prog X.w X.K X.mg X.base k f fd ps (spF cl (C i)) ∧ Room k X.A ∧ PySem.W.keepIn X.K (.ref f) = true ∧ Binds X.K fd ps []
  free : ∀ x, x ∈ c.free → X.mg x = none
  guards : X.A.guards = some []
  cst : ∀ x v, c.cst.lookup x = some v → ∃ u val, X.mg x = some val ∧ RelV u val ∧ ∀ w : Vw, RV w v u
  cls : ∀ x k, c.cls.lookup x = some k → X.mg x = some (.ref (cl.A k)) ∧ cl.O k ∧ k ≠ 1000
  raises : ∀ k, k ∈ c.rs → cl.O k ∧ PySem.W.excIn X.K (cl.A k) He.veBase "ValueError.__new__" = true ∧ PySem.W.keepIn X.K (.ref (cl.A k)) = true ∧ PySem.W.subIn X.K (.ref (cl.A k)) (.type "BaseException") = some true ∧ PySem.W.typeIn X.K (.ref (cl.A k)) = some (.type "type")
  clok : ClOk X.K cl
  own : c.top = true → X.stack = X.env :: X.outer ∧ X.env.frame = some X.env.locals ∧ X.ex = []
def Ctx.at (c : Ctx) (i : Nat) (x : PStr) : Bool := decide (c.N[i]? = some x)
def visB (c : Ctx) (x : PStr) : Bool := match c.sc.names.lookup x with
  | some .local => true
  | some .cell => true
  | some .free => true
  | _ => false
def locB (c : Ctx) (x : PStr) : Bool := match c.sc.names.lookup x with
  | some .local => true
  | some .cell => c.fn x
  | _ => false
def glB (c : Ctx) (x : PStr) : Bool := match c.sc.names.lookup x with
  | some .globalImplicit => true
  | _ => false
def bltB (c : Ctx) (x : PStr) : Bool := glB c x && decide (x ∈ c.free)
def okName (x : PStr) : Bool := decide (¬ x = ("__debug__" : PStr)) && decide (¬ x = ("__classdict__" : PStr))
def sameC : PV → PV → Bool
  | .int i, .int j => decide (i = j)
  | .str x, .str y => decide (x = y)
  | _, _ => false
/-- a constant of the module -/
def gcB (c : Ctx) (v : PV) (e : Expr) : Bool := match asName e with
  | some x => glB c x && (okName x && (match c.cst.lookup x with
    | some u => sameC u v
    | none => false))
  | none => false
def opB : Bop → Operator → Bool
  | .add, .Add => true | .sub, .Sub => true | .mul, .Mult => true | .mod, .Mod => true | .fdiv, .FloorDiv => true | .pow, .Pow => true
  | _, _ => false
def copB : Cop → CmpOp → Bool
  | .eq, .Eq => true | .ne, .NotEq => true | .lt, .Lt => true | .le, .LtE => true | .gt, .Gt => true | .ge, .GtE => true
  | .isin, .In => true | .notin, .NotIn => true | .is, .Is => true | .isnot, .IsNot => true
  | _, _ => false
theorem opB_ok {b : Bop} {o : Operator} (h : opB b o = true) : o = opOf b := by cases b <;> cases o <;> first | rfl | cases h
theorem copB_ok {b : Cop} {o : CmpOp} (h : copB b o = true) : o = copOf b := by cases b <;> cases o <;> first | rfl | cases h
def constB : PV → Expr → Bool
  | .int i, .Constant (.int j) _ _ => decide (i = j)
  | .bl a, .Constant (.bool b) _ _ => a == b
  | .non, .Constant .none _ _ => true
  | .str x, .Constant (.str y) _ _ => decide (x = y.cps.toList)
  | _, _ => false
/-- in: the right side is no display of constants -/
def noMarks (op : CmpOp) (b : Expr) : Bool := !behindInMarks op b
def bltName : Blt → String
  | .len => "len" | .list => "list" | .tuple => "tuple" | .sorted => "sorted" | .sortedSet => "sorted" | .lenSet => "len" | .listZip => "list"
  | .isTuple => "tuple" | .isInt => "int" | .isStr => "str" | .isBool => "bool" | .isList => "list"
  | .all => "all" | .any => "any" | .int => "int" | .min => "min" | .max => "max" | .repr => "repr"
mutual
def chkTg (c : Ctx) : TgE → Expr → Bool
  | .nm i, .Name x _ => c.at i x && locB c x
  | .tp l, .Tuple es _ _ => chkTgs c l es
  | _, _ => false
def chkTgs (c : Ctx) : List TgE → List Expr → Bool
  | [], [] => true
  | t :: ts, e :: es => noStar e && (chkTg c t e && chkTgs c ts es)
  | _, _ => false
end
def blkCtx (c : Ctx) (scope : Scope) : Ctx := { c with sc := relS scope c.sc, fn := fun x => scope.names.lookup x == some .cell, top := false }
mutual
def tgNames : TgE → Expr → List (PStr × Nat)
  | .nm i, .Name x _ => [(x, i)]
  | .tp l, .Tuple es _ _ => tgsNames l es
  | _, _ => []
def tgsNames : List TgE → List Expr → List (PStr × Nat)
  | t :: ts, e :: es => tgNames t e ++ tgsNames ts es
  | _, _ => []
end
def dinOp : Bool → CmpOp → Bool
  | false, .In => true
  | true, .NotIn => true
  | _, _ => false
/-- as a test: only what has no test of its own -/
def grd (t : Bool) (e : Expr) : Bool := !t || plainT e
mutual
def chkE (c : Ctx) (t : Bool) : XE → Expr → Bool
  | .c v, e => grd t e && (constB v e || gcB c v e)
  | .v i, e => grd t e && match asName e with
    | some x => c.at i x && (visB c x && okName x)
    | none => false
  | .tup es, e => grd t e && match asTup e with
    | some l => chkL c es l
    | none => false
  | .lst es, e => grd t e && match asLst e with
    | some l => chkL c es l
    | none => false
  | .bin op a b, e => grd t e && match asBin e with
    | some (x, o, y) => opB op o && (chkE c false a x && chkE c false b y)
    | none => false
  | .neg a, e => grd t e && match asUn e with
    | some (.USub, x) => chkE c false a x
    | _ => false
  | .cmp op a b, e => match asCmp e with
    | some (x, o, y) => copB op o && (noMarks o y && (chkE c false a x && chkE c false b y))
    | none => false
  | .cmp2 o1 o2 a b d, e => match asCmp2 e with
    | some (x, p1, p2, y, z) => copB o1 p1 && (copB o2 p2 && (!lastMarks [p1, p2] [y, z] && (chkE c false a x && (chkE c false b y && chkE c false d z))))
    | none => false
  | .and a b, e => match asBool e with
    | some (.And, x, y) => chkE c t a x && chkE c t b y
    | _ => false
  | .or a b, e => match asBool e with
    | some (.Or, x, y) => chkE c t a x && chkE c t b y
    | _ => false
  | .not a, e => match asUn e with
    | some (.Not, x) => chkE c t a x
    | _ => false
  | .ite tt a b, e => grd t e && match asIf e with
    | some (z, x, y) => chkE c true tt z && (chkE c false a x && chkE c false b y)
    | none => false
  | .call f es, e => grd t e && match asCall e with
    | some (x, l) => glB c x && (okName x && (decide (c.fns.lookup x = some f) && chkL c es l))
    | none => false
  | .blt f es, e => grd t e && match asCall e with
    | some (x, l) => match f, es, l with
      | .sortedSet, .cons a .nil, [y] => bltB c "sorted" && (bltB c "set" && (decide (x = ("sorted" : PStr)) && (match asCall y with
        | some (x2, [z]) => decide (x2 = ("set" : PStr)) && (noStar y && (noStar z && chkE c false a z))
        | _ => false)))
      | .lenSet, .cons a .nil, [y] => bltB c "len" && (bltB c "set" && (decide (x = ("len" : PStr)) && (match asCall y with
        | some (x2, [z]) => decide (x2 = ("set" : PStr)) && (noStar y && (noStar z && chkE c false a z))
        | _ => false)))
      | .listZip, .cons a (.cons b .nil), [y] => bltB c "list" && (bltB c "zip" && (decide (x = ("list" : PStr)) && (match asCall y with
        | some (x2, [z1, z2]) => decide (x2 = ("zip" : PStr)) && (noStar z1 && (noStar z2 && (chkE c false a z1 && chkE c false b z2)))
        | _ => false)))
      | .isTuple, .cons a .nil, [y, ty] => bltB c "isinstance" && (bltB c "tuple" && (decide (x = ("isinstance" : PStr)) && (decide (asName ty = some ("tuple" : PStr)) && (noStar y && chkE c false a y))))
      | .isInt, .cons a .nil, [y, ty] => bltB c "isinstance" && (bltB c "int" && (decide (x = ("isinstance" : PStr)) && (decide (asName ty = some ("int" : PStr)) && (noStar y && chkE c false a y))))
      | .isStr, .cons a .nil, [y, ty] => bltB c "isinstance" && (bltB c "str" && (decide (x = ("isinstance" : PStr)) && (decide (asName ty = some ("str" : PStr)) && (noStar y && chkE c false a y))))
      | .isBool, .cons a .nil, [y, ty] => bltB c "isinstance" && (bltB c "bool" && (decide (x = ("isinstance" : PStr)) && (decide (asName ty = some ("bool" : PStr)) && (noStar y && chkE c false a y))))
      | .isList, .cons a .nil, [y, ty] => bltB c "isinstance" && (bltB c "list" && (decide (x = ("isinstance" : PStr)) && (decide (asName ty = some ("list" : PStr)) && (noStar y && chkE c false a y))))
      | .len, .cons a .nil, [y] => bltB c "len" && (decide (x = ("len" : PStr)) && (noStar y && chkE c false a y))
      | .list, .cons a .nil, [y] => bltB c "list" && (decide (x = ("list" : PStr)) && (noStar y && chkE c false a y))
      | .tuple, .cons a .nil, [y] => bltB c "tuple" && (decide (x = ("tuple" : PStr)) && (noStar y && chkE c false a y))
      | .sorted, .cons a .nil, [y] => bltB c "sorted" && (decide (x = ("sorted" : PStr)) && (noStar y && chkE c false a y))
      | .all, .cons a .nil, [y] => bltB c "all" && (decide (x = ("all" : PStr)) && (noStar y && chkE c false a y))
      | .any, .cons a .nil, [y] => bltB c "any" && (decide (x = ("any" : PStr)) && (noStar y && chkE c false a y))
      | .int, .cons a .nil, [y] => bltB c "int" && (decide (x = ("int" : PStr)) && (noStar y && chkE c false a y))
      | .min, .cons a .nil, [y] => bltB c "min" && (decide (x = ("min" : PStr)) && (noStar y && chkE c false a y))
      | .repr, .cons a .nil, [y] => bltB c "repr" && (decide (x = ("repr" : PStr)) && (noStar y && chkE c false a y))
      | .max, .cons a .nil, [y] => bltB c "max" && (decide (x = ("max" : PStr)) && (noStar y && chkE c false a y))
      | _, _, _ => false
    | none => false
  | .isx k a, e => grd t e && match asCall e with
    | some (x, [y, ty]) => bltB c "isinstance" && (decide (x = ("isinstance" : PStr)) && ((match asName ty with
      | some n => (if k = 1000 then bltB c "ValueError" && decide (n = ("ValueError" : PStr)) else glB c n && (okName n && decide (c.cls.lookup n = some k)))
      | none => false) && (noStar y && chkE c false a y)))
    | _ => false
  | .mth m o es, e => grd t e && match asMeth e with
    | some (x, n, l) => match m, es, l with
      | .join, .cons a .nil, [y] => decide (n = ("join" : PStr)) && (noSup x && (noStar y && (chkE c false o x && chkE c false a y)))
      | m, es, l => (match m with
      | .index => decide (n = ("index" : PStr))
      | .count => decide (n = ("count" : PStr))
      | _ => false) && (noSup x && (decide (l.length < 30) && (!l.isEmpty && (chkE c false o x && chkL c es l))))
    | none => false
  | .idx o i, e => grd t e && match asSub e with
    | some (x, y) => noSlice y && (chkE c false o x && chkE c false i y)
    | none => false
  | .sl o lo hi, e => grd t e && match asSlice e with
    | some (x, y, z) => chkE c false o x && (chkO c lo y && chkO c hi z)
    | none => false
  | .rev o, e => grd t e && (match asRev e with
    | some x => chkE c false o x
    | none => false)
  | .lc a tg it ifs, e => grd t e && match e with
    | .ListComp elt [⟨tge, iter, ifl, 0⟩] scope _ => blkC c.N c.sc scope (tgNames tg tge) && (decide ((tgNames tg tge).map (·.2) = tg.slots) && (noSet iter && (chkI c it tge iter &&
        (chkTg (blkCtx c scope) tg tge && (chkTs (blkCtx c scope) ifs ifl && chkE (blkCtx c scope) false a elt)))))
    | _ => false
  | .lc2 a tg it tg2 it2, e => grd t e && match e with
    | .ListComp elt [⟨tge, iter, [], 0⟩, ⟨tge2, iter2, [], 0⟩] scope _ => blkC c.N c.sc scope (tgNames tg tge ++ tgNames tg2 tge2) && (decide ((tgNames tg tge ++ tgNames tg2 tge2).map (·.2) = tg.slots ++ tg2.slots) && (noSet iter && (noSet iter2 && (chkI c it tge iter &&
        (chkTg (blkCtx c scope) tg tge && (chkI (blkCtx c scope) it2 tge2 iter2 && (chkTg (blkCtx c scope) tg2 tge2 && chkE (blkCtx c scope) false a elt)))))))
    | _ => false
  | .dnew _, e => grd t e && (match e with
    | .Dict [] [] _ => true
    | _ => false)
  | .dget o i, e => grd t e && (match asSub e with
    | some (x, y) => noSlice y && (chkE c false o x && chkE c false i y)
    | none => false)
  | .din neg k o, e => match asCmp e with
    | some (x, op, y) => dinOp neg op && (noMarks op y && (chkE c false k x && chkE c false o y))
    | none => false
  | .dgetD o k d, e => false
def chkL (c : Ctx) : XL → List Expr → Bool
  | .nil, [] => true
  | .cons a r, e :: es => noStar e && (chkE c false a e && chkL c r es)
  | _, _ => false
def chkO (c : Ctx) : XO → Option Expr → Bool
  | .none, none => true
  | .some a, some e => chkE c false a e
  | _, _ => false
def chkTs (c : Ctx) : XO → List Expr → Bool
  | .none, [] => true
  | .some a, [e] => chkE c true a e
  | _, _ => false
def chkI (c : Ctx) : XI → Expr → Expr → Bool
  | .seq a, _, e => chkE c false a e
  | .rng a, _, e => match asCall e with
    | some (x, [y]) => bltB c "range" && (decide (x = ("range" : PStr)) && (noStar y && chkE c false a y))
    | _ => false
  | .rng2 a b, _, e => match asCall e with
    | some (x, [y, z]) => bltB c "range" && (decide (x = ("range" : PStr)) && (noStar y && (noStar z && (chkE c false a y && chkE c false b z))))
    | _ => false
  | .enum a, t, e => (asTup t).isSome && (match asCall e with
    | some (x, [y]) => bltB c "enumerate" && (decide (x = ("enumerate" : PStr)) && (noStar y && chkE c false a y))
    | _ => false)
  | .zip a b, t, e => (asTup t).isSome && (match asCall e with
    | some (x, [y, z]) => bltB c "zip" && (decide (x = ("zip" : PStr)) && (noStar y && (noStar z && (chkE c false a y && chkE c false b z))))
    | _ => false)
end
example (c : Ctx) : chkE c false (.c .non) (.Constant .none 0 ⟨1,1,1,1⟩) = true := rfl
end Pu

set_option linter.all false
set_option autoImplicit false
set_option maxRecDepth 100000
set_option maxHeartbeats 4000000
/-! P24: what the checker of expressions lets pass is right. -/
namespace Pu
open PySem PySem.Spec PyProof.Rows L2
section
variable {C : Nat → List PV → St → Rz (PV × Bool)} {cl : Cl} {W : WX} {c : Ctx} {X : Cx} {e : Expr}
theorem dec {p : Prop} [Decidable p] (h : decide p = true) : p := of_decide_eq_true h
theorem and2 {a b : Bool} (h : (a && b) = true) : a = true ∧ b = true := Bool.and_eq_true_iff.mp h
theorem Fits.at (F : Fits C cl W c X) {i : Nat} {x : PStr} (h : c.at i x = true) : X.N[i]? = some x := by
  rw [F.N]; exact dec h
theorem Fits.vis (F : Fits C cl W c X) {x : PStr} (h : visB c x = true) : Vis X.env.scope x := by
  rw [F.sc]
  unfold visB at h
  split at h
  · exact .inl (by assumption)
  · exact .inr (.inl (by assumption))
  · exact .inr (.inr (by assumption))
  · cases h
theorem Fits.loc (F : Fits C cl W c X) {x : PStr} (h : locB c x = true) : Loc X.env.scope x ∧ (X.fn x = true ∨ X.env.scope.names.lookup x = some .local) := by
  rw [F.sc, F.fn]
  unfold locB at h
  split at h
  · exact ⟨.inl (by assumption), .inr (by assumption)⟩
  · exact ⟨.inr (by assumption), .inl h⟩
  · cases h
theorem Fits.gl (F : Fits C cl W c X) {x : PStr} (h : glB c x = true) : Gl X x := by
  show X.env.scope.names.lookup x = _
  rw [F.sc]
  unfold glB at h
  split at h
  · assumption
  · cases h
theorem Fits.blt (F : Fits C cl W c X) {x : PStr} (h : bltB c x = true) : Gl X x ∧ X.mg x = none := by
  obtain ⟨a, b⟩ := and2 h
  exact ⟨F.gl a, F.free x (dec b)⟩
theorem okName_ok {x : PStr} (h : okName x = true) : (x == ("__debug__" : PStr)) = false ∧ (x == ("__classdict__" : PStr)) = false := by
  obtain ⟨a, b⟩ := and2 h
  exact ⟨beq_eq_false_iff_ne.mpr (dec a), beq_eq_false_iff_ne.mpr (dec b)⟩
def isCallX : XE → Bool
  | .call _ _ => true
  | _ => false
theorem pX_eq {x : XE} (h : isCallX x = false) (σ : Env) (s : St) : pX C x σ s = (pE C x σ s).bind fun v s => .ok (v, freshB x) s := by
  cases x <;> first | rfl | (cases h; done) | (unfold pX; rfl)
theorem goesX {σ : L2.St} {w : Vw} {r : Rz PV} {fr : Bool} {Q : VK} {V : Vw → Vw → PV → V → Prop} (hV : ∀ w w' v u, V w w' v u → VF w w' (v, fr) u) (h : Goes cl W VF σ Q w (r.bind fun v s => .ok (v, fr) s)) : Goes cl W V σ Q w r := by
  unfold Goes at h ⊢
  cases r with
  | no => exact h
  | ok a s => exact fun w' u R g v => h w' u R g (hV _ _ _ _ v)
  | ex c fs s => exact h
theorem tF_N {σ : L2.St} {H : Hp} {Q : VK} {x : XE} (hc : isCallX x = false) (h : tF cl W C x σ H Q) : tN cl W C x σ H Q := by
  obtain ⟨w, e, s, rfl, h2, y, h⟩ := h
  rw [pX_eq hc] at h
  exact ⟨w, e, s, rfl, h2, y, goesX (fun _ _ _ _ v => ⟨v.1, fun _ => v.2⟩) h⟩
theorem tF_V {σ : L2.St} {H : Hp} {Q : VK} {x : XE} (hc : isCallX x = false) (hf : freshB x = false) (h : tF cl W C x σ H Q) : tV cl W C x σ H Q := by
  obtain ⟨w, e, s, rfl, h2, y, h⟩ := h
  rw [pX_eq hc, hf] at h
  exact ⟨w, e, s, rfl, h2, y, goesX (fun _ _ _ _ v => ⟨v, fun z => by cases z⟩) h⟩
/-- as a value that is read, that is kept, that is stored -/
abbrev M3 (C : Nat → List PV → St → Rz (PV × Bool)) (cl : Cl) (W : WX) (X : Cx) (x : XE) (e : Expr) : Prop := PE X e (tR cl W C x) ∧ PE X e (tV cl W C x) ∧ PE X e (tF cl W C x)
theorem m3_N {x : XE} (hb : bare x = []) (hc : isCallX x = false) (h : PE X e (tN cl W C x)) : M3 C cl W X x e :=
  ⟨PE.imp h fun σ H Q => tG_weak (fun _ _ _ _ v => .inl v.1) (by rw [hb, List.append_nil]; exact fun _ h => h), PE.imp h fun σ H Q => tG_weak (fun _ _ _ _ v => v.1) fun _ h => h, PE.imp h fun σ H Q => tF_N hc⟩
theorem m3_V {x : XE} (hb : bare x = []) (hc : isCallX x = false) (hf : freshB x = false) (h : PE X e (tV cl W C x)) : M3 C cl W X x e :=
  ⟨PE.imp h fun σ H Q => tG_weak (fun _ _ _ _ v => .inl v) (by rw [hb, List.append_nil]; exact fun _ h => h), h, PE.imp h fun σ H Q => tF_V hc hf⟩
theorem m3_2 {x : XE} (hc : isCallX x = false) (hf : freshB x = false) (h0 : PE X e (tR cl W C x)) (h : PE X e (tV cl W C x)) : M3 C cl W X x e := ⟨h0, h, PE.imp h fun σ H Q => tF_V hc hf⟩
theorem const_ok {v : PV} (h : constB v e = true) : M3 C cl W X (.c v) e := by
  refine m3_V rfl rfl rfl ?_
  unfold constB at h
  split at h
  · have := dec h
    subst this
    exact PE.imp pe_int fun σ H Q => w_c fun _ => rv_int' _
  · have := beq_iff_eq.mp h
    subst this
    exact PE.imp pe_bl fun σ H Q => w_c fun _ => rv_bl' _
  · exact PE.imp pe_non fun σ H Q => w_c fun _ => rv_non'
  · rename_i y _ _
    have := dec h
    subst this
    obtain ⟨⟨y⟩⟩ := y
    exact PE.imp pe_str fun σ H Q => w_c fun _ => rv_str' _
  · cases h
/-- as a value, as a test -/
abbrev Both (C : Nat → List PV → St → Rz (PV × Bool)) (cl : Cl) (W : WX) (c : Ctx) (X : Cx) (x : XE) (e : Expr) : Prop :=
  (chkE c false x e = true → M3 C cl W X x e) ∧ (chkE c true x e = true → PT X e (tT cl W C x))
theorem both {x : XE} {F : Bool} (h : F = true → M3 C cl W X x e) : ((grd false e && F) = true → M3 C cl W X x e) ∧ ((grd true e && F) = true → PT X e (tT cl W C x)) := by
  refine ⟨fun g => h (and2 g).2, fun g => ?_⟩
  obtain ⟨g1, g2⟩ := and2 g
  have p : plainT e = true := by
    unfold grd at g1
    exact g1
  exact PT.imp (pt_val (h g2).1 (plainT_ok p)) fun σ H Q => tT_B
theorem takes0 {X : Cx} : L2.Takes X W0 := fun _ _ ⟨_, _, _, _, _, _, _, _, _, _, _, _, _, _, _, _, w⟩ => w.elim
theorem Fits.block (F : Fits C cl W c X) {scope : Scope} (hk : scope.kind = .function) (s : Shared) (H : Hp) (A : Addr) (cs : List (Str × Addr)) (fp : List Addr) : Fits C cl W0 (blkCtx c scope) (X.blk s H scope (compEnvC scope cs A X.env) fp) where
  N := F.N
  nd := F.nd
  sc := by
    show relS scope X.env.scope = relS scope c.sc
    rw [F.sc]
  kind := hk
  fn := rfl
  calm := F.calm
  units := F.units
  tk := takes0
  calls := F.calls
  free := F.free
  guards := F.guards
  cst := F.cst
  cls := F.cls
  raises := F.raises
  clok := F.clok
  own := fun h => by cases h
mutual
theorem okTg (F : Fits C cl W c X) : ∀ (tg : TgE) (e : Expr), chkTg c tg e = true → PG X e (gT tg)
  | .nm i, e, h => by
    cases e with
    | Name x p =>
      unfold chkTg at h
      obtain ⟨h1, h2⟩ := and2 h
      obtain ⟨l1, l2⟩ := F.loc h2
      exact ⟨fun pins s σ H v u Q I r q => (pg_name F.nd (F.at h1) l1 l2).run pins s σ H v u Q I r (g_nm q)⟩
    | _ => unfold chkTg at h; cases h
  | .tp l, e, h => by
    cases e with
    | Tuple es k p =>
      unfold chkTg at h
      obtain ⟨g1, g2, g3, g4⟩ := okTgs F l es h
      exact ⟨fun pins s σ H v u Q I r q => (pg_tup F.calm g1 (n := l.length) g2 g3).run pins s σ H v u Q I r (g_tp rfl q)⟩
    | _ => unfold chkTg at h; cases h
theorem okTgs (F : Fits C cl W c X) : ∀ (l : List TgE) (es : List Expr), chkTgs c l es = true → PGs X es (gTs l) ∧ (assignEach es X.env).length = l.length ∧ (assignEach es X.env).findIdx? (·.1) = none ∧ es.all noStar = true
  | [], es, h => by
    cases es with
    | nil => exact ⟨⟨fun pins s σ H v u Q I r q => pgs_nil.run pins s σ H v u Q I r (g_nil q)⟩, rfl, rfl, rfl⟩
    | cons _ _ => unfold chkTgs at h; cases h
  | t :: ts, es, h => by
    cases es with
    | nil => unfold chkTgs at h; cases h
    | cons e es =>
      unfold chkTgs at h
      obtain ⟨h0, h1⟩ := and2 h
      obtain ⟨h1, h2⟩ := and2 h1
      have a := okTg F t e h1
      obtain ⟨b1, b2, b3, b4⟩ := okTgs F ts es h2
      have st : assignEach (e :: es) X.env = (false, assign e X.env) :: assignEach es X.env := by
        cases e <;> first | rfl | cases h0
      refine ⟨⟨fun pins s σ H v u Q I r q => (pgs_cons a b1 (by rw [st] <;> rfl)).run pins s σ H v u Q I r (g_cons q)⟩, ?_, ?_, ?_⟩
      · rw [st, List.length_cons, List.length_cons, b2]
      · rw [st, List.findIdx?_cons, b3] <;> rfl
      · rw [List.all_cons, h0, b4] <;> rfl
end
theorem wOf {op : BoolOp} {a b : Expr} {r : List Expr} {p : Pos} {t : TT} (h : PT X (.BoolOp op (a :: b :: r) p) t) : PW X (.BoolOp op (a :: b :: r) p) t := by
  refine ⟨fun wh pins s σ H Q I q => ?_⟩
  exact h.run pins s σ H Q I q

theorem ex1 {P : Prop} (h : P) : P := h
/-- f(y), f a built-in function, a type -/
theorem b1 {f : Blt} {id : String} {x : PStr} {y : Expr} {a : XE} {p q : Pos} (hc : CallR X (.builtin id) (rB f)) (hg : Gl X x ∧ X.mg x = none) (hv : bootBuiltins x = some (.builtin id)) (hn : x ≠ "__name__") (hd : (x == ("__debug__" : Str)) = false)
    (hy : M3 C cl W X a y) (hs : noStar y = true) : M3 C cl W X (.blt f (.cons a .nil)) (.Call (.Name x p) [y] [] q) :=
  m3_N rfl rfl (PE.imp (pe_callB hc hg.1 hg.2 hv (pa_cons hy.1 pa_nil (star_ok hs [])) hn hd (star_ok hs []) rfl) fun σ H Q h => tG_then (w_consR _ (w_blt h)) fun _ _ q => w_nilR _ q)
theorem t1 {f : Blt} {id : String} {x : PStr} {y : Expr} {a : XE} {p q : Pos} (hc : CallR X (.type id) (rB f)) (hg : Gl X x ∧ X.mg x = none) (hv : bootBuiltins x = some (.type id)) (hn : x ≠ "__name__") (hd : (x == ("__debug__" : Str)) = false)
    (hy : M3 C cl W X a y) (hs : noStar y = true) : M3 C cl W X (.blt f (.cons a .nil)) (.Call (.Name x p) [y] [] q) :=
  m3_N rfl rfl (PE.imp (pe_callTy hc hg.1 hg.2 hv (pa_cons hy.1 pa_nil (star_ok hs [])) hn hd (star_ok hs []) rfl) fun σ H Q h => tG_then (w_consR _ (w_blt h)) fun _ _ q => w_nilR _ q)
theorem i1 {f : Blt} {ks : List Nat} {T : String} {xt : PStr} {y : Expr} {a : XE} {p p2 q : Pos} (hf : ∀ s, blt s f = bIs ks) (hk : ∀ n, n ≤ 5 → kitB (kindTy n) T = some (ks.contains n)) (hg : Gl X "isinstance" ∧ X.mg "isinstance" = none)
    (ht : Gl X xt ∧ X.mg xt = none) (hv : bootBuiltins xt = some (.type T)) (hn : xt ≠ "__name__") (hd : (xt == ("__debug__" : Str)) = false)
    (hy : M3 C cl W X a y) (hs : noStar y = true) : M3 C cl W X (.blt f (.cons a .nil)) (.Call (.Name "isinstance" p) [y, .Name xt p2] [] q) :=
  m3_N rfl rfl (PE.imp (pe_callB (cb_is hk) hg.1 hg.2 PyProof.Rows.boot_isinstance (pa_cons hy.1 (pa_cons (pe_bltn (v := V.ty T) ht.1 ht.2 hv rfl hn hd) pa_nil) (star_ok hs _)) (by decide) (by decide) (star_ok hs _) rfl) fun σ H Q h => w_is hf h)
/-- sorted(set(y)), len(set(y)) -/
theorem set1 {y : Expr} {a : XE} {p q : Pos} (F : Fits C cl W c X) (ht : Gl X "set" ∧ X.mg "set" = none) (hy : M3 C cl W X a y) (hs : noStar y = true) :
    PE X (.Call (.Name "set" p) [y] [] q) (tCB (rSetM X.K X.w) (tCons (tR cl W C a) tNil)) :=
  pe_callTy (cb_setM F.calm F.units) ht.1 ht.2 PyProof.Rows.boot_set (pa_cons hy.1 pa_nil (star_ok hs [])) (by decide) (by decide) (star_ok hs []) rfl
theorem Fits.unit1 (F : Fits C cl W c X) : X.A.units + 1 < cLine := by have := F.units; omega
theorem PTs_none {ifs : List Expr} (h : chkTs c .none ifs = true) : PTs X ifs (tTs cl W C .none) := by
  cases ifs with
  | nil => exact ⟨fun pins s σ H Q I q => pts_nil.run pins s σ H Q I (x_none q)⟩
  | cons _ _ => unfold chkTs at h; cases h
theorem notB {a : Bool} (h : (!a) = true) : a = false := by cases a <;> first | rfl | cases h
theorem blkKind {N : List Str} {sc scope : Scope} {own : List (Str × Nat)} (h : blkC N sc scope own = true) : scope.kind = .function := (blkOk_by h).kind
end
end Pu

set_option linter.all false
set_option autoImplicit false
set_option maxRecDepth 100000
set_option maxHeartbeats 4000000
/-! P25: what the checker of expressions lets pass is right. -/
namespace Pu
open PySem PySem.Spec PyProof.Rows L2
section
variable {C : Nat → List PV → St → Rz (PV × Bool)} {cl : Cl} {W : WX} {c : Ctx} {X : Cx} {e : Expr}
mutual
theorem okE : ∀ (x : XE) (W : WX) (c : Ctx) (X : Cx) (e : Expr), Fits C cl W c X → Both C cl W c X x e
  | .c v, W, c, X, e, F => by
    unfold Both chkE
    refine both fun h => ?_
    rcases Bool.or_eq_true_iff.mp h with hk | hk
    · exact const_ok hk
    · clear h
      unfold gcB at hk
      split at hk
      · rename_i x q
        obtain ⟨p, rfl⟩ := asName_ok q
        obtain ⟨h1, h2⟩ := and2 hk
        replace h2 := and2 h2; obtain ⟨h2, h3⟩ := h2
        split at h3
        · rename_i u q2
          have eu : u = v := by
            unfold sameC at h3
            split at h3
            · rw [dec h3]
            · rw [dec h3]
            · cases h3
          subst eu
          obtain ⟨y, val, m1, m2, m3⟩ := F.cst x _ q2
          exact m3_V rfl rfl rfl (PE.imp (pe_glob (F.gl h1) m1 m2 (okName_ok h2).1) fun σ H Q => w_c m3)
        · cases h3
      · cases hk
  | .v i, W, c, X, e, F => by
    unfold Both chkE
    refine both fun h => ?_
    split at h
    · rename_i x q
      obtain ⟨p, rfl⟩ := asName_ok q
      obtain ⟨h1, h2⟩ := and2 h
      replace h2 := and2 h2; obtain ⟨h2, h3⟩ := h2
      obtain ⟨h4, h5⟩ := okName_ok h3
      exact m3_2 rfl rfl (PE.imp (pe_var (F.at h1) (F.vis h2) h4 h5) fun σ H Q => w_v) (PE.imp (pe_var (F.at h1) (F.vis h2) h4 h5) fun σ H Q => w_vV)
    · cases h
  | .tup es, W, c, X, e, F => by
    unfold Both chkE
    refine both fun h => ?_
    split at h
    · rename_i l q
      obtain ⟨k, p, rfl⟩ := asTup_ok q
      exact m3_V rfl rfl rfl (PE.imp (pe_tup (okL es W c X l F h).2.1) fun σ H Q => w_tup)
    · cases h
  | .lst es, W, c, X, e, F => by
    unfold Both chkE
    refine both fun h => ?_
    split at h
    · rename_i l q
      obtain ⟨p, rfl⟩ := asLst_ok q
      exact m3_N rfl rfl (PE.imp (pe_lst (okL es W c X l F h).2.1) fun σ H Q => w_lst)
    · cases h
  | .bin op a b, W, c, X, e, F => by
    unfold Both chkE
    refine both fun h => ?_
    split at h
    · rename_i x o y q
      obtain ⟨p, rfl⟩ := asBin_ok q
      obtain ⟨h1, h2⟩ := and2 h
      replace h2 := and2 h2; obtain ⟨h2, h3⟩ := h2
      rw [opB_ok h1]
      exact m3_N rfl rfl (PE.imp (pe_op (or_bop op) ((okE a W c X x F).1 h2).1 ((okE b W c X y F).1 h3).1) fun σ H Q => w_bin)
    · cases h
  | .neg a, W, c, X, e, F => by
    unfold Both chkE
    refine both fun h => ?_
    split at h
    · rename_i x q
      obtain ⟨p, rfl⟩ := asUn_ok q
      exact m3_V rfl rfl rfl (PE.imp (pe_un un_neg ((okE a W c X x F).1 h).1) fun σ H Q => w_neg)
    · cases h
  | .cmp op a b, W, c, X, e, F => by
    unfold Both chkE
    constructor
    · intro h
      split at h
      · rename_i x o y q
        obtain ⟨p, rfl⟩ := asCmp_ok q
        obtain ⟨h1, h2⟩ := and2 h
        obtain ⟨h0, h2⟩ := and2 h2
        replace h2 := and2 h2; obtain ⟨h2, h3⟩ := h2
        rw [copB_ok h1] at h0 ⊢
        exact m3_V rfl rfl rfl (PE.imp (pe_cmpR (oc_cop F.units op) ((okE a W c X x F).1 h2).1 ((okE b W c X y F).1 h3).1 (notB h0)) fun σ H Q => w_cmp)
      · cases h
    · intro h
      split at h
      · rename_i x o y q
        obtain ⟨p, rfl⟩ := asCmp_ok q
        obtain ⟨h1, h2⟩ := and2 h
        obtain ⟨h0, h2⟩ := and2 h2
        replace h2 := and2 h2; obtain ⟨h2, h3⟩ := h2
        rw [copB_ok h1] at h0 ⊢
        exact PT.imp (pt_cmpR (oc_cop F.units op) ((okE a W c X x F).1 h2).1 ((okE b W c X y F).1 h3).1 (notB h0)) fun σ H Q h => w_cmp (tT_V rfl h)
      · cases h
  | .cmp2 o1 o2 a b d, W, c, X, e, F => by
    unfold Both chkE
    constructor
    · intro h
      split at h
      · rename_i x p1 p2 y z q
        obtain ⟨p, rfl⟩ := asCmp2_ok q
        obtain ⟨h1, h2⟩ := and2 h
        obtain ⟨h0, h2⟩ := and2 h2
        obtain ⟨h9, h2⟩ := and2 h2
        replace h2 := and2 h2; obtain ⟨h2, h3⟩ := h2
        replace h3 := and2 h3; obtain ⟨h3, h4⟩ := h3
        rw [copB_ok h1, copB_ok h0] at h9 ⊢
        exact m3_V rfl rfl rfl (PE.imp (pe_chain (oc_cop F.units o1) (oc_cop F.units o2) ((okE a W c X x F).1 h2).1 ((okE b W c X y F).1 h3).1 ((okE d W c X z F).1 h4).1 (notB h9)) fun σ H Q => w_cmp2)
      · cases h
    · intro h
      split at h
      · rename_i x p1 p2 y z q
        obtain ⟨p, rfl⟩ := asCmp2_ok q
        obtain ⟨h1, h2⟩ := and2 h
        obtain ⟨h0, h2⟩ := and2 h2
        obtain ⟨h9, h2⟩ := and2 h2
        replace h2 := and2 h2; obtain ⟨h2, h3⟩ := h2
        replace h3 := and2 h3; obtain ⟨h3, h4⟩ := h3
        rw [copB_ok h1, copB_ok h0] at h9 ⊢
        exact PT.imp (pt_chain (oc_cop F.units o1) (oc_cop F.units o2) ((okE a W c X x F).1 h2).1 ((okE b W c X y F).1 h3).1 ((okE d W c X z F).1 h4).1 (notB h9)) fun σ H Q h => w_cmp2 (tT_V rfl h)
      · cases h
  | .and a b, W, c, X, e, F => by
    unfold Both chkE
    constructor
    · intro h
      split at h
      · rename_i x y q
        obtain ⟨h1, h2⟩ := and2 h
        obtain ⟨p, q | ⟨u, v, r, q, q2⟩⟩ := asBool_ok q
        · subst q
          exact m3_V rfl rfl rfl (PE.imp (pe_and ((okE a W c X x F).1 h1).1 (pe_one ((okE b W c X y F).1 h2).1)) fun σ H Q => w_and)
        · subst q
          subst q2
          exact m3_V rfl rfl rfl (PE.imp (pe_and ((okE a W c X x F).1 h1).1 ((okE b W c X _ F).1 h2).1) fun σ H Q => w_and)
      · cases h
    · intro h
      split at h
      · rename_i x y q
        obtain ⟨h1, h2⟩ := and2 h
        obtain ⟨p, q | ⟨u, v, r, q, q2⟩⟩ := asBool_ok q
        · subst q
          exact PT.imp (PW.pt (pw_and ((okE a W c X x F).2 h1) (pw_and1 ((okE b W c X y F).2 h2)))) fun σ H Q => x_and
        · subst q
          subst q2
          exact PT.imp (PW.pt (pw_and ((okE a W c X x F).2 h1) (wOf ((okE b W c X _ F).2 h2)))) fun σ H Q => x_and
      · cases h
  | .or a b, W, c, X, e, F => by
    unfold Both chkE
    constructor
    · intro h
      split at h
      · rename_i x y q
        obtain ⟨h1, h2⟩ := and2 h
        obtain ⟨p, q | ⟨u, v, r, q, q2⟩⟩ := asBool_ok q
        · subst q
          exact m3_V rfl rfl rfl (PE.imp (pe_or ((okE a W c X x F).1 h1).1 (pe_one ((okE b W c X y F).1 h2).1)) fun σ H Q => w_or)
        · subst q
          subst q2
          exact m3_V rfl rfl rfl (PE.imp (pe_or ((okE a W c X x F).1 h1).1 ((okE b W c X _ F).1 h2).1) fun σ H Q => w_or)
      · cases h
    · intro h
      split at h
      · rename_i x y q
        obtain ⟨h1, h2⟩ := and2 h
        obtain ⟨p, q | ⟨u, v, r, q, q2⟩⟩ := asBool_ok q
        · subst q
          exact PT.imp (PW.pt (pw_or ((okE a W c X x F).2 h1) (pw_or1 ((okE b W c X y F).2 h2)))) fun σ H Q => x_or
        · subst q
          subst q2
          exact PT.imp (PW.pt (pw_or ((okE a W c X x F).2 h1) (wOf ((okE b W c X _ F).2 h2)))) fun σ H Q => x_or
      · cases h
  | .not a, W, c, X, e, F => by
    unfold Both chkE
    constructor
    · intro h
      split at h
      · rename_i x q
        obtain ⟨p, rfl⟩ := asUn_ok q
        exact m3_V rfl rfl rfl (PE.imp (pe_not ((okE a W c X x F).1 h).1) fun σ H Q => w_not)
      · cases h
    · intro h
      split at h
      · rename_i x q
        obtain ⟨p, rfl⟩ := asUn_ok q
        exact PT.imp (pt_not ((okE a W c X x F).2 h)) fun σ H Q => x_not
      · cases h
  | .ite t a b, W, c, X, e, F => by
    unfold Both chkE
    refine both fun h => ?_
    split at h
    · rename_i z x y q
      obtain ⟨p, rfl⟩ := asIf_ok q
      obtain ⟨h1, h2⟩ := and2 h
      replace h2 := and2 h2; obtain ⟨h2, h3⟩ := h2
      exact m3_2 rfl rfl (PE.imp (pe_ifExp ((okE t W c X z F).2 h1) ((okE a W c X x F).1 h2).1 ((okE b W c X y F).1 h3).1) fun σ H Q => w_ite an_R (by intro i hi; simp only [esc, List.mem_append]; grind) (by intro i hi; simp only [esc, List.mem_append]; grind) (by intro i hi; simp only [esc, List.mem_append]; grind))
        (PE.imp (pe_ifExp ((okE t W c X z F).2 h1) ((okE a W c X x F).1 h2).2.1 ((okE b W c X y F).1 h3).2.1) fun σ H Q => w_ite an_V (by intro i hi; simp only [esc, bare, List.mem_append]; grind) (by intro i hi; simp only [esc, bare, List.mem_append] at hi ⊢; grind) (by intro i hi; simp only [esc, bare, List.mem_append] at hi ⊢; grind))
    · cases h
  | .call f es, W, c, X, e, F => by
    unfold Both chkE
    refine both fun h => ?_
    split at h
    · rename_i x l q
      obtain ⟨p, p2, rfl⟩ := asCall_ok q
      obtain ⟨h1, h2⟩ := and2 h
      replace h2 := and2 h2; obtain ⟨h2, h3⟩ := h2
      replace h3 := and2 h3; obtain ⟨h3, h4⟩ := h3
      obtain ⟨g, fd, ps, k, a1, a2, a3, a4, a5⟩ := F.calls x f (dec h3)
      obtain ⟨s1, s2, s6, s3, _⟩ := okL es W c X l F h4
      cases l with
      | nil =>
        cases s3 rfl
        have r := pe_callG0 (p := p) (pos := p2) a2 F.guards a3 (F.gl h1) a1 a4 a5 F.tk (okName_ok h2).1
        exact ⟨PE.imp r fun σ H Q h => w_nil _ (w_callR h), PE.imp r fun σ H Q h => w_nil _ (w_callV h), PE.imp r fun σ H Q h => w_nil _ (w_callF h)⟩
      | cons e es' =>
        have s4 := s1
        rw [List.all_cons, Bool.and_eq_true] at s4
        have r := pe_callG (p := p) (pos := p2) a2 F.guards a3 (F.gl h1) a1 a4 a5 F.tk s2 (okName_ok h2).1 (star_ok s4.1 es') (plain_ok _ s4.2)
        exact ⟨PE.imp r fun σ H Q h => w_callR h, PE.imp r fun σ H Q h => w_callV h, PE.imp r fun σ H Q h => w_callF h⟩
    · cases h
  | .blt f es, W, c, X, e, F => by
    unfold Both chkE
    refine both fun h => ?_
    split at h
    · rename_i x l q
      obtain ⟨p, p2, rfl⟩ := asCall_ok q
      split at h
      · rename_i a y
        replace h := and2 h; obtain ⟨h1, h⟩ := h
        replace h := and2 h; obtain ⟨h2, h⟩ := h
        replace h := and2 h; obtain ⟨h3, h⟩ := h
        cases dec h3
        split at h
        · rename_i x2 z q2
          replace h := and2 h; obtain ⟨h4, h⟩ := h
          replace h := and2 h; obtain ⟨h5, h⟩ := h
          replace h := and2 h; obtain ⟨h6, h⟩ := h
          cases dec h4
          obtain ⟨p3, p4, rfl⟩ := asCall_ok q2
          exact m3_N rfl rfl (PE.imp (pe_callB (cb_sortM F.calm F.units) (F.blt h1).1 (F.blt h1).2 PyProof.Rows.boot_sorted (pa_cons (set1 F (F.blt h2) ((okE a W c X z F).1 h) h6) pa_nil rfl) (by decide) (by decide) rfl rfl) fun σ H Q h => w_sortedSet h)
        · cases h
      · rename_i a y
        replace h := and2 h; obtain ⟨h1, h⟩ := h
        replace h := and2 h; obtain ⟨h2, h⟩ := h
        replace h := and2 h; obtain ⟨h3, h⟩ := h
        cases dec h3
        split at h
        · rename_i x2 z q2
          replace h := and2 h; obtain ⟨h4, h⟩ := h
          replace h := and2 h; obtain ⟨h5, h⟩ := h
          replace h := and2 h; obtain ⟨h6, h⟩ := h
          cases dec h4
          obtain ⟨p3, p4, rfl⟩ := asCall_ok q2
          exact m3_N rfl rfl (PE.imp (pe_callB cb_lenM (F.blt h1).1 (F.blt h1).2 PySem.boot_len (pa_cons (set1 F (F.blt h2) ((okE a W c X z F).1 h) h6) pa_nil rfl) (by decide) (by decide) rfl rfl) fun σ H Q h => w_lenSet h)
        · cases h
      · rename_i a b y
        replace h := and2 h; obtain ⟨h1, h⟩ := h
        replace h := and2 h; obtain ⟨h2, h⟩ := h
        replace h := and2 h; obtain ⟨h3, h⟩ := h
        cases dec h3
        split at h
        · rename_i x2 z1 z2 q2
          replace h := and2 h; obtain ⟨h4, h⟩ := h
          replace h := and2 h; obtain ⟨h5, h⟩ := h
          replace h := and2 h; obtain ⟨h6, h⟩ := h
          replace h := and2 h; obtain ⟨h7, h8⟩ := h
          cases dec h4
          obtain ⟨p3, p4, rfl⟩ := asCall_ok q2
          have ha : PA X [z1, z2] (tRs cl W C (.cons a (.cons b .nil))) := PA.imp (pa_cons ((okE a W c X z1 F).1 h7).1 (PA.imp (pa_cons ((okE b W c X z2 F).1 h8).1 (PA.imp pa_nil fun σ H Q => w_nilR Q) (star_ok h6 [])) fun σ H Q => w_consR Q) (star_ok h5 [z2])) fun σ H Q => w_consR Q
          exact m3_N rfl rfl (PE.imp (pe_listZip F.calm (F.blt h1).1 (F.blt h1).2 (F.blt h2).1 (F.blt h2).2 ha rfl (star_ok h5 [z2]) (by rw [back_any, star_ok h6 []]; rfl)) fun σ H Q h => w_listZip h)
        · cases h
      · rename_i a y ty
        replace h := and2 h; obtain ⟨h1, h⟩ := h
        replace h := and2 h; obtain ⟨h2, h⟩ := h
        replace h := and2 h; obtain ⟨h3, h⟩ := h
        replace h := and2 h; obtain ⟨h4, h⟩ := h
        replace h := and2 h; obtain ⟨h5, h⟩ := h
        cases dec h3
        obtain ⟨p3, rfl⟩ := asName_ok (dec h4)
        exact i1 (fun _ => rfl) is_tuple (F.blt h1) (F.blt h2) PyProof.Rows.boot_tuple (by decide) (by decide) ((okE a W c X y F).1 h) h5
      · rename_i a y ty
        replace h := and2 h; obtain ⟨h1, h⟩ := h
        replace h := and2 h; obtain ⟨h2, h⟩ := h
        replace h := and2 h; obtain ⟨h3, h⟩ := h
        replace h := and2 h; obtain ⟨h4, h⟩ := h
        replace h := and2 h; obtain ⟨h5, h⟩ := h
        cases dec h3
        obtain ⟨p3, rfl⟩ := asName_ok (dec h4)
        exact i1 (fun _ => rfl) is_int (F.blt h1) (F.blt h2) PyProof.Rows.boot_int (by decide) (by decide) ((okE a W c X y F).1 h) h5
      · rename_i a y ty
        replace h := and2 h; obtain ⟨h1, h⟩ := h
        replace h := and2 h; obtain ⟨h2, h⟩ := h
        replace h := and2 h; obtain ⟨h3, h⟩ := h
        replace h := and2 h; obtain ⟨h4, h⟩ := h
        replace h := and2 h; obtain ⟨h5, h⟩ := h
        cases dec h3
        obtain ⟨p3, rfl⟩ := asName_ok (dec h4)
        exact i1 (fun _ => rfl) is_str (F.blt h1) (F.blt h2) PyProof.Rows.boot_str (by decide) (by decide) ((okE a W c X y F).1 h) h5
      · rename_i a y ty
        replace h := and2 h; obtain ⟨h1, h⟩ := h
        replace h := and2 h; obtain ⟨h2, h⟩ := h
        replace h := and2 h; obtain ⟨h3, h⟩ := h
        replace h := and2 h; obtain ⟨h4, h⟩ := h
        replace h := and2 h; obtain ⟨h5, h⟩ := h
        cases dec h3
        obtain ⟨p3, rfl⟩ := asName_ok (dec h4)
        exact i1 (fun _ => rfl) is_bool (F.blt h1) (F.blt h2) PyProof.Rows.boot_bool (by decide) (by decide) ((okE a W c X y F).1 h) h5
      · rename_i a y ty
        replace h := and2 h; obtain ⟨h1, h⟩ := h
        replace h := and2 h; obtain ⟨h2, h⟩ := h
        replace h := and2 h; obtain ⟨h3, h⟩ := h
        replace h := and2 h; obtain ⟨h4, h⟩ := h
        replace h := and2 h; obtain ⟨h5, h⟩ := h
        cases dec h3
        obtain ⟨p3, rfl⟩ := asName_ok (dec h4)
        exact i1 (fun _ => rfl) is_list (F.blt h1) (F.blt h2) PyProof.Rows.boot_list (by decide) (by decide) ((okE a W c X y F).1 h) h5
      · rename_i a y
        replace h := and2 h; obtain ⟨h1, h⟩ := h
        replace h := and2 h; obtain ⟨h2, h⟩ := h
        replace h := and2 h; obtain ⟨h3, h⟩ := h
        cases dec h2
        exact b1 cb_len (F.blt h1) PySem.boot_len (by decide) (by decide) ((okE a W c X y F).1 h) h3
      · rename_i a y
        replace h := and2 h; obtain ⟨h1, h⟩ := h
        replace h := and2 h; obtain ⟨h2, h⟩ := h
        replace h := and2 h; obtain ⟨h3, h⟩ := h
        cases dec h2
        exact t1 cb_list (F.blt h1) PyProof.Rows.boot_list (by decide) (by decide) ((okE a W c X y F).1 h) h3
      · rename_i a y
        replace h := and2 h; obtain ⟨h1, h⟩ := h
        replace h := and2 h; obtain ⟨h2, h⟩ := h
        replace h := and2 h; obtain ⟨h3, h⟩ := h
        cases dec h2
        exact t1 (cb_tuple F.calm) (F.blt h1) PyProof.Rows.boot_tuple (by decide) (by decide) ((okE a W c X y F).1 h) h3
      · rename_i a y
        replace h := and2 h; obtain ⟨h1, h⟩ := h
        replace h := and2 h; obtain ⟨h2, h⟩ := h
        replace h := and2 h; obtain ⟨h3, h⟩ := h
        cases dec h2
        exact b1 (cb_sorted F.units) (F.blt h1) PyProof.Rows.boot_sorted (by decide) (by decide) ((okE a W c X y F).1 h) h3
      · rename_i a y
        replace h := and2 h; obtain ⟨h1, h⟩ := h
        replace h := and2 h; obtain ⟨h2, h⟩ := h
        replace h := and2 h; obtain ⟨h3, h⟩ := h
        cases dec h2
        exact b1 (cb_all F.calm) (F.blt h1) PyProof.Rows.boot_all (by decide) (by decide) ((okE a W c X y F).1 h) h3
      · rename_i a y
        replace h := and2 h; obtain ⟨h1, h⟩ := h
        replace h := and2 h; obtain ⟨h2, h⟩ := h
        replace h := and2 h; obtain ⟨h3, h⟩ := h
        cases dec h2
        exact b1 (cb_any F.calm) (F.blt h1) PyProof.Rows.boot_any (by decide) (by decide) ((okE a W c X y F).1 h) h3
      · rename_i a y
        replace h := and2 h; obtain ⟨h1, h⟩ := h
        replace h := and2 h; obtain ⟨h2, h⟩ := h
        replace h := and2 h; obtain ⟨h3, h⟩ := h
        cases dec h2
        exact t1 cb_int (F.blt h1) PyProof.Rows.boot_int (by decide) (by decide) ((okE a W c X y F).1 h) h3
      · rename_i a y
        replace h := and2 h; obtain ⟨h1, h⟩ := h
        replace h := and2 h; obtain ⟨h2, h⟩ := h
        replace h := and2 h; obtain ⟨h3, h⟩ := h
        cases dec h2
        exact b1 (cb_min F.calm) (F.blt h1) PyProof.Rows.boot_min (by decide) (by decide) ((okE a W c X y F).1 h) h3
      · rename_i a y
        replace h := and2 h; obtain ⟨h1, h⟩ := h
        replace h := and2 h; obtain ⟨h2, h⟩ := h
        replace h := and2 h; obtain ⟨h3, h⟩ := h
        cases dec h2
        exact b1 (cb_repr F.guards F.units) (F.blt h1) PyProof.Rows.boot_repr (by decide) (by decide) ((okE a W c X y F).1 h) h3
      · rename_i a y
        replace h := and2 h; obtain ⟨h1, h⟩ := h
        replace h := and2 h; obtain ⟨h2, h⟩ := h
        replace h := and2 h; obtain ⟨h3, h⟩ := h
        cases dec h2
        exact b1 (cb_max F.calm) (F.blt h1) PyProof.Rows.boot_max (by decide) (by decide) ((okE a W c X y F).1 h) h3
      · cases h
    · cases h
  | .isx k a, W, c, X, e, F => by
    unfold Both chkE
    refine both fun h => ?_
    split at h
    · rename_i x y ty q
      obtain ⟨p, p2, rfl⟩ := asCall_ok q
      replace h := and2 h; obtain ⟨h1, h⟩ := h
      replace h := and2 h; obtain ⟨h2, h⟩ := h
      replace h := and2 h; obtain ⟨h3, h⟩ := h
      replace h := and2 h; obtain ⟨h4, h⟩ := h
      cases dec h2
      have hy := (okE a W c X y F).1 h
      split at h3
      · rename_i n qn
        obtain ⟨p3, rfl⟩ := asName_ok qn
        by_cases ck : k = 1000
        · rw [if_pos ck] at h3
          obtain ⟨g1, g2⟩ := and2 h3
          cases dec g2
          have tv : clV cl k = .ty "ValueError" := by unfold clV; rw [if_pos ck]
          refine m3_V rfl rfl rfl (PE.imp (pe_callB (cb_isx F.clok (.inr ck)) (F.blt h1).1 (F.blt h1).2 PyProof.Rows.boot_isinstance (pa_cons hy.1 (pa_cons (pe_bltn (v := clV cl k) (F.blt g1).1 (F.blt g1).2 (ExcClass.boot excClass_ValueError) (by rw [tv]; rfl) (by decide) (by decide)) pa_nil) (star_ok h4 _)) (by decide) (by decide) (star_ok h4 _) rfl) fun σ H Q h => w_isx h)
        · rw [if_neg ck] at h3
          obtain ⟨g1, g2⟩ := and2 h3
          obtain ⟨g2, g3⟩ := and2 g2
          obtain ⟨m1, m2, m3⟩ := F.cls n k (dec g3)
          have tv : clV cl k = .ref (cl.A k) := by unfold clV; rw [if_neg ck]
          refine m3_V rfl rfl rfl (PE.imp (pe_callB (cb_isx F.clok (.inl m2)) (F.blt h1).1 (F.blt h1).2 PyProof.Rows.boot_isinstance (pa_cons hy.1 (pa_cons (pe_glob (v := clV cl k) (F.gl g1) m1 (by rw [tv]; rfl) (okName_ok g2).1) pa_nil) (star_ok h4 _)) (by decide) (by decide) (star_ok h4 _) rfl) fun σ H Q h => w_isx h)
      · cases h3
    · cases h
  | .mth m o es, W, c, X, e, F => by
    unfold Both chkE
    refine both fun h => ?_
    split at h
    · rename_i x n l q
      obtain ⟨p, p2, rfl, hl⟩ := asMeth_ok q
      split at h
      · rename_i a y
        replace h := and2 h; obtain ⟨h1, h⟩ := h
        replace h := and2 h; obtain ⟨h2, h⟩ := h
        replace h := and2 h; obtain ⟨h3, h⟩ := h
        replace h := and2 h; obtain ⟨h4, h5⟩ := h
        cases dec h1
        exact m3_N rfl rfl (PE.imp (L2.pe_join ((okE o W c X x F).1 h4).1 ((okE a W c X y F).1 h5).1 (star_ok h3 []) (base_ok h2 _) hl) fun σ H Q h => w_join h)
      replace h := and2 h; obtain ⟨h1, h⟩ := h
      replace h := and2 h; obtain ⟨h2, h⟩ := h
      replace h := and2 h; obtain ⟨h3, h⟩ := h
      replace h := and2 h; obtain ⟨h6, h⟩ := h
      replace h := and2 h; obtain ⟨h4, h⟩ := h
      obtain ⟨s1, _, s2, s3, _⟩ := okL es W c X l F h
      have ho := ((okE o W c X x F).1 h4).1
      cases l with
      | nil => cases h6
      | cons e es' =>
        have h7 := s1
        rw [List.all_cons, Bool.and_eq_true] at h7
        cases m with
        | index => cases dec h1; exact m3_N rfl rfl (PE.imp (pe_bm PySem.F.plainAttrs_list PySem.F.slot_list_index PySem.F.type_list_index (mm_index F.units) ho s2 (base_ok h2 _) (few_ok p2 s1 h3) hl (star_ok h7.1 es') (plain_ok p2 h7.2)) fun σ H Q h => w_mthL (.inl rfl) h)
        | count => cases dec h1; exact m3_N rfl rfl (PE.imp (pe_bm PySem.F.plainAttrs_list PySem.F.slot_list_count PySem.F.type_list_count (mm_count F.units) ho s2 (base_ok h2 _) (few_ok p2 s1 h3) hl (star_ok h7.1 es') (plain_ok p2 h7.2)) fun σ H Q h => w_mthL (.inr rfl) h)
        | join => cases h1
        | countT => cases h1
    · cases h
  | .idx o i, W, c, X, e, F => by
    unfold Both chkE
    refine both fun h => ?_
    split at h
    · rename_i x y q
      obtain ⟨p, rfl⟩ := asSub_ok q
      obtain ⟨h1, h2⟩ := and2 h
      replace h2 := and2 h2; obtain ⟨h2, h3⟩ := h2
      exact m3_V rfl rfl rfl (PE.imp (pe_ix ix_item ((okE o W c X x F).1 h2).1 ((okE i W c X y F).1 h3).1 (ix_ok h1)) fun σ H Q => w_idx)
    · cases h
  | .sl o lo hi, W, c, X, e, F => by
    unfold Both chkE
    refine both fun h => ?_
    split at h
    · rename_i x y z q
      obtain ⟨p, p2, rfl⟩ := asSlice_ok q
      obtain ⟨h1, h2⟩ := and2 h
      replace h2 := and2 h2; obtain ⟨h2, h3⟩ := h2
      exact m3_N rfl rfl (PE.imp (pe_slice sl_slice ((okE o W c X x F).1 h1).1 (okO lo W c X y F h2) (okO hi W c X z F h3)) fun σ H Q => w_sl)
    · cases h
  | .rev o, W, c, X, e, F => by
    unfold Both chkE
    refine both fun h => ?_
    split at h
    · rename_i x q
      obtain ⟨k, p1, p2, p3, p, rfl⟩ := asRev_ok q
      exact m3_V rfl rfl rfl (PE.imp (pe_revT ((okE o W c X x F).1 h).1) fun σ H Q => w_rev)
    · cases h
  | .lc a tg it ifs, W, c, X, e, F => by
    unfold Both chkE
    refine both fun h => ?_
    split at h
    · rename_i elt tge iter ifl scope pos
      replace h := and2 h; obtain ⟨h1, h⟩ := h
      replace h := and2 h; obtain ⟨h2, h⟩ := h
      replace h := and2 h; obtain ⟨h3, h⟩ := h
      replace h := and2 h; obtain ⟨h4, h⟩ := h
      replace h := and2 h; obtain ⟨h5, h⟩ := h
      replace h := and2 h; obtain ⟨h6, h⟩ := h
      have hk := blkKind h1
      have ok : BlkOk X.N X.env.scope scope (tgNames tg tge) := by rw [F.N, F.sc]; exact blkOk_by h1
      have fb := fun s H A cs fp => F.block hk s H A cs fp
      have r := pe_lc (pos := pos) (g := gT tg) (tt := tTs cl W0 C ifs) (te := tV cl W0 C a) F.calm F.nd (okI it W c X tge iter F h4) ok (fun s H A cs fp => okTg (fb s H A cs fp) tg tge h5) (fun s H A cs fp => okTs ifs W0 _ _ ifl (fb s H A cs fp) h6) (fun s H A cs fp => ((okE a W0 _ _ elt (fb s H A cs fp)).1 h).2.1) (set_fold h3 _)
      rw [dec h2] at r
      exact m3_N rfl rfl (PE.imp r fun σ H Q => w_lc)
    · cases h
  | .lc2 a tg it tg2 it2, W, c, X, e, F => by
    unfold Both chkE
    refine both fun h => ?_
    split at h
    · rename_i elt tge iter tge2 iter2 scope pos
      replace h := and2 h; obtain ⟨h1, h⟩ := h
      replace h := and2 h; obtain ⟨h2, h⟩ := h
      replace h := and2 h; obtain ⟨h3, h⟩ := h
      replace h := and2 h; obtain ⟨h3', h⟩ := h
      replace h := and2 h; obtain ⟨h4, h⟩ := h
      replace h := and2 h; obtain ⟨h5, h⟩ := h
      replace h := and2 h; obtain ⟨h6, h⟩ := h
      replace h := and2 h; obtain ⟨h7, h⟩ := h
      have hk := blkKind h1
      have ok : BlkOk X.N X.env.scope scope (tgNames tg tge ++ tgNames tg2 tge2) := by rw [F.N, F.sc]; exact blkOk_by h1
      have fb := fun s H A cs fp => F.block hk s H A cs fp
      have r := pe_lc2 (pos := pos) (vs1 := tg2.slots) (g := gT tg) (wi1 := tI cl W0 C it2) (g1 := gT tg2) (tt := tYes) (tt1 := tYes) (te := tV cl W0 C a) F.calm F.nd (okI it W c X tge iter F h4) ok (fun i hi => by rw [dec h2]; exact List.mem_append_right _ hi) (fun s H A cs fp => okTg (fb s H A cs fp) tg tge h5) (fun s H A cs fp => pts_nil)
        (fun s H A cs fp => okI it2 W0 _ _ tge2 iter2 (fb s H A cs fp) h6) (fun s H A cs fp => okTg (fb s H A cs fp) tg2 tge2 h7) (fun s H A cs fp => pts_nil) (fun s H A cs fp => ((okE a W0 _ _ elt (fb s H A cs fp)).1 h).2.1) (set_fold h3 _) (set_fold h3')
      rw [dec h2] at r
      exact m3_N rfl rfl (PE.imp r fun σ H Q => w_lc2)
    · cases h
  | .dnew b, W, c, X, e, F => by
    unfold Both chkE
    refine both fun h => ?_
    split at h
    · cases b with
      | false => exact m3_N rfl rfl (PE.imp pe_dnewK fun σ H Q => w_dnewK)
      | true => exact m3_N rfl rfl (PE.imp pe_dnewT fun σ H Q => w_dnewT)
    · cases h
  | .dget o i, W, c, X, e, F => by
    unfold Both chkE
    refine both fun h => ?_
    split at h
    · rename_i x y q
      obtain ⟨p, rfl⟩ := asSub_ok q
      obtain ⟨h1, h2⟩ := and2 h
      replace h2 := and2 h2; obtain ⟨h2, h3⟩ := h2
      exact m3_V rfl rfl rfl (PE.imp (pe_dget F.unit1 ((okE o W c X x F).1 h2).1 ((okE i W c X y F).1 h3).1 (fun ov iv => ix_ok h1 ov iv)) fun σ H Q => w_dget)
    · cases h
  | .din neg k o, W, c, X, e, F => by
    unfold Both chkE
    have key : ∀ (x : Expr) (op : CmpOp) (y : Expr), (dinOp neg op && (noMarks op y && (chkE c false k x && chkE c false o y))) = true → behindInMarks op y = false ∧ PC X op x y (tV cl W C (.din neg k o)) := by
      intro x op y h
      obtain ⟨h1, h2⟩ := and2 h
      replace h2 := and2 h2; obtain ⟨h2, h3⟩ := h2
      replace h3 := and2 h3; obtain ⟨h3, h4⟩ := h3
      refine ⟨notB h2, ?_⟩
      unfold dinOp at h1
      split at h1
      · exact ⟨fun pins s σ H Q I hw => (pc_din F.unit1 ((okE k W c X x F).1 h3).1 ((okE o W c X y F).1 h4).1).run pins s σ H Q I (w_din hw)⟩
      · exact ⟨fun pins s σ H Q I hw => (pc_dnotin F.unit1 ((okE k W c X x F).1 h3).1 ((okE o W c X y F).1 h4).1).run pins s σ H Q I (w_din hw)⟩
      · cases h1
    constructor
    · intro h
      split at h
      · rename_i x op y q
        obtain ⟨p, rfl⟩ := asCmp_ok q
        obtain ⟨m, r⟩ := key x op y h
        exact m3_V rfl rfl rfl (pe_cmp r m)
      · cases h
    · intro h
      split at h
      · rename_i x op y q
        obtain ⟨p, rfl⟩ := asCmp_ok q
        obtain ⟨m, r⟩ := key x op y h
        exact PT.imp (pt_cmp r m) fun σ H Q h => tT_V rfl h
      · cases h
  | .dgetD o k d, W, c, X, e, F => by
    unfold Both chkE
    exact ⟨(fun h => by cases h), (fun h => by cases h)⟩
theorem okL : ∀ (es : XL) (W : WX) (c : Ctx) (X : Cx) (l : List Expr), Fits C cl W c X → chkL c es l = true → l.all noStar = true ∧ PA X l (tVs cl W C es) ∧ PA X l (tRs cl W C es) ∧ (l = [] → es = .nil) ∧ PA X l (tFs cl W C es)
  | .nil, W, c, X, l, F, h => by
    cases l with
    | nil => exact ⟨rfl, PA.imp pa_nil fun σ H Q => w_nil Q, PA.imp pa_nil fun σ H Q => w_nilR Q, fun _ => rfl, PA.imp pa_nil fun σ H Q => f_nil Q⟩
    | cons _ _ => unfold chkL at h; cases h
  | .cons a r, W, c, X, l, F, h => by
    cases l with
    | nil => unfold chkL at h; cases h
    | cons e es =>
      unfold chkL at h
      obtain ⟨h1, h2⟩ := and2 h
      replace h2 := and2 h2; obtain ⟨h2, h3⟩ := h2
      obtain ⟨s1, s2, s4, s3, s5⟩ := okL r W c X es F h3
      obtain ⟨m1, m2, m3⟩ := (okE a W c X e F).1 h2
      exact ⟨by rw [List.all_cons, h1, s1] <;> rfl, PA.imp (pa_cons m2 s2 (star_ok h1 es)) fun σ H Q => w_cons Q, PA.imp (pa_cons m1 s4 (star_ok h1 es)) fun σ H Q => w_consR Q, (fun z => by cases z), PA.imp (pa_cons m3 s5 (star_ok h1 es)) fun σ H Q => f_cons Q⟩
theorem okO : ∀ (o : XO) (W : WX) (c : Ctx) (X : Cx) (e : Option Expr), Fits C cl W c X → chkO c o e = true → PO X e (tO cl W C o)
  | .none, W, c, X, e, F, h => by
    cases e with
    | none => exact ⟨fun pins s σ H Q I q => po_none.run pins s σ H Q I (w_onone Q q)⟩
    | some _ => unfold chkO at h; cases h
  | .some a, W, c, X, e, F, h => by
    cases e with
    | none => unfold chkO at h; cases h
    | some e =>
      unfold chkO at h
      exact ⟨fun pins s σ H Q I q => (po_some ((okE a W c X e F).1 h).1).run pins s σ H Q I (w_osome Q q)⟩
theorem okTs : ∀ (o : XO) (W : WX) (c : Ctx) (X : Cx) (ifs : List Expr), Fits C cl W c X → chkTs c o ifs = true → PTs X ifs (tTs cl W C o)
  | .none, W, c, X, ifs, F, h => PTs_none h
  | .some a, W, c, X, ifs, F, h => by
    cases ifs with
    | nil => unfold chkTs at h; cases h
    | cons e es =>
      cases es with
      | cons _ _ => unfold chkTs at h; cases h
      | nil =>
        unfold chkTs at h
        exact ⟨fun pins s σ H Q I q => (pts_one ((okE a W c X e F).2 h)).run pins s σ H Q I (x_some q)⟩
theorem okI : ∀ (i : XI) (W : WX) (c : Ctx) (X : Cx) (t e : Expr), Fits C cl W c X → chkI c i t e = true → PI X t e (tI cl W C i)
  | .seq a, W, c, X, t, e, F, h => by
    unfold chkI at h
    exact ⟨fun pins s σ H R I q => (pi_seq ((okE a W c X e F).1 h).2.1).run pins s σ H R I (wi_seq q)⟩
  | .rng a, W, c, X, t, e, F, h => by
    unfold chkI at h
    split at h
    · rename_i x y q
      obtain ⟨p, p2, rfl⟩ := asCall_ok q
      replace h := and2 h; obtain ⟨h1, h⟩ := h
      replace h := and2 h; obtain ⟨h2, h⟩ := h
      replace h := and2 h; obtain ⟨h3, h⟩ := h
      cases dec h2
      exact ⟨fun pins s σ H R I q => (pi_range1 (F.blt h1).1 (F.blt h1).2 (pa_cons ((okE a W c X y F).1 h).1 pa_nil (star_ok h3 [])) (star_ok h3 [])).run pins s σ H R I (wi_rng q)⟩
    · cases h
  | .rng2 a b, W, c, X, t, e, F, h => by
    unfold chkI at h
    split at h
    · rename_i x y z q
      obtain ⟨p, p2, rfl⟩ := asCall_ok q
      replace h := and2 h; obtain ⟨h1, h⟩ := h
      replace h := and2 h; obtain ⟨h2, h⟩ := h
      replace h := and2 h; obtain ⟨h3, h⟩ := h
      replace h := and2 h; obtain ⟨h4, h⟩ := h
      replace h := and2 h; obtain ⟨h5, h⟩ := h
      cases dec h2
      exact ⟨fun pins s σ H R I q => (pi_range2 (F.blt h1).1 (F.blt h1).2 (pa_cons ((okE a W c X y F).1 h5).1 (pa_cons ((okE b W c X z F).1 h).1 pa_nil (star_ok h4 [])) (star_ok h3 _)) (by rw [star_ok h3, star_ok h4] <;> rfl) (star_ok h4 [])).run pins s σ H R I (wi_rng2 q)⟩
    · cases h
  | .enum a, W, c, X, t, e, F, h => by
    unfold chkI at h
    replace h := and2 h; obtain ⟨h0, h⟩ := h
    split at h
    · rename_i x y q
      obtain ⟨p, p2, rfl⟩ := asCall_ok q
      replace h := and2 h; obtain ⟨h1, h⟩ := h
      replace h := and2 h; obtain ⟨h2, h⟩ := h
      replace h := and2 h; obtain ⟨h3, h⟩ := h
      cases dec h2
      obtain ⟨l, hl⟩ := Option.isSome_iff_exists.mp h0
      obtain ⟨k, p3, rfl⟩ := asTup_ok hl
      exact ⟨fun pins s σ H R I q => (pi_enumA (F.blt h1).1 (F.blt h1).2 (pa_cons ((okE a W c X y F).1 h).2.1 pa_nil (star_ok h3 [])) (star_ok h3 [])).run pins s σ H R I (wi_enum q)⟩
    · cases h
  | .zip a b, W, c, X, t, e, F, h => by
    unfold chkI at h
    replace h := and2 h; obtain ⟨h0, h⟩ := h
    split at h
    · rename_i x y z q
      obtain ⟨p, p2, rfl⟩ := asCall_ok q
      replace h := and2 h; obtain ⟨h1, h⟩ := h
      replace h := and2 h; obtain ⟨h2, h⟩ := h
      replace h := and2 h; obtain ⟨h3, h⟩ := h
      replace h := and2 h; obtain ⟨h4, h⟩ := h
      replace h := and2 h; obtain ⟨h5, h⟩ := h
      cases dec h2
      obtain ⟨l, hl⟩ := Option.isSome_iff_exists.mp h0
      obtain ⟨k, p3, rfl⟩ := asTup_ok hl
      exact ⟨fun pins s σ H R I q => (RZ.pi_zipA (F.blt h1).1 (F.blt h1).2 (pa_cons ((okE a W c X y F).1 h5).2.1 (pa_cons ((okE b W c X z F).1 h).2.1 pa_nil (star_ok h4 [])) (star_ok h3 _)) (star_ok h3 _) (by rw [star_ok h4] <;> rfl)).run pins s σ H R I (wi_zip q)⟩
    · cases h
end
end
end Pu

set_option linter.all false
set_option autoImplicit false
set_option maxRecDepth 100000
set_option maxHeartbeats 4000000
/-! P26: the checker of statements. -/
namespace Pu
open PySem PySem.Spec PyProof.Rows L2
/-- are the stores of a, b = x, y swapped -/
def swNames (sc : Scope) (ts : List Expr) : List PStr := ts.filterMap fun
    | .Name id pos => if sc.names.lookup id == some .local && pos.line == (ts.head?.map (·.pos.line)).getD 0 then some id else none
    | _ => none
def swS (sc : Scope) (ts vs : List Expr) : Option (Option (List PStr)) :=
  if !(ts.length == 2 || ts.length == 3) || vs.length != ts.length then some none
  else if !vs.all noStar then some none
  else if (swNames sc ts).length != ts.length || (swNames sc ts).eraseDups.length != (swNames sc ts).length then some none
  else if vs.all (foldedForSure 8) then some none
  else if vs.all (constantsAlone 8) then none
  else some (some (swNames sc ts))
def isStar : Expr → Bool
  | .Starred .. => true
  | _ => false
theorem star_any (vs : List Expr) : vs.any isStar = !vs.all noStar := by
  induction vs with
  | nil => rfl
  | cons v vs ih =>
    rw [List.any_cons, List.all_cons, ih]
    cases v <;> simp [noStar, isStar]
theorem swS_ok {env : PySem.Env} {sc : Scope} {ts vs : List Expr} {k k2 : Nat} {p p2 : Pos} {r : Option (List PStr)} (hk : env.scope.kind = .function) (hsc : env.scope = sc) (h : swS sc ts vs = some r) :
    swappedStores [.Tuple ts k p] (.Tuple vs k2 p2) env = pure r := by
  subst hsc
  have hb : env.blockKind = .function := by unfold Env.blockKind; rw [hk]; rfl
  have hb2 : (env.blockKind != .function) = false := by rw [hb]; rfl
  unfold swS at h
  unfold swappedStores
  simp only [hb2, Bool.or_false]
  change (if (!(ts.length == 2 || ts.length == 3) || vs.length != ts.length) = true then (pure none : Sem (Option (List PStr)))
    else if vs.any isStar = true then pure none
    else if ((swNames env.scope ts).length != ts.length || (swNames env.scope ts).eraseDups.length != (swNames env.scope ts).length) = true then pure none
    else if vs.all (foldedForSure 8) = true then pure none
    else if vs.all (constantsAlone 8) = true then _ else pure (some (swNames env.scope ts))) = pure r
  rw [star_any]
  by_cases c1 : (!(ts.length == 2 || ts.length == 3) || vs.length != ts.length) = true
  · rw [if_pos c1] at h ⊢
    cases h; rfl
  · rw [if_neg c1] at h ⊢
    by_cases c2 : (!vs.all noStar) = true
    · rw [if_pos c2] at h ⊢
      cases h; rfl
    · rw [if_neg c2] at h ⊢
      by_cases c3 : ((swNames env.scope ts).length != ts.length || (swNames env.scope ts).eraseDups.length != (swNames env.scope ts).length) = true
      · rw [if_pos c3] at h ⊢
        cases h; rfl
      · rw [if_neg c3] at h ⊢
        by_cases c4 : vs.all (foldedForSure 8) = true
        · rw [if_pos c4] at h ⊢
          cases h; rfl
        · rw [if_neg c4] at h ⊢
          by_cases c5 : vs.all (constantsAlone 8) = true
          · rw [if_pos c5] at h
            cases h
          · rw [if_neg c5] at h ⊢
            cases h; rfl

def locOnly (c : Ctx) (x : PStr) : Bool := decide (c.sc.names.lookup x = some .local)
/-- a, b = x, y -/
def chkPar (c : Ctx) : List Nat → Expr → Expr → Bool
  | [i, j], .Tuple [.Name x px, .Name y py] _ _, .Tuple [a, b] _ _ =>
    decide (swS c.sc [.Name x px, .Name y py] [a, b] = some (some [x, y])) && (c.at i x && (c.at j y && (decide (i ≠ j) && (locOnly c x && locOnly c y))))
  | [i, j, l], .Tuple [.Name x px, .Name y py, .Name z pz] _ _, .Tuple [a, b, d] _ _ =>
    decide (swS c.sc [.Name x px, .Name y py, .Name z pz] [a, b, d] = some (some [x, y, z])) && (c.at i x && (c.at j y && (c.at l z && (decide (i ≠ j) && (decide (i ≠ l) && (decide (j ≠ l) && (locOnly c x && (locOnly c y && locOnly c z))))))))
  | _, _, _ => false
def isLc : XE → Bool
  | .lc _ _ _ _ => true
  | .lc2 _ _ _ _ _ => true
  | _ => false
def nmB (c : Ctx) (i : Nat) : Expr → Bool
  | .Name x _ => c.at i x && locB c x
  | _ => false
/-- y, a slot's name that is read -/
def rdB (c : Ctx) (i : Nat) (e : Expr) : Bool := match asName e with
  | some x => c.at i x && (visB c x && okName x)
  | none => false
def chgName : Chg → PStr
  | .append => "append"
  | .extend => "extend"
  | .insert => "insert"
  | .pop => "pop"
  | .reverse => "reverse"
def chgB (c : Ctx) (m : Chg) (i : Nat) (es : XL) (e : Expr) : Bool := match asMeth e with
  | some (x, n, l) => decide (n = chgName m) && (rdB c i x && (noSup x && (decide (l.length < 30) && chkL c es l)))
  | none => false
def asExn : Expr → Option PStr
  | .Call (.Name x _) [.Constant (.str _) _ _] [] _ => some x
  | _ => none
/-- the class of an except clause -/
def clsB (c : Ctx) (k : Nat) (x : PStr) : Bool := glB c x && (okName x && decide (c.cls.lookup x = some k))
def retB : PV → Expr → Bool
  | .lv [], .List [] _ => true
  | v, e => (tcOf v).isSome && constB v e
def swapOk (y : PStr) (py p : Pos) (scope : Scope) : Bool := py.line == p.line && !(scope.names.any fun (n, k) => n == y && (k == .local || k == .cell))
/-- name = [..], written into the name at once -/
def chkLcS (c : Ctx) : TgE → XE → Expr → Expr → Bool
  | .nm i, x, .Name y py, .ListComp _ _ scope p => isLc x && (c.at i y && (locOnly c y && swapOk y py p scope))
  | _, _, _, _ => false
def swFalse (c : Ctx) : Expr → Expr → Bool
  | .ListComp _ _ scope p, .Name y py => !(locOnly c y && swapOk y py p scope)
  | .ListComp _ _ _ _, .Tuple _ _ _ => true
  | .ListComp _ _ _ _, .Subscript _ _ _ => true
  | e, _ => noComp e
def swNone (c : Ctx) : Expr → Expr → Bool
  | .Tuple ts _ _, .Tuple vs _ _ => decide (swS c.sc ts vs = some none)
  | .List _ _, _ => false
  | _, _ => true
def plainA (c : Ctx) (tge e : Expr) : Bool := swFalse c e tge && (swNone c tge e && noStar tge)
def asAsg : Stmt → Option (Expr × Expr)
  | .Assign [t] e _ => some (t, e)
  | _ => none
def asTry1 : Stmt → Option (List Stmt × PStr × PStr × PStr × PStr)
  | .Try body [.ExceptHandler (some (.Name x _)) (some n) [.Assign [.Name m _] (.Name n2 _) _] _] [] [] _ => some (body, x, n, m, n2)
  | _ => none
def asTry2 : Stmt → Option (List Stmt × PStr × Expr)
  | .Try body [.ExceptHandler (some (.Name x _)) none [.Return (some e) _] _] [] [] _ => some (body, x, e)
  | _ => none
def asTry3 : Stmt → Option (List Stmt × PStr)
  | .Try body [.ExceptHandler (some (.Name x _)) none [.Continue _] _] [] [] _ => some (body, x)
  | _ => none
theorem asTry1_ok {s : Stmt} {body : List Stmt} {x n m n2 : PStr} (h : asTry1 s = some (body, x, n, m, n2)) : ∃ p1 p2 p3 p4 p5 p6, s = .Try body [.ExceptHandler (some (.Name x p1)) (some n) [.Assign [.Name m p2] (.Name n2 p3) p4] p5] [] [] p6 := by
  unfold asTry1 at h
  split at h
  · cases h; exact ⟨_, _, _, _, _, _, rfl⟩
  · cases h
theorem asTry2_ok {s : Stmt} {body : List Stmt} {x : PStr} {e : Expr} (h : asTry2 s = some (body, x, e)) : ∃ p1 p2 p3 p4, s = .Try body [.ExceptHandler (some (.Name x p1)) none [.Return (some e) p2] p3] [] [] p4 := by
  unfold asTry2 at h
  split at h
  · cases h; exact ⟨_, _, _, _, rfl⟩
  · cases h
theorem asTry3_ok {s : Stmt} {body : List Stmt} {x : PStr} (h : asTry3 s = some (body, x)) : ∃ p1 p2 p3 p4, s = .Try body [.ExceptHandler (some (.Name x p1)) none [.Continue p2] p3] [] [] p4 := by
  unfold asTry3 at h
  split at h
  · cases h; exact ⟨_, _, _, _, rfl⟩
  · cases h
mutual
def chkS (c : Ctx) : XS → Stmt → Bool
  | .asg (.nm i) x, st => match asAsg st with
    | some (tge, e) => (chkLcS c (.nm i) x tge e && chkE c false x e) || (plainA c tge e && (nmB c i tge && chkE c false x e))
    | none => false
  | .asg (.tp l) x, st => match asAsg st with
    | some (tge, e) => plainA c tge e && (chkTg c (.tp l) tge && chkE c false x e)
    | none => false
  | .asgP i x, st => match asAsg st with
    | some (tge, e) => plainA c tge e && (nmB c i tge && chkE c false x e)
    | none => false
  | .par is es, st => match asAsg st with
    | some (tge, e) => chkPar c is tge e && (match asTup e with
        | some vs => chkL c es vs
        | none => false)
    | none => false
  | .setIx o i x, st => match asAsg st with
    | some (.Subscript oe ie p, e) => plainA c (.Subscript oe ie p) e && (noSlice ie && (rdB c o oe && (chkE c false i ie && chkE c false x e)))
    | _ => false
  | .dput o i x, st => false
  | .aug i op x, st => match st with
    | .AugAssign (.Name y _) o e _ => c.at i y && (locB c y && ((match op, o with
      | .add, .Add => true
      | .sub, .Sub => true
      | _, _ => false) && chkE c false x e))
    | _ => false
  | .ex x, st => match st with
    | .Expr e _ => noComp e && chkE c false x e
    | _ => false
  | .chg m i es, st => match st with
    | .Expr e _ => noComp e && chgB c m i es e
    | _ => false
  | .asgC j m i es, st => match asAsg st with
    | some (tge, e) => plainA c tge e && (nmB c j tge && chgB c m i es e)
    | none => false
  | .iff t a b, st => match st with
    | .If te sa sb _ => chkE c true t te && (chkB c a sa && chkB c b sb)
    | _ => false
  | .for tg it b _, st => match st with
    | .For tge iter body [] _ => noSet iter && (chkTg c tg tge && (chkI c it tge iter && chkB c b body))
    | _ => false
  | .wh t b _, st => match st with
    | .While te body [] _ => chkE c true t te && chkB c b body
    | _ => false
  | .ret (.v i), st => match st with
    | .Return (some e) _ => rdB c i e
    | _ => false
  | .ret x, st => match st with
    | .Return (some e) _ => chkE c false x e
    | _ => false
  | .retN, st => match st with
    | .Return none _ => true
    | _ => false
  | .brk, st => match st with
    | .Break _ => true
    | _ => false
  | .cnt, st => match st with
    | .Continue _ => true
    | _ => false
  | .pass, st => match st with
    | .Pass _ => true
    | .Expr (.Constant (.str _) _ _) _ => true
    | _ => false
  | .never, _ => true
  | .raise k, st => match st with
    | .Raise (some e) none _ => (match asExn e with
      | some x => clsB c k x && decide (k ∈ c.rs)
      | none => false)
    | _ => false
  | .tryAs b k i j, st => c.top && (match st with
    | .Try body hs [] [] p => (match asTry1 (.Try body hs [] [] p) with
      | some (_, x, n, m, n2) => clsB c k x && (decide (i ≠ j) && (c.at i n && (c.at j m && (locOnly c n && (locOnly c m && (decide (n2 = n) && (okName n && chkB c b body)))))))
      | none => false)
    | _ => false)
  | .tryRet b k v, st => c.top && (match st with
    | .Try body hs [] [] p => (match asTry2 (.Try body hs [] [] p) with
      | some (_, x, e) => clsB c k x && (retB v e && chkB c b body)
      | none => false)
    | _ => false)
  | .tryCnt b k, st => c.top && (match st with
    | .Try body hs [] [] p => (match asTry3 (.Try body hs [] [] p) with
      | some (_, x) => clsB c k x && chkB c b body
      | none => false)
    | _ => false)
def chkB (c : Ctx) : XB → List Stmt → Bool
  | .nil, [] => true
  | .cons a r, st :: sts => chkS c a st && chkB c r sts
  | _, _ => false
end
end Pu

set_option linter.all false
set_option autoImplicit false
set_option maxRecDepth 100000
set_option maxHeartbeats 4000000
/-! P27: what the checker of statements lets pass is right. -/
namespace Pu
open PySem PySem.Spec PyProof.Rows L2
section
variable {C : Nat → List PV → St → Rz (PV × Bool)} {cl : Cl} {W : WX} {c : Ctx} {X : Cx}
theorem asAsg_ok {st : Stmt} {t e : Expr} (h : asAsg st = some (t, e)) : ∃ p, st = .Assign [t] e p := by
  unfold asAsg at h
  split at h
  · cases h; exact ⟨_, rfl⟩
  · cases h
theorem Fits.lo (F : Fits C cl W c X) {x : PStr} (h : locOnly c x = true) : X.env.scope.names.lookup x = some .local := by
  rw [F.sc]; exact dec h
theorem Fits.bk (F : Fits C cl W c X) : X.env.blockKind = .function := by
  unfold Env.blockKind
  rw [F.sc, F.kind] <;> rfl
theorem swFalse_ok (F : Fits C cl W c X) {e t : Expr} (h : swFalse c e t = true) (l : Nat) : swapsWith e (some t) l X.env = pure false := by
  unfold swFalse at h
  split at h
  · rename_i scope p y py
    unfold swapsWith
    simp only [F.bk, Expr.pos]
    have k : X.env.kindOf y = c.sc.names.lookup y := by
      show X.env.scope.names.lookup y = _
      rw [F.sc]
    rw [k]
    have e2 : (c.sc.names.lookup y == some NameKind.local) = locOnly c y := by
      unfold locOnly
      rw [Bool.beq_eq_decide_eq]
    rw [e2]
    have h2 : (locOnly c y && swapOk y py p scope) = false := notB h
    unfold swapOk at h2
    rw [← Bool.and_assoc] at h2
    show pure (ScopeKind.function == ScopeKind.function && locOnly c y && py.line == p.line && _) = pure false
    have e3 : (ScopeKind.function == ScopeKind.function) = true := by decide
    rw [e3, Bool.true_and, h2]
  · rfl
  · rfl
  · exact swap_ok h _ l
theorem swNone_ok (F : Fits C cl W c X) {e t : Expr} (h : swNone c t e = true) : swappedStores [t] e X.env = pure none := by
  cases t with
  | Tuple ts k p =>
    cases e with
    | Tuple vs k2 p2 =>
      unfold swNone at h
      exact swS_ok (by rw [F.sc]; exact F.kind) F.sc (dec h)
    | _ => rfl
  | List ts p =>
    unfold swNone at h
    cases h
  | _ => rfl
theorem plainA_ok (F : Fits C cl W c X) {e t : Expr} (h : plainA c t e = true) (l : Nat) : swapsWithSole [t] e l X.env = pure false ∧ swappedStores [t] e X.env = pure none ∧ (assignEach [t] X.env).map (·.2) = [assign t X.env] := by
  obtain ⟨h1, h2⟩ := and2 h
  obtain ⟨h2, h3⟩ := and2 h2
  refine ⟨swFalse_ok F h1 l, swNone_ok F h2, ?_⟩
  cases t <;> first | rfl | cases h3


theorem okPar (F : Fits C cl W c X) {is : List Nat} {tge e : Expr} {es : XL} {vs : List Expr} {p : Pos} (h : chkPar c is tge e = true) (hv : asTup e = some vs) (hl : chkL c es vs = true) : PS X (.Assign [tge] e p) (tS cl W (pS C (.par is es))) := by
  obtain ⟨k, p2, rfl⟩ := asTup_ok hv
  have pa := (okL es W c X vs F hl).2.2.2.2
  unfold chkPar at h
  split at h
  · rename_i i j x px y py k1 p1 a b k3 p3 e1
    cases e1
    replace h := and2 h; obtain ⟨h1, h⟩ := h
    replace h := and2 h; obtain ⟨h2, h⟩ := h
    replace h := and2 h; obtain ⟨h3, h⟩ := h
    replace h := and2 h; obtain ⟨h4, h⟩ := h
    replace h := and2 h; obtain ⟨h5, h6⟩ := h
    exact PS.imp (ps_par F.calm F.nd (F.at h2) (F.at h3) (dec h4) (F.lo h5) (F.lo h6) pa (swS_ok (by rw [F.sc]; exact F.kind) F.sc (dec h1)) rfl) fun D σ H q => s_par (dec h4) q
  · rename_i i j l x px y py z pz k1 p1 a b d k3 p3 e1
    cases e1
    replace h := and2 h; obtain ⟨h1, h⟩ := h
    replace h := and2 h; obtain ⟨h2, h⟩ := h
    replace h := and2 h; obtain ⟨h3, h⟩ := h
    replace h := and2 h; obtain ⟨h4, h⟩ := h
    replace h := and2 h; obtain ⟨h5, h⟩ := h
    replace h := and2 h; obtain ⟨h6, h⟩ := h
    replace h := and2 h; obtain ⟨h7, h⟩ := h
    replace h := and2 h; obtain ⟨h8, h⟩ := h
    replace h := and2 h; obtain ⟨h9, h10⟩ := h
    exact PS.imp (ps_par3 F.calm F.nd (F.at h2) (F.at h3) (F.at h4) (dec h5) (dec h6) (dec h7) (F.lo h8) (F.lo h9) (F.lo h10) pa (swS_ok (by rw [F.sc]; exact F.kind) F.sc (dec h1)) rfl) fun D σ H q => s_par3 (dec h5) (dec h6) (dec h7) q
  · cases h
theorem okLcS (F : Fits C cl W c X) {tg : TgE} {x : XE} {tge e : Expr} {p : Pos} (h : chkLcS c tg x tge e = true) (hx : chkE c false x e = true) : PS X (.Assign [tge] e p) (tS cl W (pS C (.asg tg x))) := by
  unfold chkLcS at h
  split at h
  · rename_i i y py elt gens scope p1
    replace h := and2 h; obtain ⟨h1, h⟩ := h
    replace h := and2 h; obtain ⟨h2, h⟩ := h
    replace h := and2 h; obtain ⟨h3, h4⟩ := h
    obtain ⟨h5, h6⟩ := and2 h4
    have sw : ∀ l, swapsWith (.ListComp elt gens scope p1) (some (.Name y py)) l X.env = pure true := fun l => sw_true (by rw [F.sc]; exact F.kind) (F.lo h3) h5 (notB h6)
    cases x with
    | lc a tg2 it ifs =>
      unfold chkE at hx
      have hx := (and2 hx).2
      split at hx
      · rename_i elt tge iter ifl scope pos e1
        cases e1
        replace hx := and2 hx; obtain ⟨g1, hx⟩ := hx
        replace hx := and2 hx; obtain ⟨g2, hx⟩ := hx
        replace hx := and2 hx; obtain ⟨g3, hx⟩ := hx
        replace hx := and2 hx; obtain ⟨g4, hx⟩ := hx
        replace hx := and2 hx; obtain ⟨g5, hx⟩ := hx
        replace hx := and2 hx; obtain ⟨g6, hx⟩ := hx
        have hk := blkKind g1
        have ok : BlkOk X.N X.env.scope scope (tgNames tg2 tge) := by rw [F.N, F.sc]; exact blkOk_by g1
        have fb := fun s H A cs fp => F.block hk s H A cs fp
        have r := ps_setLc (g := gT tg2) (tt := tTs cl W0 C ifs) (te := tV cl W0 C a) F.calm F.nd (F.at h2) (F.lo h3) (sw p.line) (okI it W c X tge iter F g4) ok (fun s H A cs fp => okTg (fb s H A cs fp) tg2 tge g5) (fun s H A cs fp => okTs ifs W0 _ _ ifl (fb s H A cs fp) g6) (fun s H A cs fp => ((okE a W0 _ _ elt (fb s H A cs fp)).1 hx).2.1) (set_fold g3 _)
        rw [dec g2] at r
        exact PS.imp r fun D σ H q => w_lc (tF_N rfl (s_asg q))
      · cases hx
    | lc2 a tg2 it tg3 it2 =>
      unfold chkE at hx
      have hx := (and2 hx).2
      split at hx
      · rename_i elt tge iter tge2 iter2 scope pos e1
        cases e1
        replace hx := and2 hx; obtain ⟨g1, hx⟩ := hx
        replace hx := and2 hx; obtain ⟨g2, hx⟩ := hx
        replace hx := and2 hx; obtain ⟨g3, hx⟩ := hx
        replace hx := and2 hx; obtain ⟨g3', hx⟩ := hx
        replace hx := and2 hx; obtain ⟨g4, hx⟩ := hx
        replace hx := and2 hx; obtain ⟨g5, hx⟩ := hx
        replace hx := and2 hx; obtain ⟨g6, hx⟩ := hx
        replace hx := and2 hx; obtain ⟨g7, hx⟩ := hx
        have hk := blkKind g1
        have ok : BlkOk X.N X.env.scope scope (tgNames tg2 tge ++ tgNames tg3 tge2) := by rw [F.N, F.sc]; exact blkOk_by g1
        have fb := fun s H A cs fp => F.block hk s H A cs fp
        have r := ps_setLc2 (vs1 := tg3.slots) (g := gT tg2) (wi1 := tI cl W0 C it2) (g1 := gT tg3) (tt := tYes) (tt1 := tYes) (te := tV cl W0 C a) F.calm F.nd (F.at h2) (F.lo h3) (sw p.line) (okI it W c X tge iter F g4) ok (fun i hi => by rw [dec g2]; exact List.mem_append_right _ hi) (fun s H A cs fp => okTg (fb s H A cs fp) tg2 tge g5) (fun s H A cs fp => pts_nil)
          (fun s H A cs fp => okI it2 W0 _ _ tge2 iter2 (fb s H A cs fp) g6) (fun s H A cs fp => okTg (fb s H A cs fp) tg3 tge2 g7) (fun s H A cs fp => pts_nil) (fun s H A cs fp => ((okE a W0 _ _ elt (fb s H A cs fp)).1 hx).2.1) (set_fold g3 _) (set_fold g3')
        rw [dec g2] at r
        exact PS.imp r fun D σ H q => w_lc2 (tF_N rfl (s_asg q))
      · cases hx
    | _ => unfold isLc at h1; cases h1
  · cases h

theorem nmB_ok (F : Fits C cl W c X) {i : Nat} {e : Expr} (h : nmB c i e = true) : PG X e (gName i) := by
  unfold nmB at h
  split at h
  · obtain ⟨h1, h2⟩ := and2 h
    obtain ⟨l1, l2⟩ := F.loc h2
    exact pg_name F.nd (F.at h1) l1 l2
  · cases h
theorem rdB_ok (F : Fits C cl W c X) {i : Nat} {e : Expr} (h : rdB c i e = true) : PE X e (tVar i) := by
  unfold rdB at h
  split at h
  · rename_i x q
    obtain ⟨p, rfl⟩ := asName_ok q
    obtain ⟨h1, h2⟩ := and2 h
    replace h2 := and2 h2; obtain ⟨h2, h3⟩ := h2
    obtain ⟨h4, h5⟩ := okName_ok h3
    exact pe_var (F.at h1) (F.vis h2) h4 h5
  · cases h
theorem chgB_ok (F : Fits C cl W c X) {m : Chg} {i : Nat} {es : XL} {e : Expr} (h : chgB c m i es e = true) : PE X e (tBM X.K "list" (rC m) (tVar i) (tVs cl W C es)) := by
  unfold chgB at h
  split at h
  · rename_i x n l q
    obtain ⟨p, p2, rfl, hl⟩ := asMeth_ok q
    replace h := and2 h; obtain ⟨h1, h⟩ := h
    replace h := and2 h; obtain ⟨h2, h⟩ := h
    replace h := and2 h; obtain ⟨h3, h⟩ := h
    replace h := and2 h; obtain ⟨h4, h⟩ := h
    obtain ⟨s1, s2, _, s3, _⟩ := okL es W c X l F h
    have ho := rdB_ok F h2
    cases l with
    | nil =>
      cases s3 rfl
      have go : ∀ {id : String}, Slot "list" n id → typeOf (.builtin id) = pure (.type "method_descriptor") → MtR X id (rC m) → PE X (.Call (.Attribute x n p) [] [] p2) (tBM X.K "list" (rC m) (tVar i) (tVs cl W C .nil)) := fun sl ty mt =>
        PE.imp (pe_bm0 PySem.F.plainAttrs_list sl ty mt ho (base_ok h3 n) hl) fun σ H Q ⟨v, e, t, q⟩ => ⟨v, e, t, w_nil _ q⟩
      cases m with
      | append => cases dec h1; exact go PySem.F.slot_list_append PySem.F.type_list_append mm_append
      | extend => cases dec h1; exact go PySem.F.slot_list_extend PySem.F.type_list_extend mm_extend
      | insert => cases dec h1; exact go PySem.F.slot_list_insert PySem.F.type_list_insert mm_insert
      | pop => cases dec h1; exact go PySem.F.slot_list_pop PySem.F.type_list_pop mm_pop
      | reverse => cases dec h1; exact go PySem.F.slot_list_reverse PySem.F.type_list_reverse mm_reverse
    | cons e es' =>
      have h7 := s1
      rw [List.all_cons, Bool.and_eq_true] at h7
      have go : ∀ {id : String}, Slot "list" n id → typeOf (.builtin id) = pure (.type "method_descriptor") → MtR X id (rC m) → PE X (.Call (.Attribute x n p) (e :: es') [] p2) (tBM X.K "list" (rC m) (tVar i) (tVs cl W C es)) := fun sl ty mt =>
        pe_bm PySem.F.plainAttrs_list sl ty mt ho s2 (base_ok h3 n) (few_ok p2 s1 h4) hl (star_ok h7.1 es') (plain_ok p2 h7.2)
      cases m with
      | append => cases dec h1; exact go PySem.F.slot_list_append PySem.F.type_list_append mm_append
      | extend => cases dec h1; exact go PySem.F.slot_list_extend PySem.F.type_list_extend mm_extend
      | insert => cases dec h1; exact go PySem.F.slot_list_insert PySem.F.type_list_insert mm_insert
      | pop => cases dec h1; exact go PySem.F.slot_list_pop PySem.F.type_list_pop mm_pop
      | reverse => cases dec h1; exact go PySem.F.slot_list_reverse PySem.F.type_list_reverse mm_reverse
  · cases h
theorem asExn_ok {e : Expr} {x : PStr} (h : asExn e = some x) : ∃ m j p p2 q, e = .Call (.Name x p) [.Constant (.str m) j p2] [] q := by
  unfold asExn at h
  split at h
  · cases h; exact ⟨_, _, _, _, _, rfl⟩
  · cases h
theorem clsB_ok (F : Fits C cl W c X) {k : Nat} {x : PStr} (h : clsB c k x = true) : Names X x (clU cl k) ∧ Takes1 X.K cl k := by
  obtain ⟨h1, h⟩ := and2 h
  obtain ⟨h2, h3⟩ := and2 h
  obtain ⟨m1, m2, m3⟩ := F.cls x k (dec h3)
  have e : clU cl k = .ref (cl.A k) := by unfold clU; rw [if_neg m3]
  exact ⟨⟨F.gl h1, (okName_ok h2).1, .inl (by rw [e]; exact m1)⟩, fun d od => by rw [e]; exact F.clok.exm d k od m2⟩
theorem Fits.tr (F : Fits C cl W c X) {W' : WX} {pn : List (Addr × Obj)} {xe : Value → Shared → Prop} (tk : L2.Takes (X.tr pn xe) W') : Fits C cl W' c (X.tr pn xe) where
  N := F.N
  nd := F.nd
  sc := F.sc
  kind := F.kind
  fn := F.fn
  calm := F.calm
  units := F.units
  tk := tk
  calls := F.calls
  free := F.free
  guards := F.guards
  cst := F.cst
  cls := F.cls
  raises := F.raises
  clok := F.clok
  own := F.own
theorem const_pe {v : PV} {e : Expr} (h : constB v e = true) (X : Cx) : ∃ u, tcOf v = some u ∧ PE X e (tC u) := by
  unfold constB at h
  split at h
  · have := dec h
    subst this
    exact ⟨_, rfl, pe_int⟩
  · have := beq_iff_eq.mp h
    subst this
    exact ⟨_, rfl, pe_bl⟩
  · exact ⟨_, rfl, pe_non⟩
  · rename_i y _ _
    have := dec h
    subst this
    obtain ⟨⟨y⟩⟩ := y
    exact ⟨_, rfl, pe_str⟩
  · cases h
mutual
theorem okS : ∀ (st : XS) (W : WX) (c : Ctx) (X : Cx) (s : Stmt), Fits C cl W c X → PassesOwn (model X.prog X.w) X.A X.env X.xe → chkS c st s = true → PS X s (tS cl W (pS C st))
  | .asg (.nm i) x, W, c, X, s, F, O, h => by
    unfold chkS at h
    split at h
    · rename_i tge e q
      obtain ⟨p, rfl⟩ := asAsg_ok q
      rcases Bool.or_eq_true_iff.mp h with h | h
      · obtain ⟨h1, h2⟩ := and2 h
        exact okLcS F h1 h2
      · obtain ⟨h1, h2⟩ := and2 h
        obtain ⟨h2, h3⟩ := and2 h2
        obtain ⟨a1, a2, a3⟩ := plainA_ok F h1 p.line
        exact PS.imp (ps_asg ((okE x W c X e F).1 h3).2.2 (nmB_ok F h2) a1 a2 a3) fun D σ H => s_asg
    · cases h
  | .asg (.tp l) x, W, c, X, s, F, O, h => by
    unfold chkS at h
    split at h
    · rename_i tge e q
      obtain ⟨p, rfl⟩ := asAsg_ok q
      obtain ⟨h1, h2⟩ := and2 h
      obtain ⟨h2, h3⟩ := and2 h2
      obtain ⟨a1, a2, a3⟩ := plainA_ok F h1 p.line
      cases tge with
      | Tuple es k p3 =>
        unfold chkTg at h2
        obtain ⟨g1, g2, g3, g4⟩ := okTgs F l es h2
        exact PS.imp (ps_asg ((okE x W c X e F).1 h3).2.2 (pg_tup F.calm g1 (n := l.length) g2 g3) a1 a2 a3) fun D σ H => s_asgT rfl
      | _ => unfold chkTg at h2; cases h2
    · cases h
  | .asgP i x, W, c, X, s, F, O, h => by
    unfold chkS at h
    split at h
    · rename_i tge e q
      obtain ⟨p, rfl⟩ := asAsg_ok q
      obtain ⟨h1, h2⟩ := and2 h
      obtain ⟨h2, h3⟩ := and2 h2
      obtain ⟨a1, a2, a3⟩ := plainA_ok F h1 p.line
      exact PS.imp (ps_asg ((okE x W c X e F).1 h3).2.2 (nmB_ok F h2) a1 a2 a3) fun D σ H => s_asgP
    · cases h
  | .par is es, W, c, X, s, F, O, h => by
    unfold chkS at h
    split at h
    · rename_i tge e q
      obtain ⟨p, rfl⟩ := asAsg_ok q
      obtain ⟨h1, h2⟩ := and2 h
      split at h2
      · rename_i vs q2
        exact okPar F h1 q2 h2
      · cases h2
    · cases h
  | .setIx o i x, W, c, X, s, F, O, h => by
    unfold chkS at h
    split at h
    · rename_i oe ie p e q
      obtain ⟨p2, rfl⟩ := asAsg_ok q
      replace h := and2 h; obtain ⟨h1, h⟩ := h
      replace h := and2 h; obtain ⟨h2, h⟩ := h
      replace h := and2 h; obtain ⟨h3, h⟩ := h
      replace h := and2 h; obtain ⟨h4, h⟩ := h
      obtain ⟨a1, a2, a3⟩ := plainA_ok F h1 p2.line
      exact PS.imp (ps_asg ((okE x W c X e F).1 h).2.1 (pg_sub (rdB_ok F h3) ((okE i W c X ie F).1 h4).1 set_ok (by
        intro v
        cases ie <;> first | rfl | cases h2)) a1 a2 a3) fun D σ H => s_setIx
    · cases h
  | .dput o i x, W, c, X, s, F, O, h => by unfold chkS at h; cases h
  | .aug i op x, W, c, X, s, F, O, h => by
    unfold chkS at h
    split at h
    · rename_i y p o e p2
      replace h := and2 h; obtain ⟨h1, h⟩ := h
      replace h := and2 h; obtain ⟨h2, h⟩ := h
      replace h := and2 h; obtain ⟨h3, h⟩ := h
      obtain ⟨l1, l2⟩ := F.loc h2
      split at h3
      · exact PS.imp (ps_aug F.nd (F.at h1) l1 ((okE x W c X e F).1 h).1 ip_add l2) fun D σ H => s_aug fun _ _ => rfl
      · exact PS.imp (ps_aug F.nd (F.at h1) l1 ((okE x W c X e F).1 h).1 ip_sub l2) fun D σ H => s_aug fun _ _ => rfl
      · cases h3
    · cases h
  | .ex x, W, c, X, s, F, O, h => by
    unfold chkS at h
    split at h
    · rename_i e p
      obtain ⟨h1, h2⟩ := and2 h
      exact PS.imp (ps_expr ((okE x W c X e F).1 h2).1 (swap_ok h1 _ _)) fun D σ H => s_ex
    · cases h
  | .chg m i es, W, c, X, s, F, O, h => by
    unfold chkS at h
    split at h
    · rename_i e p
      obtain ⟨h1, h2⟩ := and2 h
      exact PS.imp (ps_expr (chgB_ok F h2) (swap_ok h1 _ _)) fun D σ H => s_chg
    · cases h
  | .asgC j m i es, W, c, X, s, F, O, h => by
    unfold chkS at h
    split at h
    · rename_i tge e q
      obtain ⟨p, rfl⟩ := asAsg_ok q
      obtain ⟨h1, h2⟩ := and2 h
      obtain ⟨h2, h3⟩ := and2 h2
      obtain ⟨a1, a2, a3⟩ := plainA_ok F h1 p.line
      exact PS.imp (ps_asg (chgB_ok F h3) (nmB_ok F h2) a1 a2 a3) fun D σ H => s_asgC
    · cases h
  | .iff t a b, W, c, X, s, F, O, h => by
    unfold chkS at h
    split at h
    · rename_i te sa sb p
      obtain ⟨h1, h2⟩ := and2 h
      obtain ⟨h2, h3⟩ := and2 h2
      exact PS.imp (ps_if ((okE t W c X te F).2 h1) (okB a W c X sa F O h2) (okB b W c X sb F O h3)) fun D σ H => s_iff
    · cases h
  | .for tg it b kills, W, c, X, s, F, O, h => by
    unfold chkS at h
    split at h
    · rename_i tge iter body p
      replace h := and2 h; obtain ⟨h1, h⟩ := h
      replace h := and2 h; obtain ⟨h2, h⟩ := h
      replace h := and2 h; obtain ⟨h3, h⟩ := h
      exact PS.imp (ps_for O F.calm (okI it W c X tge iter F h3) (okTg F tg tge h2) (okB b W c X body F O h) (set_fold h1 _)) fun D σ H => s_for
    · cases h
  | .wh t b kills, W, c, X, s, F, O, h => by
    unfold chkS at h
    split at h
    · rename_i te body p
      obtain ⟨h1, h2⟩ := and2 h
      exact PS.imp (ps_while O ((okE t W c X te F).2 h1) (okB b W c X body F O h2)) fun D σ H => s_wh
    · cases h
  | .ret x, W, c, X, s, F, O, h => by
    cases x with
    | v i =>
      unfold chkS at h
      split at h
      · exact PS.imp (ps_ret (rdB_ok F h)) fun D σ H => s_retV
      · cases h
    | _ =>
      unfold chkS at h
      split at h
      · exact PS.imp (ps_ret ((okE _ W c X _ F).1 h).2.2) fun D σ H => s_ret fun _ => rfl
      · cases h
  | .retN, W, c, X, s, F, O, h => by
    unfold chkS at h
    split at h
    · exact PS.imp ps_retN fun D σ H => s_retN
    · cases h
  | .brk, W, c, X, s, F, O, h => by
    unfold chkS at h
    split at h
    · exact PS.imp ps_break fun D σ H => s_brk
    · cases h
  | .cnt, W, c, X, s, F, O, h => by
    unfold chkS at h
    split at h
    · exact PS.imp ps_continue fun D σ H => s_cnt
    · cases h
  | .pass, W, c, X, s, F, O, h => by
    unfold chkS at h
    split at h
    · exact PS.imp ps_pass fun D σ H => s_pass
    · exact PS.imp ps_doc fun D σ H => s_pass
    · cases h
  | .never, W, c, X, s, F, O, h => PS.imp ps_never fun D σ H => s_never
  | .raise k, W, c, X, s, F, O, h => by
    unfold chkS at h
    split at h
    · rename_i e p
      split at h
      · rename_i x q
        obtain ⟨m, j, p1, p2, p3, rfl⟩ := asExn_ok q
        obtain ⟨h1, h2⟩ := and2 h
        obtain ⟨h3, h4⟩ := and2 h1
        obtain ⟨h4, h5⟩ := and2 h4
        obtain ⟨m1, m2, m3⟩ := F.cls x k (dec h5)
        obtain ⟨r0, r1, r2, r3, r4⟩ := F.raises k (dec h2)
        exact PS.imp (ps_raise F.calm F.tk (pmk_own PySem.F.excBase_ValueError r1 m1 r2 (raises_own r3 r4) (F.gl h3) (okName_ok h4).1)) fun D σ H => s_raise m2
      · cases h
    · cases h
  | .tryAs b k i j, W, c, X, s, F, O, h => by
    unfold chkS at h
    have ht := (and2 h).1
    replace h := (and2 h).2
    obtain ⟨hs, hf, hex⟩ := F.own ht
    split at h
    · split at h
      · rename_i q
        obtain ⟨p1, p2, p3, p4, p5, p6, q⟩ := asTry1_ok q
        cases q
        replace h := and2 h; obtain ⟨h1, h⟩ := h
        replace h := and2 h; obtain ⟨h2, h⟩ := h
        replace h := and2 h; obtain ⟨h3, h⟩ := h
        replace h := and2 h; obtain ⟨h4, h⟩ := h
        replace h := and2 h; obtain ⟨h5, h⟩ := h
        replace h := and2 h; obtain ⟨h6, h⟩ := h
        replace h := and2 h; obtain ⟨h7, h⟩ := h
        replace h := and2 h; obtain ⟨h8, h9⟩ := h
        cases dec h7
        obtain ⟨nm, tk1⟩ := clsB_ok F h1
        obtain ⟨o1, o2⟩ := okName_ok h8
        refine PS.imp (ps_try_keep (ts := tKeep i j) hs hf hex F.nd (F.at h3) (F.lo h5) nm F.tk (fun W' pn xe tk pa => okB b W' c (X.tr pn xe) _ (F.tr tk) pa h9) fun a oe cls d pn => ?_) fun D σ H => s_tryAs (dec h2) tk1
        exact PSs.imp (pss_cons (ps_set F.nd (F.at h4) (.inl (F.lo h6)) (pe_var (F.at h3) (.inl (F.lo h5)) o1 o2) (swap_ok rfl _ _) (.inr (F.lo h6))) pss_nil) fun D σ H h => h
      · cases h
    · cases h
  | .tryRet b k v, W, c, X, s, F, O, h => by
    unfold chkS at h
    have ht := (and2 h).1
    replace h := (and2 h).2
    obtain ⟨hs, hf, hex⟩ := F.own ht
    split at h
    · split at h
      · rename_i q
        obtain ⟨p1, p2, p3, p4, q⟩ := asTry2_ok q
        cases q
        replace h := and2 h; obtain ⟨h1, h⟩ := h
        replace h := and2 h; obtain ⟨h2, h9⟩ := h
        obtain ⟨nm, tk1⟩ := clsB_ok F h1
        unfold retB at h2
        split at h2
        · refine PS.imp (ps_try_only (ts := fun _ _ _ => tRet (tLst tNil)) hs hf nm F.tk (fun W' pn xe tk pa => okB b W' c (X.tr pn xe) _ (F.tr tk) pa h9) fun a oe cls d pn _ _ => ?_) fun D σ H => s_tryRetL (K2 := X.K) (fun σ H Q k => ⟨Nat.zero_le _, k⟩) tk1
          exact PSs.imp (pss_cons (ps_ret (pe_lst pa_nil)) pss_nil) fun D σ H h => h
        · obtain ⟨_, h3⟩ := and2 h2
          obtain ⟨u, hu, _⟩ := const_pe h3 X
          refine PS.imp (ps_try_only (ts := fun _ _ _ => tRet (tC u)) hs hf nm F.tk (fun W' pn xe tk pa => okB b W' c (X.tr pn xe) _ (F.tr tk) pa h9) fun a oe cls d pn _ _ => ?_) fun D σ H => s_tryRet hu tk1
          obtain ⟨u2, hu2, pe2⟩ := const_pe h3 (X.suite a ((a, oe) :: pn))
          rw [hu] at hu2
          cases hu2
          exact PSs.imp (pss_cons (ps_ret pe2) pss_nil) fun D σ H h => h
      · cases h
    · cases h
  | .tryCnt b k, W, c, X, s, F, O, h => by
    unfold chkS at h
    have ht := (and2 h).1
    replace h := (and2 h).2
    obtain ⟨hs, hf, hex⟩ := F.own ht
    split at h
    · split at h
      · rename_i q
        obtain ⟨p1, p2, p3, p4, q⟩ := asTry3_ok q
        cases q
        obtain ⟨h1, h9⟩ := and2 h
        obtain ⟨nm, tk1⟩ := clsB_ok F h1
        refine PS.imp (ps_try_only (ts := fun _ _ _ => tCont) hs hf nm F.tk (fun W' pn xe tk pa => okB b W' c (X.tr pn xe) _ (F.tr tk) pa h9) fun a oe cls d pn _ _ => ?_) fun D σ H => s_tryCnt tk1
        exact PSs.imp (pss_cons ps_continue pss_nil) fun D σ H h => h
      · cases h
    · cases h
theorem okB : ∀ (b : XB) (W : WX) (c : Ctx) (X : Cx) (l : List Stmt), Fits C cl W c X → PassesOwn (model X.prog X.w) X.A X.env X.xe → chkB c b l = true → PSs X l (tS cl W (pB C b))
  | .nil, W, c, X, l, F, O, h => by
    cases l with
    | nil => exact PSs.imp pss_nil fun D σ H => b_nil
    | cons _ _ => unfold chkB at h; cases h
  | .cons a r, W, c, X, l, F, O, h => by
    cases l with
    | nil => unfold chkB at h; cases h
    | cons st sts =>
      unfold chkB at h
      obtain ⟨h1, h2⟩ := and2 h
      exact PSs.imp (pss_cons (okS a W c X st F O h1) (okB r W c X sts F O h2)) fun D σ H => b_cons
end
end
end Pu

set_option linter.all false
set_option autoImplicit false
set_option maxRecDepth 100000
set_option maxHeartbeats 4000000
/-! P28: defs, the head, a law. -/
namespace Pu
open PySem PySem.Spec PyProof.Rows L2
/-- a def of the text: its datum, its names (the parameters first), its parameters, what it says -/
structure Fn where
  id : Nat
  d : He.DefD
  N : List PStr
  ps : List PStr
  x : Dfn
def Bd (r : Fn) : Prop := ∀ (kV doc pm : Value) (an : Option Addr) (cdv ct : Value) (us : List Value), us.length = r.ps.length → bindArgs (PySem.W.fnOf r.d.name r.d.qual r.d.params r.d.body r.d.scope .none kV doc pm an cdv ct) ⟨us, []⟩ = pure (r.ps.zip us)
def BdAll : List Fn → Prop
  | [] => True
  | r :: t => Bd r ∧ BdAll t
theorem BdAll.mem : ∀ {T : List Fn} {r : Fn}, BdAll T → r ∈ T → Bd r
  | a :: t, r, h, m => by
    rcases List.mem_cons.mp m with e | m
    · rw [e]; exact h.1
    · exact BdAll.mem h.2 m
structure Tab where
  free : List PStr
  cst : List (PStr × PV)
  cls : List (PStr × Nat)
  rs : List Nat
def ctxOf (t : Tab) (fns : List (PStr × Nat)) (N : List PStr) (sc : Scope) : Ctx := ⟨N, sc, fun _ => true, fns, t.free, t.cst, t.cls, t.rs, true⟩
def fnChk (fns : List (PStr × Nat)) (t : Tab) (r : Fn) : Bool :=
  C8.scC r.N r.ps r.d.scope && (r.d.dfl.isEmpty && (r.d.kwd.isEmpty && (decide (r.x.np = r.ps.length) && (decide (r.x.nl = r.N.length) && chkB (ctxOf t fns r.N r.d.scope) r.x.body r.d.body))))
def fnsOf (T : List Fn) : List (PStr × Nat) := T.map fun r => (r.d.name, r.id)
/-- the program -/
def prog (T : List Fn) : List (Nat × Dfn) := T.map fun r => (r.id, r.x)
theorem prog_get : ∀ {T : List Fn} {r : Fn}, (T.map (·.id)).Nodup → r ∈ T → (prog T).lookup r.id = some r.x
  | a :: t, r, nd, m => by
    unfold prog
    rw [List.map_cons, List.lookup_cons]
    rw [List.map_cons] at nd
    obtain ⟨n1, n2⟩ := List.nodup_cons.mp nd
    rcases List.mem_cons.mp m with e | m
    · subst e
      rw [beq_self_eq_true]
    · have ne : (r.id == a.id) = false := beq_eq_false_iff_ne.mpr fun z => n1 (z ▸ List.mem_map_of_mem m)
      rw [ne]
      exact prog_get n2 m
theorem lookup_mem {α : Type} : ∀ {l : List (PStr × α)} {x : PStr} {v : α}, l.lookup x = some v → (x, v) ∈ l := fun h => PySem.mem_of_lookup h
theorem fnsOf_get {T : List Fn} {x : PStr} {i : Nat} (h : (fnsOf T).lookup x = some i) : ∃ r, r ∈ T ∧ r.id = i ∧ r.d.name = x := by
  have m := lookup_mem h
  unfold fnsOf at m
  obtain ⟨r, hm, e⟩ := List.mem_map.mp m
  exact ⟨r, hm, congrArg Prod.snd e, congrArg Prod.fst e⟩
section
variable {P : Program} {w : World} {K : PySem.W.Frag} {mg : Str → Option Value} {base : Heap}
/-- the module's constants -/
def CstOk (K : PySem.W.Frag) (mg : Str → Option Value) (cst : List (PStr × PV)) : Prop := ∀ x v, cst.lookup x = some v → ∃ u val, mg x = some val ∧ RelV u val ∧ ∀ w : Vw, RV w v u
structure ClsOk (K : PySem.W.Frag) (mg : Str → Option Value) (cl : Cl) (t : Tab) : Prop where
  cls : ∀ x k, t.cls.lookup x = some k → mg x = some (.ref (cl.A k)) ∧ cl.O k ∧ k ≠ 1000
  raises : ∀ k, k ∈ t.rs → cl.O k ∧ PySem.W.excIn K (cl.A k) He.veBase "ValueError.__new__" = true ∧ PySem.W.keepIn K (.ref (cl.A k)) = true ∧ PySem.W.subIn K (.ref (cl.A k)) (.type "BaseException") = some true ∧ PySem.W.typeIn K (.ref (cl.A k)) = some (.type "type")
  clok : ClOk K cl
theorem start_fr {cl : Cl} {vw : Vw} {s : St} {ps : List PV} {vs : List V} {N : List PStr} {n m : Nat} (hc : vw.cl = cl) (R : Rel vw s) (rv : RVs vw ps vs) (hn : n = N.length) (hm : m = ps.length) :
    Fr ⟨vw.cl, vw.ρ, vw.H, vw.Z, fun _ => False⟩ X0 vw.ρ vw.H s [] (ps.map some ++ List.replicate (n - m) none) (L2.start N vs) := by
  have lv := rv.length
  have gr : Gr vw (Fb.vw ⟨vw.cl, vw.ρ, vw.H, vw.Z, fun _ => False⟩ X0 vw.ρ vw.H [] (L2.start N vs)) := Gr.same rfl rfl rfl fun a z => by
    rcases z with (z | ⟨i, z, _⟩) | z
    · exact z
    · cases z
    · exact z.elim
  refine ⟨⟨fun _ _ h => h, fun _ _ h _ _ => h, fun _ _ h _ => h, fun _ h => .inl h, fun _ h => h⟩, ?_, fun a z => ⟨R.zin a z, fun y => y⟩, fun a x => x.elim, ?_, fun i p h _ => ?_, fun i p h m => ?_, fun a z => ?_, fun i j a h => ?_⟩
  · exact R.view (Z := (Fb.vw ⟨vw.cl, vw.ρ, vw.H, vw.Z, fun _ => False⟩ X0 vw.ρ vw.H [] (L2.start N vs)).Z) fun a z => by
      rcases z with (z | ⟨i, z, _⟩) | z
      · exact R.zin a z
      · cases z
      · exact z.elim
  · unfold L2.start
    rw [List.length_append, List.length_append, List.length_map, List.length_map, List.length_replicate, List.length_replicate, hn, hm, lv]
  · by_cases l : i < ps.length
    · rw [List.getElem?_append_left (by simpa using l), List.getElem?_map] at h
      cases q2 : ps[i]? with
      | none => rw [q2] at h; cases h
      | some p2 =>
        rw [q2] at h
        cases h
        obtain ⟨u, hu, ru⟩ := rv.get q2
        refine ⟨u, ?_, ru.mo gr _ _⟩
        unfold L2.start
        rw [List.getElem?_append_left (by rw [List.length_map, ← lv]; exact l), List.getElem?_map, hu]
        rfl
    · rw [List.getElem?_append_right (by simpa using Nat.le_of_not_lt l), List.getElem?_replicate] at h
      split at h <;> cases h
  · cases m
  · obtain ⟨i, z, _⟩ := z; cases z
  · cases h
/-- each def keeps its promise -/
theorem fn_ok {T : List Fn} {t : Tab} {cl : Cl} (hfree : ∀ x ∈ t.free, mg x = none) (hcst : CstOk K mg t.cst) (hcl : ClsOk K mg cl t) (hg : ∀ r ∈ T, mg r.d.name = some (.ref (He.fAd K r.d.at_)))
    (hd : ∀ r ∈ T, ∃ fd, FunD K r.d.name r.d.qual r.d.params r.d.body r.d.scope (r.d.dvs K) (r.d.kws K) (He.fAd K r.d.at_) fd) (hb : BdAll T) (hc : ∀ r ∈ T, fnChk (fnsOf T) t r = true) (hn : (T.map (·.id)).Nodup) :
    ∀ (k : Nat) (r : Fn), r ∈ T → ∀ fd, FunD K r.d.name r.d.qual r.d.params r.d.body r.d.scope (r.d.dvs K) (r.d.kws K) (He.fAd K r.d.at_) fd →
      FnG P w K mg base k (He.fAd K r.d.at_) fd r.ps (spF cl (runD (prog T) k r.id)) ∧ PySem.W.keepIn K (.ref (He.fAd K r.d.at_)) = true ∧ Binds K fd r.ps [] := by
    intro k
    induction k with
    | zero =>
      intro r m fd F
      obtain ⟨c1, c2⟩ := and2 (hc r m)
      obtain ⟨c2, c3⟩ := and2 c2
      have e : r.d.dvs K = [] := by unfold He.DefD.dvs; rw [List.isEmpty_iff.mp c2]; rfl
      rw [e] at F
      refine ⟨⟨fun vs H Q E h => ?_, fun A outer s H args us vs Q E _ _ _ _ _ h => ?_⟩, F.kp, F.bindsN (hb.mem m)⟩
      · obtain ⟨vw, s, ps, _, _, _, rv, h⟩ := h
        exact h.elim
      · obtain ⟨vw, s, ps, _, _, _, rv, h⟩ := h
        exact h.elim
    | succ k ih =>
      intro r m fd F
      have hcr := hc r m
      unfold fnChk at hcr
      replace hcr := and2 hcr; obtain ⟨c1, hcr⟩ := hcr
      replace hcr := and2 hcr; obtain ⟨c2, hcr⟩ := hcr
      replace hcr := and2 hcr; obtain ⟨c3, hcr⟩ := hcr
      replace hcr := and2 hcr; obtain ⟨c4, hcr⟩ := hcr
      replace hcr := and2 hcr; obtain ⟨c5, c6⟩ := hcr
      have e : r.d.dvs K = [] := by unfold He.DefD.dvs; rw [List.isEmpty_iff.mp c2]; rfl
      rw [e] at F
      have S := C8.fnScope_by c1
      have np := dec c4
      have nl := dec c5
      have gx := prog_get hn m
      have F0 := F
      have kw : r.d.kws K = [] := by unfold He.DefD.kws; rw [List.isEmpty_iff.mp c3]; rfl
      rw [kw] at F0
      refine ⟨fnG_of F0 S (fun vs H Q E h => ?_) (fun cdv A outer s H vs Q E hG hrm h => ⟨tS cl (fun c d _ H => E c d H) (pB (runD (prog T) k) r.x.body), ?_, ?_⟩), F.kp, F.bindsN (hb.mem m)⟩
      · obtain ⟨vw, s, ps, _, _, _, rv, h⟩ := h
        unfold runD at h
        rw [gx] at h
        simp only at h
        by_cases c : ps.length = r.x.np
        · rw [← rv.length, c, np]
        · rw [if_neg c] at h; exact h.elim
      · refine okB r.x.body _ (ctxOf t (fnsOf T) r.N r.d.scope) _ r.d.body ?_ (passes_of rfl) c6
        exact { N := rfl, nd := S.nd, sc := rfl, kind := S.kind, fn := rfl, calm := rfl, units := hrm.units, free := hfree, guards := hG, cst := hcst, tk := takes_of rfl rfl rfl rfl,
                cls := hcl.cls, raises := hcl.raises, clok := hcl.clok, own := fun _ => ⟨rfl, rfl, rfl⟩,
                calls := fun x j hj => by
                  obtain ⟨r2, h2, e1, e2⟩ := fnsOf_get hj
                  subst e1
                  obtain ⟨fd2, FD2⟩ := hd r2 h2
                  obtain ⟨F2, k2, b2⟩ := ih r2 h2 fd2 FD2
                  exact ⟨_, fd2, r2.ps, k, by rw [← e2]; exact hg r2 h2, F2, hrm, k2, b2⟩ }
      · obtain ⟨vw, s0, ps, rfl, hc, R, rv, h⟩ := h
        unfold runD at h
        rw [gx] at h
        simp only at h
        by_cases c : ps.length = r.x.np
        · rw [if_pos c] at h
          cases q : pB (runD (prog T) k) r.x.body (ps.map some ++ List.replicate (r.x.nl - r.x.np) none) [] s0 with
          | none => simp only [q] at h; exact h.elim
          | some o =>
            obtain ⟨o, s1⟩ := o
            have F := start_fr (N := r.N) (n := r.x.nl) (m := r.x.np) hc R rv nl c.symm
            -- a view at the end, as the caller sees it
            have gE : ∀ ρ H, Bs ⟨vw.cl, vw.ρ, vw.H, vw.Z, fun _ => False⟩ ρ H → GrE vw (Fb.wZ ⟨vw.cl, vw.ρ, vw.H, vw.Z, fun _ => False⟩ ρ H) := fun ρ H b => ⟨rfl, b.pre, fun a o h h1 => b.all a o h h1 fun y => y, b.imm, rfl, b.newρ, b.live⟩
            refine ⟨_, _, s0, [], _, o, s1, hc, F, q, ?_⟩
            cases o with
            | nx e own =>
              simp only [q] at h
              exact fun ρ H σ G => h (Fb.wZ ⟨vw.cl, vw.ρ, vw.H, vw.Z, fun _ => False⟩ ρ H) .non G.bare (gE ρ H G.base) ⟨rv_non', fun z => by cases z⟩
            | rt v fr =>
              simp only [q] at h
              exact fun ρ H u b R r fw => h (Fb.wZ ⟨vw.cl, vw.ρ, vw.H, vw.Z, fun _ => False⟩ ρ H) u R (gE ρ H b) ⟨r, fun z m => (fw z m).imp fun a y => ⟨y.1, y.2.1.resolve_right fun y => y, y.2.2⟩⟩
            | bk e own => simp only [q] at h; exact h.elim
            | ct e own => simp only [q] at h; exact h.elim
            | ex cn fs e own =>
              simp only [q] at h
              exact fun ρ H σ d G x oc => by
                have := h (Fb.wZ ⟨vw.cl, vw.ρ, vw.H, vw.Z, fun _ => False⟩ ρ H) d G.bare (gE ρ H G.base) x (by rw [← hc]; exact oc)
                rw [← hc] at this
                exact this
        · rw [if_neg c] at h; exact h.elim
end
end Pu

set_option linter.all false
set_option autoImplicit false
set_option maxRecDepth 100000
set_option maxHeartbeats 4000000
/-! P29: the head, a law. -/
namespace Pu
open PySem PySem.Spec PyProof.Rows L2
def frN (g : Addr → Option Obj) (as : List Addr) : PySem.W.Frag := (He.frG g as).filter fun p => !(p.2.cls == Value.type "list")
theorem lookup_filter {f : Addr × Obj → Bool} : ∀ {K : PySem.W.Frag} {a : Addr} {o : Obj}, (K.filter f).lookup a = some o → (a, o) ∈ K ∧ f (a, o) = true := fun {K a o} h => by
  have m : (a, o) ∈ K.filter f := by
    generalize K.filter f = L at h ⊢
    induction L with
    | nil => cases h
    | cons p r ih =>
      obtain ⟨b, q⟩ := p
      rw [List.lookup_cons] at h
      cases z : (a == b) with
      | true =>
        rw [z] at h
        have := beq_iff_eq.mp z
        subst this
        cases h
        exact List.mem_cons_self
      | false =>
        rw [z] at h
        exact List.mem_cons_of_mem _ (ih h)
  exact List.mem_filter.mp m
theorem frN_in {as : List Addr} {h : Heap} : (frN h.get? as).In h := fun a o e => by
  obtain ⟨m, _⟩ := lookup_filter e
  unfold He.frG at m
  obtain ⟨b, _, e2⟩ := List.mem_filterMap.mp m
  cases q : h.get? b with
  | none => rw [q] at e2; cases e2
  | some u =>
    rw [q] at e2
    cases e2
    exact q
theorem frN_no {g : Addr → Option Obj} {as : List Addr} {a : Addr} {o : Obj} (e : (frN g as).lookup a = some o) : o.cls ≠ .type "list" := by
  obtain ⟨_, h⟩ := lookup_filter e
  intro z
  have z : (a, o).2.cls = .type "list" := z
  rw [z] at h
  exact absurd h (by decide)
/-! ### the errors' classes -/
def clA (K : PySem.W.Frag) (cls : List (PStr × Nat)) (k : Nat) : Addr := match cls.find? (fun p => p.2 == k) with
  | some p => He.ga K p.1
  | none => 0
def clOf (K : PySem.W.Frag) (cls : List (PStr × Nat)) : Cl := ⟨clA K cls, fun k => k ∈ cls.map (·.2)⟩
def excB (K : PySem.W.Frag) (D : Addr) : Bool :=
  He.eqO (PySem.W.findIn K (.ref D) "__getattribute__") (some (some (.builtin "BaseException.__getattribute__"))) && (He.eqO (PySem.W.findIn K (.ref D) "__getattr__") (some none) &&
  (decide (PySem.W.subIn K (.ref D) (.type "BaseException") = some true) && (PySem.W.hasDictIn K D && (He.eqO (PySem.W.findIn K (.ref D) "__class__") (some (some (.builtin "object.__class__"))) &&
  (He.eqO (PySem.W.specialIn K (.builtin "object.__class__") "__get__") (some (some (.builtin "getset_descriptor.__get__"))) && (decide (PySem.W.takesIn K (.builtin "object.__class__") = some true) && decide (PySem.W.mroIn K D (.type "object") = some true)))))))
theorem excB_ok {K : PySem.W.Frag} {D : Addr} (h : excB K D = true) : ExcC K D := by
  unfold excB at h
  obtain ⟨h1, h⟩ := and2 h
  obtain ⟨h2, h⟩ := and2 h
  obtain ⟨h3, h⟩ := and2 h
  obtain ⟨h4, h⟩ := and2 h
  obtain ⟨h5, h⟩ := and2 h
  obtain ⟨h6, h⟩ := and2 h
  obtain ⟨h7, h8⟩ := and2 h
  exact ⟨He.eqO_ok h1, He.eqO_ok h2, dec h3, h4, He.eqO_ok h5, He.eqO_ok h6, dec h7, dec h8⟩
def cls1 (K : PySem.W.Frag) (cls : List (PStr × Nat)) (p : PStr × Nat) : Bool :=
  decide (p.2 ≠ 1000) && (He.eqO (PySem.W.nsIn K mainGlobals p.1) (some (some (.ref (clA K cls p.2)))) && (excB K (clA K cls p.2) && (decide (PySem.W.kitOne K (.ref (clA K cls p.2)) (.type "ValueError") = some (subC p.2 1000)) &&
  cls.all fun q => decide (PySem.W.kitOne K (.ref (clA K cls p.2)) (.ref (clA K cls q.2)) = some (subC p.2 q.2)) && decide (PySem.W.exmOne K (.ref (clA K cls p.2)) (.ref (clA K cls q.2)) = some (subC p.2 q.2)))))
def rs1 (K : PySem.W.Frag) (cls : List (PStr × Nat)) (k : Nat) : Bool :=
  decide (k ∈ cls.map (·.2)) && (PySem.W.excIn K (clA K cls k) He.veBase "ValueError.__new__" && (PySem.W.keepIn K (.ref (clA K cls k)) && (decide (PySem.W.subIn K (.ref (clA K cls k)) (.type "BaseException") = some true) && decide (PySem.W.typeIn K (.ref (clA K cls k)) = some (.type "type")))))
def clsB1 (K : PySem.W.Frag) (t : Tab) : Bool := t.cls.all (cls1 K t.cls) && t.rs.all (rs1 K t.cls)
theorem cls_ok {K : PySem.W.Frag} {h : Heap} {mg : Str → Option Value} {t : Tab} (KX : K.In h) (G : h.Ns mainGlobals mg) (c : clsB1 K t = true) : ClsOk K mg (clOf K t.cls) t := by
  obtain ⟨c1, c2⟩ := and2 c
  have one : ∀ p ∈ t.cls, p.2 ≠ 1000 ∧ mg p.1 = some (.ref (clA K t.cls p.2)) ∧ ExcC K (clA K t.cls p.2) ∧ PySem.W.kitOne K (.ref (clA K t.cls p.2)) (.type "ValueError") = some (subC p.2 1000) ∧
      ∀ q ∈ t.cls, PySem.W.kitOne K (.ref (clA K t.cls p.2)) (.ref (clA K t.cls q.2)) = some (subC p.2 q.2) ∧ PySem.W.exmOne K (.ref (clA K t.cls p.2)) (.ref (clA K t.cls q.2)) = some (subC p.2 q.2) := fun p hp => by
    have h := List.all_eq_true.mp c1 p hp
    unfold cls1 at h
    obtain ⟨h1, h⟩ := and2 h
    obtain ⟨h2, h⟩ := and2 h
    obtain ⟨h3, h⟩ := and2 h
    obtain ⟨h4, h5⟩ := and2 h
    refine ⟨dec h1, PySem.W.mg_of KX G (He.eqO_ok h2), excB_ok h3, dec h4, fun q hq => ?_⟩
    obtain ⟨a, b⟩ := and2 (List.all_eq_true.mp h5 q hq)
    exact ⟨dec a, dec b⟩
  have num : ∀ k, k ∈ t.cls.map (·.2) → ∃ p ∈ t.cls, p.2 = k := fun k h => by
    obtain ⟨p, hp, e⟩ := List.mem_map.mp h
    exact ⟨p, hp, e⟩
  refine ⟨fun x k h => ?_, fun k hk => ?_, ⟨fun k hk => ?_, fun k d hk hd => ?_, fun k d hk hd => ?_⟩⟩
  · have m := PySem.mem_of_lookup h
    obtain ⟨a, b, _⟩ := one _ m
    exact ⟨b, List.mem_map_of_mem (f := (·.2)) m, a⟩
  · have h := List.all_eq_true.mp c2 k hk
    unfold rs1 at h
    obtain ⟨h1, h⟩ := and2 h
    obtain ⟨h2, h⟩ := and2 h
    obtain ⟨h3, h⟩ := and2 h
    obtain ⟨h4, h5⟩ := and2 h
    have h1 : k ∈ t.cls.map (·.2) := of_decide_eq_true h1
    exact ⟨h1, h2, h3, dec h4, dec h5⟩
  · obtain ⟨p, hp, e⟩ := num k hk
    subst e
    exact (one p hp).2.2.1
  · obtain ⟨p, hp, e⟩ := num k hk
    subst e
    rcases hd with hd | hd
    · obtain ⟨q, hq, e⟩ := num d hd
      subst e
      have ne := (one q hq).1
      have e2 : clU (clOf K t.cls) q.2 = .ref (clA K t.cls q.2) := by unfold clU; rw [if_neg ne]; rfl
      rw [e2]
      exact ((one p hp).2.2.2.2 q hq).1
    · subst hd
      exact (one p hp).2.2.2.1
  · obtain ⟨p, hp, e⟩ := num k hk
    subst e
    obtain ⟨q, hq, e⟩ := num d hd
    subst e
    exact ((one p hp).2.2.2.2 q hq).2
/-! ### the hook -/
abbrev AlP : Type := He.AlD × Bool
def obsN (n : Nat) (fa : List He.Fa) (fn : List He.DefD) (t : Tab) (g : Addr → Option Obj) : AlP := (He.obsD fa fn (frN g (He.asD g n)), clsB1 (frN g (He.asD g n)) t)
def hookN (n : Nat) (fa : List He.Fa) (fn : List He.DefD) (t : Tab) : PySem.W.Hook where
  α := AlP
  obs := fun s => obsN n fa fn t s.heap.get?
  val := fun _ => (He.valD fn, true)
  says := fun _ h => ∃ K : PySem.W.Frag, K.In h ∧ (∀ a o, K.lookup a = some o → o.cls ≠ .type "list") ∧ He.SaysD fa fn K ∧ clsB1 K t = true
  of := fun _ _ e => ⟨_, frN_in, fun _ _ => frN_no, (Prod.mk.inj e).1, (Prod.mk.inj e).2⟩
  keeps := fun _ _ _ ⟨K, hK, c⟩ k => ⟨K, PySem.W.Frag.In.keeps hK k, c⟩
theorem obsN_eq {n : Nat} {fa : List He.Fa} {fn : List He.DefD} {t : Tab} {g : Addr → Option Obj} {s : Shared} (h : ∀ a, g a = s.heap.get? a) : obsN n fa fn t g = (hookN n fa fn t).obs s := by
  have e : g = s.heap.get? := funext h
  rw [e] <;> rfl
def obN (n : Nat) (fa : List He.Fa) (fn : List He.DefD) (t : Tab) (s : PySem.W.SharedT) : AlP := obsN n fa fn t (HandSHeadRun.getT s)
theorem obN_eq {n : Nat} {fa : List He.Fa} {fn : List He.DefD} {t : Tab} (s : PySem.W.SharedT) : obN n fa fn t s = (hookN n fa fn t).obs s.abs := obsN_eq (HandSHeadRun.getT_eq s)
def cstFa : PStr × PV → He.Fa
  | (x, .int i) => .int x i
  | (x, .str z) => .str x ⟨⟨z⟩⟩
  | (x, _) => .glo x
def cstB : PStr × PV → Bool
  | (_, .int _) => true
  | (_, .str _) => true
  | _ => false
def facts (T : List Fn) (t : Tab) : List He.Fa := T.map (fun r => He.Fa.glo r.d.name) ++ (t.free.map He.Fa.free ++ t.cst.map cstFa)
/-- the script -/
theorem start_ok {cl : Cl} {a : Addr} {H : Hp} {ns : List Int} (h : Rd H a (.lst (ns.map V.int))) : Rel ⟨cl, [], fun _ => False, H⟩ [] ∧ RVs ⟨cl, [], fun _ => False, H⟩ [.lv (ns.map PV.int)] [.ref a] := by
  refine ⟨⟨rfl, by simp, fun n xs b h1 h2 => by simp at h1, fun a z => z.elim, fun n xs h1 => by simp at h1⟩, .cons ?_ .nil⟩
  unfold RV
  refine ⟨a, _, rfl, ⟨fun z => z, by simp⟩, h, ?_⟩
  clear h
  induction ns with
  | nil => exact .nil
  | cons n ns ih => exact .cons (rv_int' n) ih
/-- THE LAW: its def is the i-th of T; K0 calls deep -/
theorem law_of {P : Program} {w : World} {h : Heap} {mg : Str → Option Value} {fa : Addr} {T : List Fn} {t : Tab} {K0 : Nat} {r : Fn} {x : PStr} {n : Nat} (G : h.Ns mainGlobals mg) (m : r ∈ T) (hx : r.ps = [x]) (hmg : mg r.d.name = some (.ref fa)) (hb : BdAll T)
    (hc : ∀ r ∈ T, fnChk (fnsOf T) t r = true) (hat : ∀ r ∈ T, r.d.at_ = (r.d.name, none)) (hn : (T.map (·.id)).Nodup) (hcs : ∀ p ∈ t.cst, cstB p = true) (says : (hookN n (facts T t) (T.map (·.d)) t).says w h)
    (law : ∀ ns : List Int, ns.length ≤ 63 → ∃ fr s', runD (prog T) K0 r.id [.lv (ns.map PV.int)] [] = .ok (.bl true, fr) s') :
    ∃ (K : PySem.W.Frag) (fd : FuncData) (sp : Sp), K.In h ∧ (∀ a o, K.lookup a = some o → o.cls ≠ .type "list") ∧ (∀ (s : Shared) (u : Value), BindsTo s fd ⟨[u], []⟩ [(x, u)]) ∧
      (∀ (H : Hp) (a : Addr) (ns : List Int), ns.length ≤ 63 → Rd H a (.lst (ns.map V.int)) → sp [.ref a] H (fun v _ => v = .bl true) (fun _ _ _ => False)) ∧
      ∀ base : Heap, K.In base → base.Ns mainGlobals mg → FnG P w K mg base K0 fa fd [x] sp := by
  obtain ⟨K, KX, nl, c, c9⟩ := says
  have mem : ∀ {f : He.Fa}, f ∈ facts T t → f.ok K = true := fun {f} hf => by
    obtain ⟨j, hj⟩ := List.mem_iff_getElem?.mp hf
    exact c.fact j hj
  have hfree : ∀ x ∈ t.free, mg x = none := fun x hx => He.free_ok KX G (mem (List.mem_append_right _ (List.mem_append_left _ (List.mem_map_of_mem hx))))
  have hcst : CstOk K mg t.cst := fun x v hv => by
    have m := PySem.mem_of_lookup hv
    have ok := mem (f := cstFa (x, v)) (List.mem_append_right _ (List.mem_append_right _ (List.mem_map_of_mem m)))
    have cb := hcs _ m
    cases v with
    | int i =>
      obtain ⟨t, e⟩ := He.int_ok KX G ok
      exact ⟨.int i, _, e, ⟨t, rfl⟩, fun _ => rv_int' i⟩
    | str z =>
      obtain ⟨t, e⟩ := He.str_ok KX G ok
      exact ⟨.str ⟨⟨z⟩⟩, _, e, ⟨t, rfl⟩, fun _ => rv_str' z⟩
    | _ => cases cb
  have hcl := cls_ok KX G c9
  have hg : ∀ r ∈ T, mg r.d.name = some (.ref (He.fAd K r.d.at_)) := fun r hr => by
    rw [He.glo_ok KX G (mem (List.mem_append_left _ (List.mem_map_of_mem hr))), hat r hr]
    rfl
  have hd : ∀ r ∈ T, ∃ fd, FunD K r.d.name r.d.qual r.d.params r.d.body r.d.scope (r.d.dvs K) (r.d.kws K) (He.fAd K r.d.at_) fd := fun r hr => by
    obtain ⟨j, hj⟩ := List.mem_iff_getElem?.mp hr
    exact c.def_ j (by rw [List.getElem?_map, hj] <;> rfl)
  obtain ⟨fd, F⟩ := hd r m
  have ef : fa = He.fAd K r.d.at_ := by
    have := hmg.symm.trans (hg r m)
    cases this
    rfl
  have e1 : r.d.dvs K = [] := by
    have h1 := hc r m
    unfold fnChk at h1
    have h2 := (and2 (and2 h1).2).1
    unfold He.DefD.dvs
    rw [List.isEmpty_iff.mp h2] <;> rfl
  refine ⟨K, fd, spF (clOf K t.cls) (runD (prog T) K0 r.id), KX, nl, fun s u => ?_, fun H a ns l63 rd => ?_, fun base hK hN => ?_⟩
  · have F' := F
    rw [e1] at F'
    have b := F'.bindsA (hb.mem m) s [u] (by rw [hx] <;> rfl)
    rw [hx] at b
    exact b
  · obtain ⟨fr, s', e⟩ := law ns l63
    obtain ⟨R, rv⟩ := start_ok (cl := clOf K t.cls) rd
    refine ⟨_, [], _, rfl, rfl, R, rv, ?_⟩
    rw [e]
    exact fun w' u R g v => rv_bl (.inl v.1)
  · rw [ef, ← hx]
    exact (fn_ok hfree hcst hcl hg hd hb hc hn K0 r m fd F).1
/-- the law's call, where K holds no list -/
theorem lawG {P : Program} {w : World} {K : PySem.W.Frag} {mg mb : Str → Option Value} {k : Nat} {fa a : Addr} {fd : FuncData} {x : Str} {sp : Sp} {s₁ : Shared} {vs : List Value} {ns : List Int}
    (KX : K.In s₁.heap) (nl : ∀ a o, K.lookup a = some o → o.cls ≠ .type "list") (hns : s₁.heap.Ns mainGlobals mg) (hb : s₁.heap.Ns builtinsNs mb) (hbb : ∀ x : Str, x ≠ "__name__" → mb x = bootBuiltins x) (hlim : s₁.heap.NoLimit) (hg : s₁.gens = #[])
    (ha : s₁.heap.get? a = some { cls := .type "list", data := .seq vs.toArray }) (hi : IntsAre vs ns) (hl : ns.length ≤ sizeLine) (hr : Room k callerA)
    (F : ∀ base : Heap, K.In base → base.Ns mainGlobals mg → FnG P w K mg base k fa fd [x] sp) (hbind : ∀ (s : Shared) (u : Value), BindsTo s fd ⟨[u], []⟩ [(x, u)])
    (hsp : ∀ H : Hp, Rd H a (.lst (ns.map V.int)) → sp [.ref a] H (fun v _ => v = .bl true) (fun _ _ _ => False)) :
    codeAny (model P w) callerA (.call (.ref fa) ⟨[.ref a], []⟩) (fun r s' => r = .ok (.ret (.bool true)) ∧ OldK s₁.heap s'.heap ∧ s'.os = s₁.os ∧ AllBare s'.gens) s₁ := by
  have rv := vals_ints hi
  have nk : K.lookup a = none := by
    cases q : K.lookup a with
    | none => rfl
    | some o =>
      have e := KX a o q
      rw [ha] at e
      cases e
      exact absurd rfl (nl a _ q)
  let o : Obj := { cls := .type "list", data := .seq vs.toArray }
  let H : Hp := fun b => if b = a then some (.frz o (.lst (ns.map V.int))) else none
  have Ha : H a = some (.frz o (.lst (ns.map V.int))) := if_pos rfl
  have Hn : ∀ b, b ≠ a → H b = none := fun b h => if_neg h
  have Hs : ∀ {b u}, H b = some u → b = a := fun {b u} h => by
    by_cases e : b = a
    · exact e
    · rw [Hn b e] at h; cases h
  have hok : HOk P w H s₁.heap := fun b u h => by
    have e := Hs h
    subst e
    rw [Ha] at h
    cases h
    exact ⟨ha, by rw [List.length_map]; exact hl, vs, _, rv, ha⟩
  have apart : ∀ {b : Addr} {ob : Obj} {es : Array DictEntry} {ep : Nat}, s₁.heap.get? b = some ob → ob.data = .dict es ep → H b = none := fun {b ob es ep} e d => Hn b fun z => by
    subst z
    rw [ha] at e
    cases e
    cases (show Data.seq vs.toArray _ = Data.dict es ep from d)
  have nsK : ∀ {b : Addr} {m : Str → Option Value}, s₁.heap.Ns b m → (hidT s₁.heap H).Ns b m := fun {b m} ⟨ob, es, ep, e, d, r⟩ => ⟨ob, es, ep, hidT_get e (apart e d), d, r⟩
  have hKb : K.In (hidT s₁.heap H) := fun b ob e => hidT_get (KX b ob e) (Hn b fun z => by rw [z, nk] at e; cases e)
  have hM : Mod K mg (hidT s₁.heap H) := ⟨hKb, nsK hns, ⟨mb, nsK hb, hbb⟩, let ⟨mc, h1, h2⟩ := hlim; ⟨mc, nsK h1, h2⟩⟩
  have e0 : Env0 P w K mg (hidT s₁.heap H) callerA [] s₁ H := ⟨rfl, hM, fun b o e => of_hidT e, Nat.le_of_eq (hidT_size _ _), trivial, fun b hb => absurd (show b ∈ ([] : List Addr) from hb) (by simp), hok, .of_eq hg⟩
  refine codeAny_mono ((F _ hKb (nsK hns)).run callerA [] s₁ H ⟨[.ref a], []⟩ [.ref a] [.ref a] _ _ rfl hr e0 (hbind s₁ (.ref a)) (.cons rfl .nil) (hsp H (.inr ⟨o, Ha⟩))) fun r s' h => ?_
  cases r with
  | error e => obtain ⟨_, _, _, _, _, _, _, _, _, _, _, _, z⟩ := h; exact z.elim
  | ok fl =>
    cases fl with
    | next => exact False.elim h
    | brk => exact False.elim h
    | cont => exact False.elim h
    | ret u =>
      obtain ⟨v, H', os, bare, un, hok', r', q⟩ := h
      have q' : v = .bl true := q
      subst q'
      obtain rfl : u = Value.bool true := r'
      refine ⟨rfl, OldK.of_keep fun b ob e => ?_, os, bare⟩
      by_cases eb : b = a
      · subst eb
        obtain ⟨e2, _⟩ := hok' b _ (un.frzs b o _ Ha)
        rw [ha] at e
        cases e
        exact e2
      · exact un.keep b ob e (Hn b eb) (by intro z; exact absurd (show b ∈ ([] : List Addr) from z) (by simp)) (by simp)
/-- a law behind the head -/
theorem walkG {l : PySem.W.OpenLaw} {n k : Nat} {q : Program} {loose : List Str} {XP : (Str → Option Value) → Heap → Prop} {YP : World → Heap → Prop} {d : DefRec} {x : Str}
    (hn : l.most = some n) (hn2 : n ≤ sizeLine) (hdf : d.params.defaults = []) (hr : Room k callerA)
    (F : ∀ (w : World) (mg : Str → Option Value) (fa : Addr) (h : Heap), YP w h → h.Ns mainGlobals mg → mg d.name = some (.ref fa) →
      ∃ (K : PySem.W.Frag) (fd : FuncData) (sp : Sp), K.In h ∧ (∀ a o, K.lookup a = some o → o.cls ≠ .type "list") ∧ (∀ (s : Shared) (u : Value), BindsTo s fd ⟨[u], []⟩ [(x, u)]) ∧
        (∀ (H : Hp) (a : Addr) (ns : List Int), ns.length ≤ n → Rd H a (.lst (ns.map V.int)) → sp [.ref a] H (fun v _ => v = .bl true) (fun _ _ _ => False)) ∧
        ∀ base : Heap, K.In base → base.Ns mainGlobals mg → FnG l.prog w K mg base k fa fd [x] sp) :
    PySem.W.WalkO q loose XP YP l.row.toRowW d [] (fun f vs => PySem.call f vs) := by
  refine Att.attach_call hn hdf fun w s₀ s₁ mg mb fa o pm cd doc a vs ns G Y ho hd hcd hmg hobj hints hlen hg => ?_
  obtain ⟨K, fd, sp, KX, nl, hb, hsp, hF⟩ := F w mg fa _ Y G.T.g hmg
  exact lawG KX nl G.T.g G.T.b G.T.builtins G.T.nolimit hg hobj hints (Nat.le_trans hlen hn2) hr hF hb fun H h => hsp H a ns hlen h
end Pu

set_option linter.all false
set_option autoImplicit false
set_option maxRecDepth 100000
set_option maxHeartbeats 4000000
/-! Q0: the evaluator's rules, for simp (printed by mkq.py from P1). -/
namespace Pu
@[simp] theorem pE_c (C : Nat → List PV → St → Rz (PV × Bool)) (v : PV) (σ : Env) (s : St) : pE C (.c v : XE) σ s = .ok v s := by
  conv => lhs; unfold pE
  all_goals rfl
@[simp] theorem pE_v (C : Nat → List PV → St → Rz (PV × Bool)) (i : Nat) (σ : Env) (s : St) : pE C (.v i : XE) σ s = match σ[i]? with
    | some (some v) => .ok v s
    | _ => .no := by
  conv => lhs; unfold pE
  all_goals rfl
@[simp] theorem pE_tup (C : Nat → List PV → St → Rz (PV × Bool)) (es : XL) (σ : Env) (s : St) : pE C (.tup es : XE) σ s = (pL C es σ s).bind fun vs s => if vs.length ≤ line then .ok (.tup vs) s else .no := by
  conv => lhs; unfold pE
  all_goals rfl
@[simp] theorem pE_lst (C : Nat → List PV → St → Rz (PV × Bool)) (es : XL) (σ : Env) (s : St) : pE C (.lst es : XE) σ s = (pL C es σ s).bind fun vs s => if vs.length ≤ line then .ok (.lv vs) s else .no := by
  conv => lhs; unfold pE
  all_goals rfl
@[simp] theorem pE_bin (C : Nat → List PV → St → Rz (PV × Bool)) (op : Bop) (a : XE) (b : XE) (σ : Env) (s : St) : pE C (.bin op a b : XE) σ s = (pE C a σ s).bind fun x s => (pE C b σ s).bind fun y s => ofO (bop op x y) s := by
  conv => lhs; unfold pE
  all_goals rfl
@[simp] theorem pE_neg (C : Nat → List PV → St → Rz (PV × Bool)) (a : XE) (σ : Env) (s : St) : pE C (.neg a : XE) σ s = (pE C a σ s).bind fun x s => match x with
    | .int i => .ok (.int (-i)) s
    | _ => .no := by
  conv => lhs; unfold pE
  all_goals rfl
@[simp] theorem pE_cmp (C : Nat → List PV → St → Rz (PV × Bool)) (op : Cop) (a : XE) (b : XE) (σ : Env) (s : St) : pE C (.cmp op a b : XE) σ s = (pE C a σ s).bind fun x s => (pE C b σ s).bind fun y s => ofO ((cop op x y).map PV.bl) s := by
  conv => lhs; unfold pE
  all_goals rfl
@[simp] theorem pE_cmp2 (C : Nat → List PV → St → Rz (PV × Bool)) (o1 : Cop) (o2 : Cop) (a : XE) (b : XE) (c : XE) (σ : Env) (s : St) : pE C (.cmp2 o1 o2 a b c : XE) σ s = (pE C a σ s).bind fun x s => (pE C b σ s).bind fun y s => match cop o1 x y with
    | none => .no
    | some false => .ok (.bl false) s
    | some true => (pE C c σ s).bind fun z s => ofO ((cop o2 y z).map PV.bl) s := by
  conv => lhs; unfold pE
  all_goals rfl
@[simp] theorem pE_and (C : Nat → List PV → St → Rz (PV × Bool)) (a : XE) (b : XE) (σ : Env) (s : St) : pE C (.and a b : XE) σ s = ((pE C a σ s).bind asB).bind fun c s => if c then ((pE C b σ s).bind asB).bind fun d s => .ok (.bl d) s else .ok (.bl false) s := by
  conv => lhs; unfold pE
  all_goals rfl
@[simp] theorem pE_or (C : Nat → List PV → St → Rz (PV × Bool)) (a : XE) (b : XE) (σ : Env) (s : St) : pE C (.or a b : XE) σ s = ((pE C a σ s).bind asB).bind fun c s => if c then .ok (.bl true) s else ((pE C b σ s).bind asB).bind fun d s => .ok (.bl d) s := by
  conv => lhs; unfold pE
  all_goals rfl
@[simp] theorem pE_not (C : Nat → List PV → St → Rz (PV × Bool)) (a : XE) (σ : Env) (s : St) : pE C (.not a : XE) σ s = ((pE C a σ s).bind asB).bind fun c s => .ok (.bl (!c)) s := by
  conv => lhs; unfold pE
  all_goals rfl
@[simp] theorem pE_ite (C : Nat → List PV → St → Rz (PV × Bool)) (t : XE) (a : XE) (b : XE) (σ : Env) (s : St) : pE C (.ite t a b : XE) σ s = ((pE C t σ s).bind asB).bind fun c s => if c then pE C a σ s else pE C b σ s := by
  conv => lhs; unfold pE
  all_goals rfl
@[simp] theorem pE_call (C : Nat → List PV → St → Rz (PV × Bool)) (f : Nat) (es : XL) (σ : Env) (s : St) : pE C (.call f es : XE) σ s = (pL C es σ s).bind fun vs s => (C f vs s).bind fun r s => .ok r.1 s := by
  conv => lhs; unfold pE
  all_goals rfl
@[simp] theorem pE_blt (C : Nat → List PV → St → Rz (PV × Bool)) (f : Blt) (es : XL) (σ : Env) (s : St) : pE C (.blt f es : XE) σ s = (pL C es σ s).bind fun vs s => ofO (blt s f vs) s := by
  conv => lhs; unfold pE
  all_goals rfl
@[simp] theorem pE_isx (C : Nat → List PV → St → Rz (PV × Bool)) (k : Nat) (a : XE) (σ : Env) (s : St) : pE C (.isx k a : XE) σ s = (pE C a σ s).bind fun x s => ofO ((isX k x).map PV.bl) s := by
  conv => lhs; unfold pE
  all_goals rfl
@[simp] theorem pE_mth (C : Nat → List PV → St → Rz (PV × Bool)) (m : Mth) (o : XE) (es : XL) (σ : Env) (s : St) : pE C (.mth m o es : XE) σ s = (pE C o σ s).bind fun x s => if mthTy m x then (pL C es σ s).bind fun vs s => ofO (mth m x vs) s else .no := by
  conv => lhs; unfold pE
  all_goals rfl
@[simp] theorem pE_idx (C : Nat → List PV → St → Rz (PV × Bool)) (o : XE) (i : XE) (σ : Env) (s : St) : pE C (.idx o i : XE) σ s = (pE C o σ s).bind fun x s => (pE C i σ s).bind fun y s => ofO (item s x y) s := by
  conv => lhs; unfold pE
  all_goals rfl
@[simp] theorem pE_sl (C : Nat → List PV → St → Rz (PV × Bool)) (o : XE) (lo : XO) (hi : XO) (σ : Env) (s : St) : pE C (.sl o lo hi : XE) σ s = (pE C o σ s).bind fun x s => (pO C lo σ s).bind fun l s => (pO C hi σ s).bind fun h s => ofO (slice x l h) s := by
  conv => lhs; unfold pE
  all_goals rfl
@[simp] theorem pE_rev (C : Nat → List PV → St → Rz (PV × Bool)) (o : XE) (σ : Env) (s : St) : pE C (.rev o : XE) σ s = (pE C o σ s).bind fun x s => match x with
    | .tup xs => .ok (.tup xs.reverse) s
    | _ => .no := by
  conv => lhs; unfold pE
  all_goals rfl
@[simp] theorem pE_lc (C : Nat → List PV → St → Rz (PV × Bool)) (e : XE) (tg : TgE) (it : XI) (ifs : XO) (σ : Env) (s : St) : pE C (.lc e tg it ifs : XE) σ s = (pI C it σ s).bind fun xs s => (lcP (lcTurn tg (wipeE σ tg.slots) (fun σ s => pT C ifs σ s) (fun σ s => pE C e σ s)) xs [] s).nox.bind fun r s => if r.length ≤ line then .ok (.lv r) s else .no := by
  conv => lhs; unfold pE
  all_goals rfl
@[simp] theorem pE_lc2 (C : Nat → List PV → St → Rz (PV × Bool)) (e : XE) (tg : TgE) (it : XI) (tg2 : TgE) (it2 : XI) (σ : Env) (s : St) : pE C (.lc2 e tg it tg2 it2 : XE) σ s = (pI C it σ s).bind fun xs s => (lcP (lcTurn2 tg tg2 (wipeE (wipeE σ tg2.slots) tg.slots) (fun σ s => pI C it2 σ s) (fun σ s => pE C e σ s)) xs [] s).nox.bind fun r s => if r.length ≤ line then .ok (.lv r) s else .no := by
  conv => lhs; unfold pE
  all_goals rfl
@[simp] theorem pE_dnew (C : Nat → List PV → St → Rz (PV × Bool)) (t : Bool) (σ : Env) (s : St) : pE C (.dnew t : XE) σ s = .ok (.dv t [] []) s := by
  conv => lhs; unfold pE
  all_goals rfl
@[simp] theorem pE_dget (C : Nat → List PV → St → Rz (PV × Bool)) (o : XE) (k : XE) (σ : Env) (s : St) : pE C (.dget o k : XE) σ s = (pE C o σ s).bind fun x s => (pE C k σ s).bind fun y s => match dctAt x y with
    | some d => ofO (dget y d.2.1 d.2.2) s
    | none => .no := by
  conv => lhs; unfold pE
  all_goals rfl
@[simp] theorem pE_din (C : Nat → List PV → St → Rz (PV × Bool)) (neg : Bool) (k : XE) (o : XE) (σ : Env) (s : St) : pE C (.din neg k o : XE) σ s = (pE C k σ s).bind fun y s => (pE C o σ s).bind fun x s => match dctAt x y with
    | some d => .ok (.bl (neg != (dget y d.2.1 d.2.2).isSome)) s
    | none => .no := by
  conv => lhs; unfold pE
  all_goals rfl
@[simp] theorem pE_dgetD (C : Nat → List PV → St → Rz (PV × Bool)) (o : XE) (k : XE) (d : XE) (σ : Env) (s : St) : pE C (.dgetD o k d : XE) σ s = (pE C o σ s).bind fun x s => (pE C k σ s).bind fun y s => (pE C d σ s).bind fun z s => match dctAt x y with
    | some d => .ok ((dget y d.2.1 d.2.2).getD z) s
    | none => .no := by
  conv => lhs; unfold pE
  all_goals rfl
@[simp] theorem pL_nil (C : Nat → List PV → St → Rz (PV × Bool))  (σ : Env) (s : St) : pL C (.nil : XL) σ s = .ok [] s := by
  conv => lhs; unfold pL
  all_goals rfl
@[simp] theorem pL_cons (C : Nat → List PV → St → Rz (PV × Bool)) (e : XE) (es : XL) (σ : Env) (s : St) : pL C (.cons e es : XL) σ s = (pE C e σ s).bind fun x s => (pL C es σ s).bind fun xs s => .ok (x :: xs) s := by
  conv => lhs; unfold pL
  all_goals rfl
@[simp] theorem pO_none (C : Nat → List PV → St → Rz (PV × Bool))  (σ : Env) (s : St) : pO C (.none : XO) σ s = .ok none s := by
  conv => lhs; unfold pO
  all_goals rfl
@[simp] theorem pO_some (C : Nat → List PV → St → Rz (PV × Bool)) (e : XE) (σ : Env) (s : St) : pO C (.some e : XO) σ s = (pE C e σ s).bind fun x s => match x with
    | .int i => .ok (some i) s
    | _ => .no := by
  conv => lhs; unfold pO
  all_goals rfl
@[simp] theorem pT_none (C : Nat → List PV → St → Rz (PV × Bool))  (σ : Env) (s : St) : pT C (.none : XO) σ s = .ok true s := by
  conv => lhs; unfold pT
  all_goals rfl
@[simp] theorem pT_some (C : Nat → List PV → St → Rz (PV × Bool)) (e : XE) (σ : Env) (s : St) : pT C (.some e : XO) σ s = (pE C e σ s).bind fun x s => asB x s := by
  conv => lhs; unfold pT
  all_goals rfl
@[simp] theorem pI_seq (C : Nat → List PV → St → Rz (PV × Bool)) (e : XE) (σ : Env) (s : St) : pI C (.seq e : XI) σ s = (pE C e σ s).bind fun x s => match x with
    | .tup xs => .ok xs s
    | .lv xs => .ok xs s
    | .str x => .ok (x.map fun c => .str [c]) s
    | _ => .no := by
  conv => lhs; unfold pI
  all_goals rfl
theorem pI_rng (C : Nat → List PV → St → Rz (PV × Bool)) (a : XE) (σ : Env) (s : St) : pI C (.rng a : XI) σ s = (pE C a σ s).bind fun x s => match x with
    | .int j => if intOk j then .ok (rangeV 0 j) s else .no
    | _ => .no := by
  conv => lhs; unfold pI
  all_goals rfl
theorem pI_rng2 (C : Nat → List PV → St → Rz (PV × Bool)) (a : XE) (b : XE) (σ : Env) (s : St) : pI C (.rng2 a b : XI) σ s = (pE C a σ s).bind fun x s => (pE C b σ s).bind fun y s => match x, y with
    | .int i, .int j => if intOk i && intOk j then .ok (rangeV i j) s else .no
    | _, _ => .no := by
  conv => lhs; unfold pI
  all_goals rfl
@[simp] theorem pI_enum (C : Nat → List PV → St → Rz (PV × Bool)) (e : XE) (σ : Env) (s : St) : pI C (.enum e : XI) σ s = (pE C e σ s).bind fun x s => match x with
    | .tup xs => .ok (enumV 0 xs) s
    | .lv xs => .ok (enumV 0 xs) s
    | _ => .no := by
  conv => lhs; unfold pI
  all_goals rfl
@[simp] theorem pI_zip (C : Nat → List PV → St → Rz (PV × Bool)) (a : XE) (b : XE) (σ : Env) (s : St) : pI C (.zip a b : XI) σ s = (pE C a σ s).bind fun x s => (pE C b σ s).bind fun y s => match x, y with
    | .tup xs, .tup ys => .ok (zipP xs ys) s
    | .lv xs, .lv ys => .ok (zipP xs ys) s
    | _, _ => .no := by
  conv => lhs; unfold pI
  all_goals rfl
@[simp] theorem pLX_nil (C : Nat → List PV → St → Rz (PV × Bool))  (σ : Env) (s : St) : pLX C (.nil : XL) σ s = .ok [] s := by
  conv => lhs; unfold pLX
  all_goals rfl
@[simp] theorem pLX_cons (C : Nat → List PV → St → Rz (PV × Bool)) (e : XE) (es : XL) (σ : Env) (s : St) : pLX C (.cons e es : XL) σ s = (pX C e σ s).bind fun x s => (pLX C es σ s).bind fun xs s => .ok (x :: xs) s := by
  conv => lhs; unfold pLX
  all_goals rfl
@[simp] theorem pS_asg (C : Nat → List PV → St → Rz (PV × Bool)) (tg : TgE) (e : XE) (σ : Env) (w : Own) (s : St) : pS C (.asg tg e : XS) σ w s = (pX C e σ s).run σ (rel w (esc e ++ bare e)) fun r s => match tg with
    | .nm i => some (.nx (σ.set i (some r.1)) (own1 (rel w (esc e ++ bare e)) i r), s)
    | .tp l => (asns l (match r.1 with
      | .tup xs => xs
      | _ => []) σ).bind fun σ' => if (match r.1 with
      | .tup _ => true
      | _ => false) then some (.nx σ' (rel (rel w (esc e ++ bare e)) (TgE.slotsL l)), s) else none := by
  conv => lhs; unfold pS
  all_goals rfl
@[simp] theorem pS_asgP (C : Nat → List PV → St → Rz (PV × Bool)) (i : Nat) (e : XE) (σ : Env) (w : Own) (s : St) : pS C (.asgP i e : XS) σ w s = (pX C e σ s).run σ (rel w (esc e ++ bare e)) fun r s => match r with
    | (.lv xs, true) => if xs.all shP then some (.nx (σ.set i (some (.ref s.length))) (rel (rel w (esc e ++ bare e)) [i]), s ++ [xs]) else none
    | _ => none := by
  conv => lhs; unfold pS
  all_goals rfl
@[simp] theorem pS_par (C : Nat → List PV → St → Rz (PV × Bool)) (is : (List Nat)) (es : XL) (σ : Env) (w : Own) (s : St) : pS C (.par is es : XS) σ w s = (pLX C es σ s).run σ (rel w (escL es ++ bareL es)) fun rs s => (setAll σ (rel w (escL es ++ bareL es)) is rs).map fun q => (.nx q.1 q.2, s) := by
  conv => lhs; unfold pS
  all_goals rfl
@[simp] theorem pS_setIx (C : Nat → List PV → St → Rz (PV × Bool)) (i : Nat) (x : XE) (e : XE) (σ : Env) (w : Own) (s : St) : pS C (.setIx i x e : XS) σ w s = match σ[i]? with
    | some (some o) => (pE C e σ s).run σ (rel w (esc e ++ (bare e ++ esc x))) fun v s => (pE C x σ s).run σ (rel w (esc e ++ (bare e ++ esc x))) fun j s => match o, j with
      | .lv xs, .int j => if (rel w (esc e ++ (bare e ++ esc x))).contains i then (ixE xs.length j).map fun k => (.nx (σ.set i (some (.lv (xs.set k v)))) (rel w (esc e ++ (bare e ++ esc x))), s) else none
      | .ref n, .int j => if shP v then (match s[n]? with
        | some xs => (ixE xs.length j).map fun k => (.nx σ (rel w (esc e ++ (bare e ++ esc x))), s.set n (xs.set k v))
        | none => none) else none
      | _, _ => none
    | _ => none := by
  conv => lhs; unfold pS
  all_goals rfl
@[simp] theorem pS_dput (C : Nat → List PV → St → Rz (PV × Bool)) (i : Nat) (x : XE) (e : XE) (σ : Env) (w : Own) (s : St) : pS C (.dput i x e : XS) σ w s = match σ[i]? with
    | some (some o) => (pE C e σ s).run σ (rel w (esc e ++ (bare e ++ esc x))) fun v s => (pE C x σ s).run σ (rel w (esc e ++ (bare e ++ esc x))) fun j s =>
      if (rel w (esc e ++ (bare e ++ esc x))).contains i then (match dctAt o j with
        | some d => if d.2.1.length < line then some (.nx (σ.set i (some (Pu.dput j v d.1 d.2.1 d.2.2))) (rel w (esc e ++ (bare e ++ esc x))), s) else none
        | none => none) else none
    | _ => none := by
  conv => lhs; unfold pS
  all_goals rfl
@[simp] theorem pS_aug (C : Nat → List PV → St → Rz (PV × Bool)) (i : Nat) (op : Bop) (e : XE) (σ : Env) (w : Own) (s : St) : pS C (.aug i op e : XS) σ w s = match σ[i]? with
    | some (some (.int a)) => (pE C e σ s).run σ (rel w (esc e)) fun v s => match v with
      | .int b => (bop op (.int a) (.int b)).map fun q => (.nx (σ.set i (some q)) (rel w (esc e)), s)
      | _ => none
    | _ => none := by
  conv => lhs; unfold pS
  all_goals rfl
@[simp] theorem pS_ex (C : Nat → List PV → St → Rz (PV × Bool)) (e : XE) (σ : Env) (w : Own) (s : St) : pS C (.ex e : XS) σ w s = (pE C e σ s).run σ (rel w (esc e)) fun _ s => some (.nx σ (rel w (esc e)), s) := by
  conv => lhs; unfold pS
  all_goals rfl
@[simp] theorem pS_chg (C : Nat → List PV → St → Rz (PV × Bool)) (m : Chg) (i : Nat) (es : XL) (σ : Env) (w : Own) (s : St) : pS C (.chg m i es : XS) σ w s = match σ[i]? with
    | some (some (.lv xs)) => if (rel w (escL es ++ bareL es)).contains i then (pL C es σ s).run σ (rel w (escL es ++ bareL es)) fun vs s => (Pu.chg m xs vs).map fun r => (.nx (σ.set i (some (.lv r.2))) (rel w (escL es ++ bareL es)), s) else none
    | _ => none := by
  conv => lhs; unfold pS
  all_goals rfl
@[simp] theorem pS_asgC (C : Nat → List PV → St → Rz (PV × Bool)) (j : Nat) (m : Chg) (i : Nat) (es : XL) (σ : Env) (w : Own) (s : St) : pS C (.asgC j m i es : XS) σ w s = match σ[i]? with
    | some (some (.lv xs)) => if (rel w (escL es ++ bareL es)).contains i && !(i == j) then (pL C es σ s).run σ (rel w (escL es ++ bareL es)) fun vs s => (Pu.chg m xs vs).map fun r => (.nx ((σ.set i (some (.lv r.2))).set j (some r.1)) (rel (rel w (escL es ++ bareL es)) [j]), s) else none
    | _ => none := by
  conv => lhs; unfold pS
  all_goals rfl
@[simp] theorem pS_iff (C : Nat → List PV → St → Rz (PV × Bool)) (t : XE) (a : XB) (b : XB) (σ : Env) (w : Own) (s : St) : pS C (.iff t a b : XS) σ w s = ((pE C t σ s).bind asB).run σ (rel w (esc t)) fun c s => if c then pB C a σ (rel w (esc t)) s else pB C b σ (rel w (esc t)) s := by
  conv => lhs; unfold pS
  all_goals rfl
@[simp] theorem pS_for (C : Nat → List PV → St → Rz (PV × Bool)) (tg : TgE) (it : XI) (body : XB) (kills : (List Nat)) (σ : Env) (w : Own) (s : St) : pS C (.for tg it body kills : XS) σ w s = (pI C it σ s).run σ (rel w (escI it ++ bareI it)) fun xs s => forP (forTurn tg kills (fun σ w s => pB C body σ w s)) xs σ (rel w (escI it ++ bareI it)) s := by
  conv => lhs; unfold pS
  all_goals rfl
@[simp] theorem pS_wh (C : Nat → List PV → St → Rz (PV × Bool)) (t : XE) (body : XB) (kills : (List Nat)) (σ : Env) (w : Own) (s : St) : pS C (.wh t body kills : XS) σ w s = whP (esc t) (fun σ s => (pE C t σ s).bind asB) (fun σ w s => kill kills (pB C body σ w s)) fuel σ w s := by
  conv => lhs; unfold pS
  all_goals rfl
@[simp] theorem pS_ret (C : Nat → List PV → St → Rz (PV × Bool)) (e : XE) (σ : Env) (w : Own) (s : St) : pS C (.ret e : XS) σ w s = (pX C e σ s).run σ (rel w (esc e ++ bare e)) fun r s => some (.rt r.1 (r.2 || ownV w e), s) := by
  conv => lhs; unfold pS
  all_goals rfl
@[simp] theorem pS_retN (C : Nat → List PV → St → Rz (PV × Bool))  (σ : Env) (w : Own) (s : St) : pS C (.retN : XS) σ w s = some (.rt .non false, s) := by
  conv => lhs; unfold pS
  all_goals rfl
@[simp] theorem pS_brk (C : Nat → List PV → St → Rz (PV × Bool))  (σ : Env) (w : Own) (s : St) : pS C (.brk : XS) σ w s = some (.bk σ w, s) := by
  conv => lhs; unfold pS
  all_goals rfl
@[simp] theorem pS_cnt (C : Nat → List PV → St → Rz (PV × Bool))  (σ : Env) (w : Own) (s : St) : pS C (.cnt : XS) σ w s = some (.ct σ w, s) := by
  conv => lhs; unfold pS
  all_goals rfl
@[simp] theorem pS_pass (C : Nat → List PV → St → Rz (PV × Bool))  (σ : Env) (w : Own) (s : St) : pS C (.pass : XS) σ w s = some (.nx σ w, s) := by
  conv => lhs; unfold pS
  all_goals rfl
@[simp] theorem pS_never (C : Nat → List PV → St → Rz (PV × Bool))  (σ : Env) (w : Own) (s : St) : pS C (.never : XS) σ w s = none := by
  conv => lhs; unfold pS
  all_goals rfl
@[simp] theorem pS_raise (C : Nat → List PV → St → Rz (PV × Bool)) (c : Nat) (σ : Env) (w : Own) (s : St) : pS C (.raise c : XS) σ w s = some (.ex c [] σ w, s) := by
  conv => lhs; unfold pS
  all_goals rfl
@[simp] theorem pS_tryAs (C : Nat → List PV → St → Rz (PV × Bool)) (b : XB) (c : Nat) (i : Nat) (j : Nat) (σ : Env) (w : Own) (s : St) : pS C (.tryAs b c i j : XS) σ w s = tryP c (fun σ w d fs => if fs.isEmpty && decide (i < σ.length) then some (.nx ((σ.set j (some (.exc d fs))).set i none) (rel w [i, j])) else none) (pB C b σ w s) := by
  conv => lhs; unfold pS
  all_goals rfl
@[simp] theorem pS_tryRet (C : Nat → List PV → St → Rz (PV × Bool)) (b : XB) (c : Nat) (v : PV) (σ : Env) (w : Own) (s : St) : pS C (.tryRet b c v : XS) σ w s = tryP c (fun _ _ _ _ => some (.rt v false)) (pB C b σ w s) := by
  conv => lhs; unfold pS
  all_goals rfl
@[simp] theorem pS_tryCnt (C : Nat → List PV → St → Rz (PV × Bool)) (b : XB) (c : Nat) (σ : Env) (w : Own) (s : St) : pS C (.tryCnt b c : XS) σ w s = tryP c (fun σ w _ _ => some (.ct σ w)) (pB C b σ w s) := by
  conv => lhs; unfold pS
  all_goals rfl
@[simp] theorem pB_nil (C : Nat → List PV → St → Rz (PV × Bool))  (σ : Env) (w : Own) (s : St) : pB C (.nil : XB) σ w s = some (.nx σ w, s) := by
  conv => lhs; unfold pB
  all_goals rfl
@[simp] theorem pB_cons (C : Nat → List PV → St → Rz (PV × Bool)) (st : XS) (r : XB) (σ : Env) (w : Own) (s : St) : pB C (.cons st r : XB) σ w s = match pS C st σ w s with
    | some (.nx σ' w', s') => pB C r σ' w' s'
    | some (.rt v fr, s') => some (.rt v fr, s')
    | some (.bk σ' w', s') => some (.bk σ' w', s')
    | some (.ct σ' w', s') => some (.ct σ' w', s')
    | some (.ex c fs σ' w', s') => some (.ex c fs σ' w', s')
    | none => none := by
  conv => lhs; unfold pB
  all_goals rfl
@[simp] theorem bare_v (i : Nat) : bare (.v i : XE) = [i] := by
  conv => lhs; unfold bare
  all_goals rfl
@[simp] theorem bare_ite (x_0 : XE) (a : XE) (b : XE) : bare (.ite x_0 a b : XE) = bare a ++ bare b := by
  conv => lhs; unfold bare
  all_goals rfl
@[simp] theorem bare_c (x_0 : PV) : bare (.c x_0 : XE) = [] := by
  conv => lhs; unfold bare
  all_goals rfl
@[simp] theorem bare_tup (x_0 : XL) : bare (.tup x_0 : XE) = [] := by
  conv => lhs; unfold bare
  all_goals rfl
@[simp] theorem bare_lst (x_0 : XL) : bare (.lst x_0 : XE) = [] := by
  conv => lhs; unfold bare
  all_goals rfl
@[simp] theorem bare_bin (x_0 : Bop) (x_1 : XE) (x_2 : XE) : bare (.bin x_0 x_1 x_2 : XE) = [] := by
  conv => lhs; unfold bare
  all_goals rfl
@[simp] theorem bare_neg (x_0 : XE) : bare (.neg x_0 : XE) = [] := by
  conv => lhs; unfold bare
  all_goals rfl
@[simp] theorem bare_cmp (x_0 : Cop) (x_1 : XE) (x_2 : XE) : bare (.cmp x_0 x_1 x_2 : XE) = [] := by
  conv => lhs; unfold bare
  all_goals rfl
@[simp] theorem bare_cmp2 (x_0 : Cop) (x_1 : Cop) (x_2 : XE) (x_3 : XE) (x_4 : XE) : bare (.cmp2 x_0 x_1 x_2 x_3 x_4 : XE) = [] := by
  conv => lhs; unfold bare
  all_goals rfl
@[simp] theorem bare_and (x_0 : XE) (x_1 : XE) : bare (.and x_0 x_1 : XE) = [] := by
  conv => lhs; unfold bare
  all_goals rfl
@[simp] theorem bare_or (x_0 : XE) (x_1 : XE) : bare (.or x_0 x_1 : XE) = [] := by
  conv => lhs; unfold bare
  all_goals rfl
@[simp] theorem bare_not (x_0 : XE) : bare (.not x_0 : XE) = [] := by
  conv => lhs; unfold bare
  all_goals rfl
@[simp] theorem bare_call (x_0 : Nat) (x_1 : XL) : bare (.call x_0 x_1 : XE) = [] := by
  conv => lhs; unfold bare
  all_goals rfl
@[simp] theorem bare_blt (x_0 : Blt) (x_1 : XL) : bare (.blt x_0 x_1 : XE) = [] := by
  conv => lhs; unfold bare
  all_goals rfl
@[simp] theorem bare_isx (x_0 : Nat) (x_1 : XE) : bare (.isx x_0 x_1 : XE) = [] := by
  conv => lhs; unfold bare
  all_goals rfl
@[simp] theorem bare_mth (x_0 : Mth) (x_1 : XE) (x_2 : XL) : bare (.mth x_0 x_1 x_2 : XE) = [] := by
  conv => lhs; unfold bare
  all_goals rfl
@[simp] theorem bare_idx (x_0 : XE) (x_1 : XE) : bare (.idx x_0 x_1 : XE) = [] := by
  conv => lhs; unfold bare
  all_goals rfl
@[simp] theorem bare_sl (x_0 : XE) (x_1 : XO) (x_2 : XO) : bare (.sl x_0 x_1 x_2 : XE) = [] := by
  conv => lhs; unfold bare
  all_goals rfl
@[simp] theorem bare_rev (x_0 : XE) : bare (.rev x_0 : XE) = [] := by
  conv => lhs; unfold bare
  all_goals rfl
@[simp] theorem bare_lc (x_0 : XE) (x_1 : TgE) (x_2 : XI) (x_3 : XO) : bare (.lc x_0 x_1 x_2 x_3 : XE) = [] := by
  conv => lhs; unfold bare
  all_goals rfl
@[simp] theorem bare_lc2 (x_0 : XE) (x_1 : TgE) (x_2 : XI) (x_3 : TgE) (x_4 : XI) : bare (.lc2 x_0 x_1 x_2 x_3 x_4 : XE) = [] := by
  conv => lhs; unfold bare
  all_goals rfl
@[simp] theorem bare_dnew (x_0 : Bool) : bare (.dnew x_0 : XE) = [] := by
  conv => lhs; unfold bare
  all_goals rfl
@[simp] theorem bare_dget (x_0 : XE) (x_1 : XE) : bare (.dget x_0 x_1 : XE) = [] := by
  conv => lhs; unfold bare
  all_goals rfl
@[simp] theorem bare_din (x_0 : Bool) (x_1 : XE) (x_2 : XE) : bare (.din x_0 x_1 x_2 : XE) = [] := by
  conv => lhs; unfold bare
  all_goals rfl
@[simp] theorem bare_dgetD (x_0 : XE) (x_1 : XE) (d : XE) : bare (.dgetD x_0 x_1 d : XE) = bare d := by
  conv => lhs; unfold bare
  all_goals rfl
@[simp] theorem bareL_nil  : bareL (.nil : XL) = [] := by
  conv => lhs; unfold bareL
  all_goals rfl
@[simp] theorem bareL_cons (e : XE) (r : XL) : bareL (.cons e r : XL) = bare e ++ bareL r := by
  conv => lhs; unfold bareL
  all_goals rfl
@[simp] theorem esc_c (x_0 : PV) : esc (.c x_0 : XE) = [] := by
  conv => lhs; unfold esc
  all_goals rfl
@[simp] theorem esc_v (x_0 : Nat) : esc (.v x_0 : XE) = [] := by
  conv => lhs; unfold esc
  all_goals rfl
@[simp] theorem esc_tup (es : XL) : esc (.tup es : XE) = escL es ++ bareL es := by
  conv => lhs; unfold esc
  all_goals rfl
@[simp] theorem esc_lst (es : XL) : esc (.lst es : XE) = escL es ++ bareL es := by
  conv => lhs; unfold esc
  all_goals rfl
@[simp] theorem esc_bin (x_0 : Bop) (a : XE) (b : XE) : esc (.bin x_0 a b : XE) = esc a ++ esc b := by
  conv => lhs; unfold esc
  all_goals rfl
@[simp] theorem esc_neg (a : XE) : esc (.neg a : XE) = esc a := by
  conv => lhs; unfold esc
  all_goals rfl
@[simp] theorem esc_cmp (x_0 : Cop) (a : XE) (b : XE) : esc (.cmp x_0 a b : XE) = esc a ++ esc b := by
  conv => lhs; unfold esc
  all_goals rfl
@[simp] theorem esc_cmp2 (x_0 : Cop) (x_1 : Cop) (a : XE) (b : XE) (c : XE) : esc (.cmp2 x_0 x_1 a b c : XE) = esc a ++ (esc b ++ esc c) := by
  conv => lhs; unfold esc
  all_goals rfl
@[simp] theorem esc_and (a : XE) (b : XE) : esc (.and a b : XE) = esc a ++ esc b := by
  conv => lhs; unfold esc
  all_goals rfl
@[simp] theorem esc_or (a : XE) (b : XE) : esc (.or a b : XE) = esc a ++ esc b := by
  conv => lhs; unfold esc
  all_goals rfl
@[simp] theorem esc_not (a : XE) : esc (.not a : XE) = esc a := by
  conv => lhs; unfold esc
  all_goals rfl
@[simp] theorem esc_ite (t : XE) (a : XE) (b : XE) : esc (.ite t a b : XE) = esc t ++ (esc a ++ esc b) := by
  conv => lhs; unfold esc
  all_goals rfl
@[simp] theorem esc_call (x_0 : Nat) (es : XL) : esc (.call x_0 es : XE) = escL es ++ bareL es := by
  conv => lhs; unfold esc
  all_goals rfl
@[simp] theorem esc_blt (x_0 : Blt) (es : XL) : esc (.blt x_0 es : XE) = escL es := by
  conv => lhs; unfold esc
  all_goals rfl
@[simp] theorem esc_isx (x_0 : Nat) (a : XE) : esc (.isx x_0 a : XE) = esc a := by
  conv => lhs; unfold esc
  all_goals rfl
@[simp] theorem esc_mth (x_0 : Mth) (o : XE) (es : XL) : esc (.mth x_0 o es : XE) = esc o ++ escL es := by
  conv => lhs; unfold esc
  all_goals rfl
@[simp] theorem esc_idx (o : XE) (i : XE) : esc (.idx o i : XE) = esc o ++ esc i := by
  conv => lhs; unfold esc
  all_goals rfl
@[simp] theorem esc_sl (o : XE) (lo : XO) (hi : XO) : esc (.sl o lo hi : XE) = esc o ++ (escO lo ++ escO hi) := by
  conv => lhs; unfold esc
  all_goals rfl
@[simp] theorem esc_rev (o : XE) : esc (.rev o : XE) = esc o ++ bare o := by
  conv => lhs; unfold esc
  all_goals rfl
@[simp] theorem esc_lc (e : XE) (tg : TgE) (it : XI) (ifs : XO) : esc (.lc e tg it ifs : XE) = escI it ++ (bareI it ++ (escO ifs ++ (esc e ++ bare e))) := by
  conv => lhs; unfold esc
  all_goals rfl
@[simp] theorem esc_lc2 (e : XE) (tg : TgE) (it : XI) (tg2 : TgE) (it2 : XI) : esc (.lc2 e tg it tg2 it2 : XE) = escI it ++ (bareI it ++ (escI it2 ++ (bareI it2 ++ (esc e ++ bare e)))) := by
  conv => lhs; unfold esc
  all_goals rfl
@[simp] theorem esc_dnew (x_0 : Bool) : esc (.dnew x_0 : XE) = [] := by
  conv => lhs; unfold esc
  all_goals rfl
@[simp] theorem esc_dget (o : XE) (k : XE) : esc (.dget o k : XE) = esc o ++ esc k := by
  conv => lhs; unfold esc
  all_goals rfl
@[simp] theorem esc_din (x_0 : Bool) (k : XE) (o : XE) : esc (.din x_0 k o : XE) = esc k ++ esc o := by
  conv => lhs; unfold esc
  all_goals rfl
@[simp] theorem esc_dgetD (o : XE) (k : XE) (d : XE) : esc (.dgetD o k d : XE) = esc o ++ (esc k ++ (esc d ++ bare d)) := by
  conv => lhs; unfold esc
  all_goals rfl
@[simp] theorem escL_nil  : escL (.nil : XL) = [] := by
  conv => lhs; unfold escL
  all_goals rfl
@[simp] theorem escL_cons (e : XE) (r : XL) : escL (.cons e r : XL) = esc e ++ escL r := by
  conv => lhs; unfold escL
  all_goals rfl
@[simp] theorem escO_none  : escO (.none : XO) = [] := by
  conv => lhs; unfold escO
  all_goals rfl
@[simp] theorem escO_some (e : XE) : escO (.some e : XO) = esc e := by
  conv => lhs; unfold escO
  all_goals rfl
@[simp] theorem escI_seq (e : XE) : escI (.seq e : XI) = esc e := by
  conv => lhs; unfold escI
  all_goals rfl
@[simp] theorem escI_rng (a : XE) : escI (.rng a : XI) = esc a := by
  conv => lhs; unfold escI
  all_goals rfl
@[simp] theorem escI_rng2 (a : XE) (b : XE) : escI (.rng2 a b : XI) = esc a ++ esc b := by
  conv => lhs; unfold escI
  all_goals rfl
@[simp] theorem escI_enum (e : XE) : escI (.enum e : XI) = esc e := by
  conv => lhs; unfold escI
  all_goals rfl
@[simp] theorem escI_zip (a : XE) (b : XE) : escI (.zip a b : XI) = esc a ++ esc b := by
  conv => lhs; unfold escI
  all_goals rfl
@[simp] theorem bareI_seq (e : XE) : bareI (.seq e : XI) = bare e := by
  conv => lhs; unfold bareI
  all_goals rfl
@[simp] theorem bareI_rng (a : XE) : bareI (.rng a : XI) = [] := by
  conv => lhs; unfold bareI
  all_goals rfl
@[simp] theorem bareI_rng2 (a : XE) (b : XE) : bareI (.rng2 a b : XI) = [] := by
  conv => lhs; unfold bareI
  all_goals rfl
@[simp] theorem bareI_enum (e : XE) : bareI (.enum e : XI) = bare e := by
  conv => lhs; unfold bareI
  all_goals rfl
@[simp] theorem bareI_zip (a : XE) (b : XE) : bareI (.zip a b : XI) = bare a ++ bare b := by
  conv => lhs; unfold bareI
  all_goals rfl
@[simp] theorem pX_c (C : Nat → List PV → St → Rz (PV × Bool)) (v : PV) (σ : Env) (s : St) : pX C (.c v : XE) σ s = (pE C (.c v : XE) σ s).bind fun v s => .ok (v, freshB (.c v : XE)) s := by
  rfl
@[simp] theorem pX_v (C : Nat → List PV → St → Rz (PV × Bool)) (i : Nat) (σ : Env) (s : St) : pX C (.v i : XE) σ s = (pE C (.v i : XE) σ s).bind fun v s => .ok (v, freshB (.v i : XE)) s := by
  rfl
@[simp] theorem pX_tup (C : Nat → List PV → St → Rz (PV × Bool)) (es : XL) (σ : Env) (s : St) : pX C (.tup es : XE) σ s = (pE C (.tup es : XE) σ s).bind fun v s => .ok (v, freshB (.tup es : XE)) s := by
  rfl
@[simp] theorem pX_lst (C : Nat → List PV → St → Rz (PV × Bool)) (es : XL) (σ : Env) (s : St) : pX C (.lst es : XE) σ s = (pE C (.lst es : XE) σ s).bind fun v s => .ok (v, freshB (.lst es : XE)) s := by
  rfl
@[simp] theorem pX_bin (C : Nat → List PV → St → Rz (PV × Bool)) (op : Bop) (a : XE) (b : XE) (σ : Env) (s : St) : pX C (.bin op a b : XE) σ s = (pE C (.bin op a b : XE) σ s).bind fun v s => .ok (v, freshB (.bin op a b : XE)) s := by
  rfl
@[simp] theorem pX_neg (C : Nat → List PV → St → Rz (PV × Bool)) (a : XE) (σ : Env) (s : St) : pX C (.neg a : XE) σ s = (pE C (.neg a : XE) σ s).bind fun v s => .ok (v, freshB (.neg a : XE)) s := by
  rfl
@[simp] theorem pX_cmp (C : Nat → List PV → St → Rz (PV × Bool)) (op : Cop) (a : XE) (b : XE) (σ : Env) (s : St) : pX C (.cmp op a b : XE) σ s = (pE C (.cmp op a b : XE) σ s).bind fun v s => .ok (v, freshB (.cmp op a b : XE)) s := by
  rfl
@[simp] theorem pX_cmp2 (C : Nat → List PV → St → Rz (PV × Bool)) (o1 : Cop) (o2 : Cop) (a : XE) (b : XE) (c : XE) (σ : Env) (s : St) : pX C (.cmp2 o1 o2 a b c : XE) σ s = (pE C (.cmp2 o1 o2 a b c : XE) σ s).bind fun v s => .ok (v, freshB (.cmp2 o1 o2 a b c : XE)) s := by
  rfl
@[simp] theorem pX_and (C : Nat → List PV → St → Rz (PV × Bool)) (a : XE) (b : XE) (σ : Env) (s : St) : pX C (.and a b : XE) σ s = (pE C (.and a b : XE) σ s).bind fun v s => .ok (v, freshB (.and a b : XE)) s := by
  rfl
@[simp] theorem pX_or (C : Nat → List PV → St → Rz (PV × Bool)) (a : XE) (b : XE) (σ : Env) (s : St) : pX C (.or a b : XE) σ s = (pE C (.or a b : XE) σ s).bind fun v s => .ok (v, freshB (.or a b : XE)) s := by
  rfl
@[simp] theorem pX_not (C : Nat → List PV → St → Rz (PV × Bool)) (a : XE) (σ : Env) (s : St) : pX C (.not a : XE) σ s = (pE C (.not a : XE) σ s).bind fun v s => .ok (v, freshB (.not a : XE)) s := by
  rfl
@[simp] theorem pX_ite (C : Nat → List PV → St → Rz (PV × Bool)) (t : XE) (a : XE) (b : XE) (σ : Env) (s : St) : pX C (.ite t a b : XE) σ s = (pE C (.ite t a b : XE) σ s).bind fun v s => .ok (v, freshB (.ite t a b : XE)) s := by
  rfl
@[simp] theorem pX_blt (C : Nat → List PV → St → Rz (PV × Bool)) (f : Blt) (es : XL) (σ : Env) (s : St) : pX C (.blt f es : XE) σ s = (pE C (.blt f es : XE) σ s).bind fun v s => .ok (v, freshB (.blt f es : XE)) s := by
  rfl
@[simp] theorem pX_isx (C : Nat → List PV → St → Rz (PV × Bool)) (k : Nat) (a : XE) (σ : Env) (s : St) : pX C (.isx k a : XE) σ s = (pE C (.isx k a : XE) σ s).bind fun v s => .ok (v, freshB (.isx k a : XE)) s := by
  rfl
@[simp] theorem pX_mth (C : Nat → List PV → St → Rz (PV × Bool)) (m : Mth) (o : XE) (es : XL) (σ : Env) (s : St) : pX C (.mth m o es : XE) σ s = (pE C (.mth m o es : XE) σ s).bind fun v s => .ok (v, freshB (.mth m o es : XE)) s := by
  rfl
@[simp] theorem pX_idx (C : Nat → List PV → St → Rz (PV × Bool)) (o : XE) (i : XE) (σ : Env) (s : St) : pX C (.idx o i : XE) σ s = (pE C (.idx o i : XE) σ s).bind fun v s => .ok (v, freshB (.idx o i : XE)) s := by
  rfl
@[simp] theorem pX_sl (C : Nat → List PV → St → Rz (PV × Bool)) (o : XE) (lo : XO) (hi : XO) (σ : Env) (s : St) : pX C (.sl o lo hi : XE) σ s = (pE C (.sl o lo hi : XE) σ s).bind fun v s => .ok (v, freshB (.sl o lo hi : XE)) s := by
  rfl
@[simp] theorem pX_rev (C : Nat → List PV → St → Rz (PV × Bool)) (o : XE) (σ : Env) (s : St) : pX C (.rev o : XE) σ s = (pE C (.rev o : XE) σ s).bind fun v s => .ok (v, freshB (.rev o : XE)) s := by
  rfl
@[simp] theorem pX_lc (C : Nat → List PV → St → Rz (PV × Bool)) (e : XE) (tg : TgE) (it : XI) (ifs : XO) (σ : Env) (s : St) : pX C (.lc e tg it ifs : XE) σ s = (pE C (.lc e tg it ifs : XE) σ s).bind fun v s => .ok (v, freshB (.lc e tg it ifs : XE)) s := by
  rfl
@[simp] theorem pX_lc2 (C : Nat → List PV → St → Rz (PV × Bool)) (e : XE) (tg : TgE) (it : XI) (tg2 : TgE) (it2 : XI) (σ : Env) (s : St) : pX C (.lc2 e tg it tg2 it2 : XE) σ s = (pE C (.lc2 e tg it tg2 it2 : XE) σ s).bind fun v s => .ok (v, freshB (.lc2 e tg it tg2 it2 : XE)) s := by
  rfl
@[simp] theorem pX_dnew (C : Nat → List PV → St → Rz (PV × Bool)) (t : Bool) (σ : Env) (s : St) : pX C (.dnew t : XE) σ s = (pE C (.dnew t : XE) σ s).bind fun v s => .ok (v, freshB (.dnew t : XE)) s := by
  rfl
@[simp] theorem pX_dget (C : Nat → List PV → St → Rz (PV × Bool)) (o : XE) (k : XE) (σ : Env) (s : St) : pX C (.dget o k : XE) σ s = (pE C (.dget o k : XE) σ s).bind fun v s => .ok (v, freshB (.dget o k : XE)) s := by
  rfl
@[simp] theorem pX_din (C : Nat → List PV → St → Rz (PV × Bool)) (neg : Bool) (k : XE) (o : XE) (σ : Env) (s : St) : pX C (.din neg k o : XE) σ s = (pE C (.din neg k o : XE) σ s).bind fun v s => .ok (v, freshB (.din neg k o : XE)) s := by
  rfl
@[simp] theorem pX_dgetD (C : Nat → List PV → St → Rz (PV × Bool)) (o : XE) (k : XE) (d : XE) (σ : Env) (s : St) : pX C (.dgetD o k d : XE) σ s = (pE C (.dgetD o k d : XE) σ s).bind fun v s => .ok (v, freshB (.dgetD o k d : XE)) s := by
  rfl
@[simp] theorem pX_call (C : Nat → List PV → St → Rz (PV × Bool)) (f : Nat) (es : XL) (σ : Env) (s : St) : pX C (.call f es : XE) σ s = (pL C es σ s).bind fun vs s => C f vs s := by
  rfl
@[simp] theorem freshB_c (v : PV) : freshB (.c v : XE) = false := rfl
@[simp] theorem ownV_c (w : Own) (v : PV) : ownV w (.c v : XE) = false := rfl
@[simp] theorem freshB_v (i : Nat) : freshB (.v i : XE) = false := rfl
@[simp] theorem ownV_v (w : Own) (i : Nat) : ownV w (.v i : XE) = w.contains i := rfl
@[simp] theorem freshB_tup (es : XL) : freshB (.tup es : XE) = false := rfl
@[simp] theorem ownV_tup (w : Own) (es : XL) : ownV w (.tup es : XE) = false := rfl
@[simp] theorem freshB_lst (es : XL) : freshB (.lst es : XE) = true := rfl
@[simp] theorem ownV_lst (w : Own) (es : XL) : ownV w (.lst es : XE) = false := rfl
@[simp] theorem ownV_bin (w : Own) (op : Bop) (a : XE) (b : XE) : ownV w (.bin op a b : XE) = false := rfl
@[simp] theorem freshB_neg (a : XE) : freshB (.neg a : XE) = false := rfl
@[simp] theorem ownV_neg (w : Own) (a : XE) : ownV w (.neg a : XE) = false := rfl
@[simp] theorem freshB_cmp (op : Cop) (a : XE) (b : XE) : freshB (.cmp op a b : XE) = false := rfl
@[simp] theorem ownV_cmp (w : Own) (op : Cop) (a : XE) (b : XE) : ownV w (.cmp op a b : XE) = false := rfl
@[simp] theorem freshB_cmp2 (o1 : Cop) (o2 : Cop) (a : XE) (b : XE) (c : XE) : freshB (.cmp2 o1 o2 a b c : XE) = false := rfl
@[simp] theorem ownV_cmp2 (w : Own) (o1 : Cop) (o2 : Cop) (a : XE) (b : XE) (c : XE) : ownV w (.cmp2 o1 o2 a b c : XE) = false := rfl
@[simp] theorem freshB_and (a : XE) (b : XE) : freshB (.and a b : XE) = false := rfl
@[simp] theorem ownV_and (w : Own) (a : XE) (b : XE) : ownV w (.and a b : XE) = false := rfl
@[simp] theorem freshB_or (a : XE) (b : XE) : freshB (.or a b : XE) = false := rfl
@[simp] theorem ownV_or (w : Own) (a : XE) (b : XE) : ownV w (.or a b : XE) = false := rfl
@[simp] theorem freshB_not (a : XE) : freshB (.not a : XE) = false := rfl
@[simp] theorem ownV_not (w : Own) (a : XE) : ownV w (.not a : XE) = false := rfl
@[simp] theorem freshB_ite (t : XE) (a : XE) (b : XE) : freshB (.ite t a b : XE) = false := rfl
@[simp] theorem ownV_ite (w : Own) (t : XE) (a : XE) (b : XE) : ownV w (.ite t a b : XE) = false := rfl
@[simp] theorem freshB_call (f : Nat) (es : XL) : freshB (.call f es : XE) = false := rfl
@[simp] theorem ownV_call (w : Own) (f : Nat) (es : XL) : ownV w (.call f es : XE) = false := rfl
@[simp] theorem ownV_blt (w : Own) (f : Blt) (es : XL) : ownV w (.blt f es : XE) = false := rfl
@[simp] theorem freshB_isx (k : Nat) (a : XE) : freshB (.isx k a : XE) = false := rfl
@[simp] theorem ownV_isx (w : Own) (k : Nat) (a : XE) : ownV w (.isx k a : XE) = false := rfl
@[simp] theorem freshB_mth (m : Mth) (o : XE) (es : XL) : freshB (.mth m o es : XE) = false := rfl
@[simp] theorem ownV_mth (w : Own) (m : Mth) (o : XE) (es : XL) : ownV w (.mth m o es : XE) = false := rfl
@[simp] theorem freshB_idx (o : XE) (i : XE) : freshB (.idx o i : XE) = false := rfl
@[simp] theorem ownV_idx (w : Own) (o : XE) (i : XE) : ownV w (.idx o i : XE) = false := rfl
@[simp] theorem freshB_sl (o : XE) (lo : XO) (hi : XO) : freshB (.sl o lo hi : XE) = true := rfl
@[simp] theorem ownV_sl (w : Own) (o : XE) (lo : XO) (hi : XO) : ownV w (.sl o lo hi : XE) = false := rfl
@[simp] theorem freshB_rev (o : XE) : freshB (.rev o : XE) = false := rfl
@[simp] theorem ownV_rev (w : Own) (o : XE) : ownV w (.rev o : XE) = false := rfl
@[simp] theorem freshB_lc (e : XE) (tg : TgE) (it : XI) (ifs : XO) : freshB (.lc e tg it ifs : XE) = true := rfl
@[simp] theorem ownV_lc (w : Own) (e : XE) (tg : TgE) (it : XI) (ifs : XO) : ownV w (.lc e tg it ifs : XE) = false := rfl
@[simp] theorem freshB_lc2 (e : XE) (tg : TgE) (it : XI) (tg2 : TgE) (it2 : XI) : freshB (.lc2 e tg it tg2 it2 : XE) = true := rfl
@[simp] theorem ownV_lc2 (w : Own) (e : XE) (tg : TgE) (it : XI) (tg2 : TgE) (it2 : XI) : ownV w (.lc2 e tg it tg2 it2 : XE) = false := rfl
@[simp] theorem freshB_dnew (t : Bool) : freshB (.dnew t : XE) = true := rfl
@[simp] theorem ownV_dnew (w : Own) (t : Bool) : ownV w (.dnew t : XE) = false := rfl
@[simp] theorem freshB_dget (o : XE) (k : XE) : freshB (.dget o k : XE) = false := rfl
@[simp] theorem ownV_dget (w : Own) (o : XE) (k : XE) : ownV w (.dget o k : XE) = false := rfl
@[simp] theorem freshB_din (neg : Bool) (k : XE) (o : XE) : freshB (.din neg k o : XE) = false := rfl
@[simp] theorem ownV_din (w : Own) (neg : Bool) (k : XE) (o : XE) : ownV w (.din neg k o : XE) = false := rfl
@[simp] theorem freshB_dgetD (o : XE) (k : XE) (d : XE) : freshB (.dgetD o k d : XE) = false := rfl
@[simp] theorem ownV_dgetD (w : Own) (o : XE) (k : XE) (d : XE) : ownV w (.dgetD o k d : XE) = false := rfl
@[simp] theorem freshB_bin_add (a b : XE) : freshB (.bin .add a b) = true := rfl
@[simp] theorem freshB_bin_sub (a b : XE) : freshB (.bin .sub a b) = false := rfl
@[simp] theorem freshB_bin_mul (a b : XE) : freshB (.bin .mul a b) = true := rfl
@[simp] theorem freshB_bin_mod (a b : XE) : freshB (.bin .mod a b) = false := rfl
@[simp] theorem freshB_bin_fdiv (a b : XE) : freshB (.bin .fdiv a b) = false := rfl
@[simp] theorem freshB_bin_pow (a b : XE) : freshB (.bin .pow a b) = false := rfl
@[simp] theorem freshB_blt_len (es : XL) : freshB (.blt .len es) = false := rfl
@[simp] theorem freshB_blt_list (es : XL) : freshB (.blt .list es) = true := rfl
@[simp] theorem freshB_blt_tuple (es : XL) : freshB (.blt .tuple es) = false := rfl
@[simp] theorem freshB_blt_sorted (es : XL) : freshB (.blt .sorted es) = true := rfl
@[simp] theorem freshB_blt_sortedSet (es : XL) : freshB (.blt .sortedSet es) = true := rfl
@[simp] theorem freshB_blt_lenSet (es : XL) : freshB (.blt .lenSet es) = false := rfl
@[simp] theorem freshB_blt_listZip (es : XL) : freshB (.blt .listZip es) = true := rfl
@[simp] theorem freshB_blt_isTuple (es : XL) : freshB (.blt .isTuple es) = false := rfl
@[simp] theorem freshB_blt_isInt (es : XL) : freshB (.blt .isInt es) = false := rfl
@[simp] theorem freshB_blt_isStr (es : XL) : freshB (.blt .isStr es) = false := rfl
@[simp] theorem freshB_blt_isBool (es : XL) : freshB (.blt .isBool es) = false := rfl
@[simp] theorem freshB_blt_isList (es : XL) : freshB (.blt .isList es) = false := rfl
@[simp] theorem freshB_blt_all (es : XL) : freshB (.blt .all es) = false := rfl
@[simp] theorem freshB_blt_any (es : XL) : freshB (.blt .any es) = false := rfl
@[simp] theorem freshB_blt_int (es : XL) : freshB (.blt .int es) = false := rfl
@[simp] theorem freshB_blt_min (es : XL) : freshB (.blt .min es) = false := rfl
@[simp] theorem freshB_blt_max (es : XL) : freshB (.blt .max es) = false := rfl
@[simp] theorem freshB_blt_repr (es : XL) : freshB (.blt .repr es) = false := rfl
def rngO (i j : Int) : Option (List PV) := if intOk i && intOk j then some (rangeV i j) else none
theorem intOk_0 : intOk 0 = true := by decide
theorem rngO_ok {i j : Int} (hi : intOk i = true) (hj : intOk j = true) : rngO i j = some (rangeV i j) := if_pos (by rw [hi, hj]; rfl)
def rngV (x : PV) (s : St) : Rz (List PV) := match x with
  | .int j => ofO (rngO 0 j) s
  | _ => .no
def rngV2 (x y : PV) (s : St) : Rz (List PV) := match x, y with
  | .int i, .int j => ofO (rngO i j) s
  | _, _ => .no
@[simp] theorem rngV_int (j : Int) (s : St) : rngV (.int j) s = ofO (rngO 0 j) s := id rfl
@[simp] theorem rngV2_int (i j : Int) (s : St) : rngV2 (.int i) (.int j) s = ofO (rngO i j) s := id rfl
@[simp] theorem pI_rngV (C : Nat → List PV → St → Rz (PV × Bool)) (a : XE) (σ : Env) (s : St) : pI C (.rng a) σ s = (pE C a σ s).bind rngV := by
  rw [pI_rng]
  congr 1
  funext x s
  cases x <;> first | rfl | skip
  rename_i j
  show (if intOk j = true then _ else _) = ofO (rngO 0 j) s
  unfold rngO
  rw [intOk_0, Bool.true_and]
  by_cases c : intOk j = true
  · rw [if_pos c, if_pos c]; rfl
  · rw [if_neg c, if_neg c]; rfl
@[simp] theorem pI_rngV2 (C : Nat → List PV → St → Rz (PV × Bool)) (a b : XE) (σ : Env) (s : St) : pI C (.rng2 a b) σ s = (pE C a σ s).bind fun x s => (pE C b σ s).bind fun y s => rngV2 x y s := by
  rw [pI_rng2]
  congr 1
  funext x s
  congr 1
  funext y s
  cases x <;> first | rfl | skip
  cases y <;> first | rfl | skip
  rename_i i j
  show (if (intOk i && intOk j) = true then _ else _) = ofO (rngO i j) s
  unfold rngO
  by_cases c : (intOk i && intOk j) = true
  · rw [if_pos c, if_pos c]; rfl
  · rw [if_neg c, if_neg c]; rfl
end Pu

set_option linter.all false
set_option autoImplicit false
set_option maxRecDepth 100000
set_option maxHeartbeats 4000000
/-! Q1: rules for simp; the pen. -/
namespace Pu
@[simp] theorem bind_okE {α β : Type} (a : α) (s : St) (f : α → St → Rz β) : (Rz.ok a s).bind f = f a s := id rfl
@[simp] theorem bind_exE {α β : Type} (c : Nat) (fs : List PV) (s : St) (f : α → St → Rz β) : (Rz.ex c fs s).bind f = Rz.ex c fs s := id rfl
@[simp] theorem run_okE {α : Type} (a : α) (s : St) (σ : Env) (w : Own) (k : α → St → Option (Out × St)) : (Rz.ok a s).run σ w k = k a s := id rfl
@[simp] theorem run_exE {α : Type} (c : Nat) (fs : List PV) (s : St) (σ : Env) (w : Own) (k : α → St → Option (Out × St)) : (Rz.ex c fs s : Rz α).run σ w k = some (.ex c fs σ w, s) := id rfl
@[simp] theorem nox_ok {α : Type} (a : α) (s : St) : (Rz.ok a s).nox = .ok a s := id rfl
@[simp] theorem ofO_some {α : Type} (a : α) (s : St) : ofO (some a) s = .ok a s := id rfl
@[simp] theorem asB_bl (b : Bool) (s : St) : asB (.bl b) s = .ok b s := id rfl
@[simp] theorem rel_nil (r : List Nat) : rel [] r = [] := id rfl
@[simp] theorem rel_cons (i : Nat) (w : Own) (r : List Nat) : rel (i :: w) r = if r.contains i then rel w r else i :: rel w r := by
  unfold rel
  rw [List.filter_cons]
  cases r.contains i <;> rfl
@[simp] theorem addO_nil (i : Nat) : addO i [] = [i] := id rfl
@[simp] theorem addO_cons (i j : Nat) (w : Own) : addO i (j :: w) = if i < j then i :: j :: w else if i = j then j :: w else j :: addO i w := id rfl
@[simp] theorem isM_lv (xs : List PV) : (PV.lv xs).isM = true := id rfl
@[simp] theorem isM_tup (xs : List PV) : (PV.tup xs).isM = false := id rfl
@[simp] theorem isM_int (i : Int) : (PV.int i).isM = false := id rfl
@[simp] theorem isM_bl (i : Bool) : (PV.bl i).isM = false := id rfl
@[simp] theorem isM_str (i : Sg) : (PV.str i).isM = false := id rfl
@[simp] theorem isM_non : (PV.non).isM = false := id rfl
@[simp] theorem isM_ref (n : Nat) : (PV.ref n).isM = false := id rfl
@[simp] theorem isM_exc (n : Nat) (fs : List PV) : (PV.exc n fs).isM = false := id rfl
@[simp] theorem own1_f (w : Own) (i : Nat) (v : PV) : own1 w i (v, false) = rel w [i] := id rfl
@[simp] theorem own1_t (w : Own) (i : Nat) (v : PV) : own1 w i (v, true) = if v.isM then addO i (rel w [i]) else rel w [i] := id rfl
@[simp] theorem slots_nm (i : Nat) : TgE.slots (.nm i) = [i] := by unfold TgE.slots; rfl
@[simp] theorem slots_tp (l : List TgE) : TgE.slots (.tp l) = TgE.slotsL l := by conv => lhs; unfold TgE.slots
@[simp] theorem slotsL_nil : TgE.slotsL [] = [] := by unfold TgE.slotsL; rfl
@[simp] theorem slotsL_cons (t : TgE) (l : List TgE) : TgE.slotsL (t :: l) = t.slots ++ TgE.slotsL l := by conv => lhs; unfold TgE.slotsL
@[simp] theorem asn_nm (i : Nat) (v : PV) (σ : Env) : asn (.nm i) v σ = some (σ.set i (some v)) := by unfold asn; rfl
@[simp] theorem asn_tp (l : List TgE) (xs : List PV) (σ : Env) : asn (.tp l) (.tup xs) σ = asns l xs σ := by conv => lhs; unfold asn
@[simp] theorem asns_nil (σ : Env) : asns [] [] σ = some σ := by unfold asns; rfl
theorem asns_cons (t : TgE) (ts : List TgE) (v : PV) (vs : List PV) (σ : Env) : asns (t :: ts) (v :: vs) σ = match asn t v σ with
    | none => none
    | some σ' => asns ts vs σ' := by
  conv => lhs; unfold asns
  all_goals rfl
@[simp] theorem asns_nm (i : Nat) (ts : List TgE) (v : PV) (vs : List PV) (σ : Env) : asns (.nm i :: ts) (v :: vs) σ = asns ts vs (σ.set i (some v)) := by rw [asns_cons]; simp
@[simp] theorem wipeE_nil (σ : Env) : wipeE σ [] = σ := id rfl
@[simp] theorem wipeE_cons (σ : Env) (i : Nat) (is : List Nat) : wipeE σ (i :: is) = (wipeE σ is).set i none := id rfl
def fin : Option (Out × St) → Rz (PV × Bool)
  | some (.nx _ _, s2) => .ok (.non, false) s2
  | some (.rt v fr, s2) => .ok (v, fr) s2
  | some (.ex c fs _ _, s2) => .ex c fs s2
  | _ => .no
@[simp] theorem fin_nx (σ : Env) (w : Own) (s : St) : fin (some (.nx σ w, s)) = .ok (.non, false) s := id rfl
@[simp] theorem fin_rt (v : PV) (fr : Bool) (s : St) : fin (some (.rt v fr, s)) = .ok (v, fr) s := id rfl
@[simp] theorem fin_ex (c : Nat) (fs : List PV) (σ : Env) (w : Own) (s : St) : fin (some (.ex c fs σ w, s)) = .ex c fs s := id rfl
theorem run_def {D : List (Nat × Dfn)} {f : Nat} {d : Dfn} (h : D.lookup f = some d) (n : Nat) (vs : List PV) (s : St) (hl : vs.length = d.np) : runD D (n + 1) f vs s = fin (pB (runD D n) d.body (vs.map some ++ List.replicate (d.nl - d.np) none) [] s) := by
  unfold runD
  simp only [h, hl, if_pos]
  rfl
@[simp] theorem bop_add (i j : Int) : bop .add (.int i) (.int j) = some (.int (i + j)) := id rfl
@[simp] theorem bop_sub (i j : Int) : bop .sub (.int i) (.int j) = some (.int (i - j)) := id rfl
theorem bop_mul {i j : Int} (h : small64 i = true ∨ small64 j = true) : bop .mul (.int i) (.int j) = some (.int (i * j)) := by
  show (if (small64 i || small64 j) = true then _ else _) = _
  rw [if_pos (by rw [Bool.or_eq_true]; exact h)]
theorem bop_mod {i j : Int} (h : 0 < j) : bop .mod (.int i) (.int j) = some (.int (i % j)) := if_pos h
theorem log2_lt {j : Int} (h1 : j < 2 ^ 62) (h0 : 0 < j) : j.natAbs.log2 < 9000 := by
  have h2 : j.natAbs < 2 ^ 62 := by omega
  have := (Nat.log2_lt (n := j.natAbs) (k := 62) (by omega)).mpr h2
  omega
theorem bop_fdiv {i j : Int} (h : 0 < j) (h1 : j < 2 ^ 62) : bop .fdiv (.int i) (.int j) = some (.int (i / j)) := by
  show (if (0 < j && decide (j.natAbs.log2 < 9000)) = true then _ else _) = _
  rw [if_pos]
  simp [h, log2_lt h1 h]
theorem bop_pow {i : Int} {j : Int} {n : Nat} (e : j = n) (h : small64 i = true) (hn : n ≤ 1000000) : bop .pow (.int i) (.int j) = some (.int (i ^ n)) := by
  subst e
  show (if (0 ≤ (n : Int) && (decide ((n : Int) ≤ 1000000) && small64 i)) = true then _ else _) = _
  rw [if_pos (by simp [h]; omega)]
  rfl
theorem small_ok {i : Int} (h0 : -(2 ^ 64) < i) (h1 : i < 2 ^ 64) : small64 i = true := by
  unfold small64
  exact decide_eq_true (by omega)
@[simp] theorem bop_addL (xs ys : List PV) (h : xs.length + ys.length ≤ line) : bop .add (.lv xs) (.lv ys) = some (.lv (xs ++ ys)) := if_pos h
@[simp] theorem bop_addT (xs ys : List PV) (h : xs.length + ys.length ≤ line) : bop .add (.tup xs) (.tup ys) = some (.tup (xs ++ ys)) := if_pos h
@[simp] theorem cop_lt (i j : Int) : cop .lt (.int i) (.int j) = some (decide (i < j)) := id rfl
@[simp] theorem cop_le (i j : Int) : cop .le (.int i) (.int j) = some (decide (i ≤ j)) := id rfl
@[simp] theorem cop_gt (i j : Int) : cop .gt (.int i) (.int j) = some (decide (j < i)) := id rfl
@[simp] theorem cop_ge (i j : Int) : cop .ge (.int i) (.int j) = some (decide (j ≤ i)) := id rfl
@[simp] theorem bLen_tup (s : St) (xs : List PV) : blt s .len [.tup xs] = some (.int xs.length) := id rfl
@[simp] theorem bLen_lv (s : St) (xs : List PV) : blt s .len [.lv xs] = some (.int xs.length) := id rfl
@[simp] theorem item_tup (s : St) (xs : List PV) (j : Int) : item s (.tup xs) (.int j) = at? xs j := id rfl
@[simp] theorem item_lv (s : St) (xs : List PV) (j : Int) : item s (.lv xs) (.int j) = at? xs j := id rfl
@[simp] theorem item_ref (s : St) (n : Nat) (j : Int) : item s (.ref n) (.int j) = (s[n]?).bind fun xs => at? xs j := id rfl
@[simp] theorem shP_int (i : Int) : shP (.int i) = true := id rfl
@[simp] theorem shP_ref (i : Nat) : shP (.ref i) = true := id rfl
@[simp] theorem at_0 {α : Type} (x : α) (xs : List α) : at? (x :: xs) 0 = some x := by unfold at? ixE; simp
@[simp] theorem at_1 {α : Type} (x y : α) (xs : List α) : at? (x :: y :: xs) 1 = some y := by
  unfold at? ixE
  rw [if_pos (by decide), if_pos (by simp only [List.length_cons]; omega)]
  rfl
@[simp] theorem at_2 {α : Type} (x y z : α) (xs : List α) : at? (x :: y :: z :: xs) 2 = some z := by
  unfold at? ixE
  rw [if_pos (by decide), if_pos (by simp only [List.length_cons]; omega)]
  rfl
@[simp] theorem ix_30 : ixE 3 0 = some 0 := by decide
@[simp] theorem ix_31 : ixE 3 1 = some 1 := by decide
@[simp] theorem ix_32 : ixE 3 2 = some 2 := by decide
def x__law_spread : Dfn := ⟨2, 7, (.cons (.iff (.cmp .ge (.v 0) (.bin .pow (.c (.int 10)) (.c (.int 18)))) (.cons (.ret (.v 0)) .nil) .nil) (.cons (.asg (.nm 2) (.lst (.cons (.c (.int 2147483629)) (.cons (.c (.int 2147483587)) (.cons (.c (.int 2147483579)) (.cons (.c (.int 2147483563)) (.cons (.c (.int 2147483549)) (.cons (.c (.int 2147483543)) (.cons (.c (.int 2147483497)) .nil))))))))) (.cons (.asg (.nm 2) (.bin .add (.v 2) (.lst (.cons (.c (.int 2147483489)) (.cons (.c (.int 2147483477)) (.cons (.c (.int 2147483423)) (.cons (.c (.int 2147483399)) (.cons (.c (.int 2147483353)) (.cons (.c (.int 2147483323)) .nil))))))))) (.cons (.asg (.nm 3) (.bin .add (.bin .add (.bin .mul (.bin .mod (.v 0) (.c (.int 1000000007))) (.bin .add (.bin .mul (.c (.int 2)) (.v 1)) (.c (.int 69069)))) (.bin .mul (.v 1) (.c (.int 40503)))) (.c (.int 977)))) (.cons (.asg (.nm 4) (.bin .mod (.bin .pow (.v 3) (.c (.int 3))) (.idx (.v 2) (.bin .mod (.v 1) (.c (.int 13)))))) (.cons (.asg (.nm 5) (.bin .mod (.bin .pow (.bin .add (.bin .add (.bin .mul (.v 4) (.bin .add (.v 1) (.c (.int 3)))) (.bin .mod (.v 0) (.c (.int 65537)))) (.c (.int 5))) (.c (.int 5))) (.idx (.v 2) (.bin .mod (.bin .add (.v 1) (.c (.int 5))) (.c (.int 13)))))) (.cons (.asg (.nm 6) (.bin .mod (.bin .pow (.bin .add (.bin .add (.v 5) (.bin .mod (.v 4) (.c (.int 1009)))) (.v 1)) (.c (.int 3))) (.idx (.v 2) (.bin .mod (.bin .add (.v 1) (.c (.int 7))) (.c (.int 13)))))) (.cons (.ret (.bin .add (.bin .mul (.bin .add (.bin .mul (.v 4) (.c (.int 2147483647))) (.v 5)) (.c (.int 2147483647))) (.v 6))) .nil))))))))⟩
def x__law_anew : Dfn := ⟨1, 1, (.cons (.setIx 0 (.c (.int 2)) (.c (.int 0))) (.cons (.ret (.v 0)) .nil))⟩
def x__law_take : Dfn := ⟨2, 5, (.cons (.iff (.cmp .lt (.idx (.v 0) (.c (.int 2))) (.v 1)) (.cons (.asg (.nm 3) (.idx (.v 0) (.c (.int 1)))) (.cons (.asg (.nm 4) (.c (.int 0))) (.cons (.iff (.cmp .lt (.v 3) (.blt .len (.cons (.idx (.v 0) (.c (.int 0))) .nil))) (.cons (.asg (.nm 4) (.idx (.idx (.v 0) (.c (.int 0))) (.v 3))) .nil) (.cons (.iff (.cmp .gt (.blt .len (.cons (.idx (.v 0) (.c (.int 0))) .nil)) (.c (.int 0))) (.cons (.asg (.nm 4) (.bin .mod (.idx (.idx (.v 0) (.c (.int 0))) (.bin .mod (.bin .add (.bin .mul (.v 3) (.c (.int 5))) (.c (.int 3))) (.blt .len (.cons (.idx (.v 0) (.c (.int 0))) .nil)))) (.bin .add (.bin .pow (.c (.int 10)) (.c (.int 17))) (.v 3)))) .nil) .nil) .nil)) (.cons (.setIx 0 (.c (.int 1)) (.bin .add (.v 3) (.c (.int 1)))) (.cons (.setIx 0 (.c (.int 2)) (.call 15 (.cons (.v 4) (.cons (.v 3) .nil)))) .nil))))) .nil) (.cons (.asg (.nm 2) (.bin .mod (.idx (.v 0) (.c (.int 2))) (.v 1))) (.cons (.setIx 0 (.c (.int 2)) (.bin .fdiv (.idx (.v 0) (.c (.int 2))) (.v 1))) (.cons (.ret (.v 2)) .nil))))⟩
def x__law_one : Dfn := ⟨2, 2, (.cons (.ret (.idx (.v 1) (.call 18 (.cons (.v 0) (.cons (.blt .len (.cons (.v 1) .nil)) .nil))))) .nil)⟩
/-- the pen: its cells, how many were read, what is left -/
def penS (cells : List Int) (k seed : Int) : St := [cells.map PV.int, [.ref 0, .int k, .int seed]]
@[simp] theorem penS_0 (cells : List Int) (k seed : Int) : (penS cells k seed)[0]? = some (cells.map PV.int) := id rfl
@[simp] theorem penS_1 (cells : List Int) (k seed : Int) : (penS cells k seed)[1]? = some [.ref 0, .int k, .int seed] := id rfl
@[simp] theorem penS_set1 (cells : List Int) (k seed k2 seed2 : Int) : (penS cells k seed).set 1 [.ref 0, .int k2, .int seed2] = penS cells k2 seed2 := id rfl
def primes : List PV := [.int 2147483629, .int 2147483587, .int 2147483579, .int 2147483563, .int 2147483549, .int 2147483543, .int 2147483497, .int 2147483489, .int 2147483477, .int 2147483423, .int 2147483399, .int 2147483353, .int 2147483323]
theorem primes_at {i : Int} (h0 : 0 ≤ i) (h1 : i < 13) : ∃ p : Int, at? primes i = some (.int p) ∧ 0 < p ∧ p < 2147483648 := by
  obtain ⟨n, rfl⟩ : ∃ n : Nat, i = n := ⟨i.toNat, by omega⟩
  have hn : n < 13 := by omega
  rcases n with _ | _ | _ | _ | _ | _ | _ | _ | _ | _ | _ | _ | _ | n
  all_goals first
    | exact ⟨_, rfl, by decide, by decide⟩
    | omega
theorem anew_run {D : List (Nat × Dfn)} (hD : D.lookup 17 = some x__law_anew) (n : Nat) (cells : List Int) (k seed : Int) : runD D (n + 1) 17 [.ref 1] (penS cells k seed) = .ok (.ref 1, false) (penS cells k 0) := by
  rw [run_def hD _ _ _ rfl]
  simp [x__law_anew]
theorem one_run {D : List (Nat × Dfn)} (h : D.lookup 19 = some x__law_one) (n : Nat) (p : PV) (xs : List PV) (s s' : St) (r : Int) (v : PV) (ht : runD D n 18 [p, .int xs.length] s = .ok (.int r, false) s') (hv : at? xs r = some v) : runD D (n + 1) 19 [p, .tup xs] s = .ok (v, false) s' := by
  rw [run_def h _ _ _ rfl]
  simp [x__law_one, ht, hv]
end Pu

set_option linter.all false
set_option autoImplicit false
set_option maxRecDepth 100000
set_option maxHeartbeats 4000000
/-! Q2: the pen's runs. -/
namespace Pu
theorem spread_run {D : List (Nat × Dfn)} (hD : D.lookup 15 = some x__law_spread) (n : Nat) (cell k : Int) (s : St) (ha : 0 ≤ k) (hb : k < 2 ^ 32) : ∃ (r : Int) (fr : Bool), 0 ≤ r ∧ runD D (n + 1) 15 [.int cell, .int k] s = .ok (.int r, fr) s := by
  have e18 : bop .pow (.int 10) (.int 18) = some (.int 1000000000000000000) := by rw [bop_pow (j := 18) (n := 18) rfl rfl (by decide)]; rfl
  rw [run_def hD _ _ _ rfl]
  by_cases hc : 1000000000000000000 ≤ cell
  · exact ⟨cell, false, by omega, by simp [x__law_spread, e18, hc]⟩
  · obtain ⟨p1, e1, l1, u1⟩ := primes_at (i := k % 13) (by omega) (by omega)
    obtain ⟨p2, e2, l2, u2⟩ := primes_at (i := (k + 5) % 13) (by omega) (by omega)
    obtain ⟨p3, e3, l3, u3⟩ := primes_at (i := (k + 7) % 13) (by omega) (by omega)
    obtain ⟨m, em⟩ : ∃ m : Int, m = cell % 1000000007 * (2 * k + 69069) + k * 40503 + 977 := ⟨_, rfl⟩
    have m0 : 0 ≤ cell % 1000000007 := Int.emod_nonneg _ (by decide)
    have m1 : cell % 1000000007 < 1000000007 := Int.emod_lt_of_pos _ (by decide)
    have mA : 0 ≤ cell % 1000000007 * (2 * k + 69069) := Int.mul_nonneg m0 (by omega)
    have mB : cell % 1000000007 * (2 * k + 69069) ≤ 1000000007 * (2 * k + 69069) := Int.mul_le_mul_of_nonneg_right (by omega) (by omega)
    have mS : small64 m = true := small_ok (by omega) (by omega)
    obtain ⟨one, eo⟩ : ∃ x : Int, x = m ^ 3 % p1 := ⟨_, rfl⟩
    have o0 : 0 ≤ one := by rw [eo]; exact Int.emod_nonneg _ (by omega)
    have o1 : one < p1 := by rw [eo]; exact Int.emod_lt_of_pos _ l1
    have r0 : 0 ≤ cell % 65537 := Int.emod_nonneg cell (b := 65537) (by decide)
    have r1 : cell % 65537 < 65537 := Int.emod_lt_of_pos cell (b := 65537) (by decide)
    obtain ⟨two0, e0⟩ : ∃ x : Int, x = one * (k + 3) + cell % 65537 + 5 := ⟨_, rfl⟩
    have tA : 0 ≤ one * (k + 3) := Int.mul_nonneg o0 (by omega)
    have tB : one * (k + 3) ≤ 2147483648 * (k + 3) := Int.mul_le_mul_of_nonneg_right (by omega) (by omega)
    have tS : small64 two0 = true := small_ok (by omega) (by omega)
    obtain ⟨two, et⟩ : ∃ x : Int, x = two0 ^ 5 % p2 := ⟨_, rfl⟩
    have w0 : 0 ≤ two := by rw [et]; exact Int.emod_nonneg _ (by omega)
    have w1 : two < p2 := by rw [et]; exact Int.emod_lt_of_pos _ l2
    have q0 : 0 ≤ one % 1009 := Int.emod_nonneg _ (by decide)
    have q1 : one % 1009 < 1009 := Int.emod_lt_of_pos _ (by decide)
    have hS : small64 (two + one % 1009 + k) = true := small_ok (by omega) (by omega)
    have h0 : 0 ≤ (two + one % 1009 + k) ^ 3 % p3 := Int.emod_nonneg _ (by omega)
    have z0 : 0 ≤ one * 2147483647 + two := by omega
    have sOne : small64 one = true := small_ok (by omega) (by omega)
    have c1 : small64 2147483647 = true := rfl
    have c2 : small64 2 = true := rfl
    have c3 : small64 40503 = true := rfl
    have c4 : small64 (cell % 1000000007) = true := small_ok (by omega) (by omega)
    have d13 : (0 : Int) < 13 := by decide
    have pl : primes.length ≤ line := by decide
    refine ⟨(one * 2147483647 + two) * 2147483647 + (two + one % 1009 + k) ^ 3 % p3, true, by omega, ?_⟩
    have pe : ([PV.int 2147483629, .int 2147483587, .int 2147483579, .int 2147483563, .int 2147483549, .int 2147483543, .int 2147483497, .int 2147483489, .int 2147483477, .int 2147483423, .int 2147483399, .int 2147483353, .int 2147483323] : List PV) = primes := rfl
    have l7 : 7 ≤ line := by decide
    have l6 : 6 ≤ line := by decide
    have l13 : 13 ≤ line := by decide
    have hc' : decide (1000000000000000000 ≤ cell) = false := decide_eq_false hc
    simp [x__law_spread, e18, hc', bop_mul, bop_mod, c1, c2, c3, c4, l7, l6, l13, pe, e1, e2, e3, l1, l2, l3, ← em, bop_pow (j := 3) (n := 3) rfl mS, ← eo, ← e0, bop_pow (j := 5) (n := 5) rfl tS, ← et, bop_pow (j := 3) (n := 3) rfl hS, sOne]
@[simp] theorem own1_n (w : Own) (i : Nat) (v : PV) (fr : Bool) (h : v.isM = false) : own1 w i (v, fr) = rel w [i] := by
  unfold own1
  rw [show (((v, fr).2 && (v, fr).1.isM) : Bool) = false by simp [h]]
  rfl
theorem at_cells {cells : List Int} {i : Int} (h0 : 0 ≤ i) (h1 : i < cells.length) : ∃ j : Int, at? (cells.map PV.int) i = some (.int j) := by
  unfold at? ixE
  rw [if_pos h0, List.length_map, if_pos h1]
  show ∃ j, (cells.map PV.int)[i.toNat]? = _
  rw [List.getElem?_map, List.getElem?_eq_getElem (by omega)]
  exact ⟨_, rfl⟩
@[simp] theorem bLen_ref (s : St) (n : Nat) : blt s .len [.ref n] = (s[n]?).map fun xs => .int xs.length := id rfl
theorem take_run {D : List (Nat × Dfn)} (hD : D.lookup 18 = some x__law_take) (hS : D.lookup 15 = some x__law_spread) (n : Nat) (cells : List Int) (k seed many : Int) (k0 : 0 ≤ k) (k1 : k < 2 ^ 32 - 1) (s0 : 0 ≤ seed) (h0 : 0 < many) (h1 : many < 2 ^ 62) :
    ∃ r k' seed' : Int, runD D (n + 2) 18 [.ref 1, .int many] (penS cells k seed) = .ok (.int r, false) (penS cells k' seed') ∧ 0 ≤ r ∧ r < many ∧ k ≤ k' ∧ k' ≤ k + 1 ∧ 0 ≤ seed' := by
  rw [run_def hD _ _ _ rfl]
  have e17 : bop .pow (.int 10) (.int 17) = some (.int 100000000000000000) := by rw [bop_pow (j := 17) (n := 17) rfl rfl (by decide)]; rfl
  have hf : ∀ i, bop .fdiv (.int i) (.int many) = some (.int (i / many)) := fun i => bop_fdiv h0 h1
  by_cases hc : seed < many
  · -- which cell
    by_cases h2 : k < cells.length
    · obtain ⟨j, hj⟩ := at_cells k0 h2
      obtain ⟨r, fr, hr, hcall⟩ := spread_run hS n j k (penS cells (k + 1) seed) k0 (by omega)
      refine ⟨r % many, k + 1, r / many, ?_, Int.emod_nonneg _ (by omega), Int.emod_lt_of_pos _ h0, by omega, Int.le_refl _, Int.ediv_nonneg hr (by omega)⟩
      simp [x__law_take, hc, h2, hj, hcall, bop_mod, hf, h0, h1]
    · by_cases h3 : (0 : Int) < cells.length
      · obtain ⟨j, hj⟩ := at_cells (cells := cells) (i := (k * 5 + 3) % cells.length) (Int.emod_nonneg _ (by omega)) (Int.emod_lt_of_pos _ h3)
        obtain ⟨r, fr, hr, hcall⟩ := spread_run hS n (j % (100000000000000000 + k)) k (penS cells (k + 1) seed) k0 (by omega)
        have s5 : small64 5 = true := rfl
        refine ⟨r % many, k + 1, r / many, ?_, Int.emod_nonneg _ (by omega), Int.emod_lt_of_pos _ h0, by omega, Int.le_refl _, Int.ediv_nonneg hr (by omega)⟩
        have hm : (0 : Int) < 100000000000000000 + k := by omega
        have h3' : 0 < cells.length := by omega
        simp [x__law_take, hc, h2, h3, h3', hj, hcall, bop_mod, hf, bop_mul, e17, s5, hm, h0, h1]
      · obtain ⟨r, fr, hr, hcall⟩ := spread_run hS n 0 k (penS cells (k + 1) seed) k0 (by omega)
        refine ⟨r % many, k + 1, r / many, ?_, Int.emod_nonneg _ (by omega), Int.emod_lt_of_pos _ h0, by omega, Int.le_refl _, Int.ediv_nonneg hr (by omega)⟩
        have h3' : ¬ 0 < cells.length := by omega
        simp [x__law_take, hc, h2, h3, h3', hcall, bop_mod, hf, bop_mul, h0, h1]
  · refine ⟨seed % many, k, seed / many, ?_, Int.emod_nonneg _ (by omega), Int.emod_lt_of_pos _ h0, Int.le_refl _, by omega, Int.ediv_nonneg s0 (by omega)⟩
    simp [x__law_take, hc, bop_mod, hf, h0, h1]
end Pu

set_option linter.all false
set_option autoImplicit false
set_option maxRecDepth 100000
/-! Q3: the defs of law k03 (printed by pgen.py). -/
namespace Pu
def x_is_name_e0 : XE := (.cmp .isin (.v 1) (.c (.str [97, 98, 99, 100, 101, 102, 103, 104, 105, 106, 107, 108, 109, 110, 111, 112, 113, 114, 115, 116, 117, 118, 119, 120, 121, 122])))
@[simp] theorem esc_is_name_e0 : esc x_is_name_e0 = [] := rfl
@[simp] theorem bare_is_name_e0 : bare x_is_name_e0 = [] := rfl
def x_is_name : Dfn := ⟨1, 2, (.cons (.ret (.and (.blt .isStr (.cons (.v 0) .nil)) (.and (.cmp2 .le .le (.c (.int 1)) (.blt .len (.cons (.v 0) .nil)) (.c (.int 8))) (.blt .all (.cons (.lc x_is_name_e0 (.nm 1) (.seq (.v 0)) .none) .nil))))) .nil)⟩
def x_is_name_set_e0 : XE := (.call 0 (.cons (.v 1) .nil))
@[simp] theorem esc_is_name_set_e0 : esc x_is_name_set_e0 = [1] := rfl
@[simp] theorem bare_is_name_set_e0 : bare x_is_name_set_e0 = [] := rfl
def x_is_name_set : Dfn := ⟨1, 2, (.cons (.iff (.or (.not (.blt .isTuple (.cons (.v 0) .nil))) (.not (.cmp2 .le .le (.c (.int 1)) (.blt .len (.cons (.v 0) .nil)) (.c (.int 6))))) (.cons (.ret (.c (.bl false))) .nil) .nil) (.cons (.ret (.and (.blt .all (.cons (.lc x_is_name_set_e0 (.nm 1) (.seq (.v 0)) .none) .nil)) (.cmp .eq (.blt .list (.cons (.v 0) .nil)) (.blt .sortedSet (.cons (.v 0) .nil))))) .nil))⟩
def x_names_of_e0 : XE := (.v 2)
@[simp] theorem esc_names_of_e0 : esc x_names_of_e0 = [] := rfl
@[simp] theorem bare_names_of_e0 : bare x_names_of_e0 = [2] := rfl
def x_names_of : Dfn := ⟨1, 3, (.cons (.ret (.blt .sortedSet (.cons (.lc2 x_names_of_e0 (.nm 1) (.seq (.v 0)) (.nm 2) (.seq (.v 1))) .nil))) .nil)⟩
def x_is_family_e0 : XE := (.call 1 (.cons (.v 1) .nil))
@[simp] theorem esc_is_family_e0 : esc x_is_family_e0 = [1] := rfl
@[simp] theorem bare_is_family_e0 : bare x_is_family_e0 = [] := rfl
def x_is_family : Dfn := ⟨1, 2, (.cons (.iff (.or (.not (.blt .isTuple (.cons (.v 0) .nil))) (.not (.cmp2 .le .le (.c (.int 1)) (.blt .len (.cons (.v 0) .nil)) (.c (.int 6))))) (.cons (.ret (.c (.bl false))) .nil) .nil) (.cons (.ret (.and (.blt .all (.cons (.lc x_is_family_e0 (.nm 1) (.seq (.v 0)) .none) .nil)) (.cmp .le (.blt .len (.cons (.call 2 (.cons (.v 0) .nil)) .nil)) (.c (.int 8))))) .nil))⟩
def x_is_log_e0 : XE := (.call 0 (.cons (.v 1) .nil))
@[simp] theorem esc_is_log_e0 : esc x_is_log_e0 = [1] := rfl
@[simp] theorem bare_is_log_e0 : bare x_is_log_e0 = [] := rfl
def x_is_log : Dfn := ⟨1, 2, (.cons (.ret (.and (.blt .isTuple (.cons (.v 0) .nil)) (.and (.cmp .le (.blt .len (.cons (.v 0) .nil)) (.c (.int 120))) (.blt .all (.cons (.lc x_is_log_e0 (.nm 1) (.seq (.v 0)) .none) .nil))))) .nil)⟩
def x_is_view_e0 : XE := (.cmp .isin (.v 2) (.v 1))
@[simp] theorem esc_is_view_e0 : esc x_is_view_e0 = [] := rfl
@[simp] theorem bare_is_view_e0 : bare x_is_view_e0 = [] := rfl
def x_is_view : Dfn := ⟨2, 3, (.cons (.ret (.and (.blt .isTuple (.cons (.v 0) .nil)) (.and (.cmp .le (.blt .len (.cons (.v 0) .nil)) (.c (.int 20))) (.blt .all (.cons (.lc x_is_view_e0 (.nm 2) (.seq (.v 0)) .none) .nil))))) .nil)⟩
def x_family_of_e0 : XE := (.v 1)
@[simp] theorem esc_family_of_e0 : esc x_family_of_e0 = [] := rfl
@[simp] theorem bare_family_of_e0 : bare x_family_of_e0 = [1] := rfl
def x_family_of : Dfn := ⟨1, 3, (.cons (.ret (.blt .tuple (.cons (.lc x_family_of_e0 (.tp [(.nm 1), (.nm 2)]) (.seq (.v 0)) .none) .nil))) .nil)⟩
def x_is_case_e0 : XE := (.call 5 (.cons (.v 3) (.cons (.v 2) .nil)))
@[simp] theorem esc_is_case_e0 : esc x_is_case_e0 = [3, 2] := rfl
@[simp] theorem bare_is_case_e0 : bare x_is_case_e0 = [] := rfl
def x_is_case_e1 : XE := (.and (.blt .isTuple (.cons (.v 1) .nil)) (.cmp .eq (.blt .len (.cons (.v 1) .nil)) (.c (.int 2))))
@[simp] theorem esc_is_case_e1 : esc x_is_case_e1 = [] := rfl
@[simp] theorem bare_is_case_e1 : bare x_is_case_e1 = [] := rfl
def x_is_case : Dfn := ⟨1, 4, (.cons (.iff (.or (.not (.blt .isTuple (.cons (.v 0) .nil))) (.not (.blt .all (.cons (.lc x_is_case_e1 (.nm 1) (.seq (.v 0)) .none) .nil)))) (.cons (.ret (.c (.bl false))) .nil) .nil) (.cons (.ret (.and (.call 3 (.cons (.call 6 (.cons (.v 0) .nil)) .nil)) (.blt .all (.cons (.lc x_is_case_e0 (.tp [(.nm 2), (.nm 3)]) (.seq (.v 0)) .none) .nil)))) .nil))⟩
def x_require_names : Dfn := ⟨1, 1, (.cons (.iff (.not (.call 1 (.cons (.v 0) .nil))) (.cons (.raise 1) .nil) .nil) .nil)⟩
def x_require_log : Dfn := ⟨1, 1, (.cons (.iff (.not (.call 4 (.cons (.v 0) .nil))) (.cons (.raise 3) .nil) .nil) .nil)⟩
def x_require_case : Dfn := ⟨1, 1, (.cons (.iff (.not (.call 7 (.cons (.v 0) .nil))) (.cons (.raise 4) .nil) .nil) .nil)⟩
def x_restrict_log_e0 : XE := (.v 2)
@[simp] theorem esc_restrict_log_e0 : esc x_restrict_log_e0 = [] := rfl
@[simp] theorem bare_restrict_log_e0 : bare x_restrict_log_e0 = [2] := rfl
def x_restrict_log_e1 : XE := (.cmp .isin (.v 2) (.v 1))
@[simp] theorem esc_restrict_log_e1 : esc x_restrict_log_e1 = [] := rfl
@[simp] theorem bare_restrict_log_e1 : bare x_restrict_log_e1 = [] := rfl
def x_restrict_log : Dfn := ⟨2, 3, (.cons (.ret (.blt .tuple (.cons (.lc x_restrict_log_e0 (.nm 2) (.seq (.v 0)) (.some x_restrict_log_e1)) .nil))) .nil)⟩
def x_fits_case_e0 : XE := (.cmp .isin (.v 3) (.v 2))
@[simp] theorem esc_fits_case_e0 : esc x_fits_case_e0 = [] := rfl
@[simp] theorem bare_fits_case_e0 : bare x_fits_case_e0 = [] := rfl
def x_fits_case_e1 : XE := (.cmp .eq (.call 11 (.cons (.v 1) (.cons (.v 4) .nil))) (.v 5))
@[simp] theorem esc_fits_case_e1 : esc x_fits_case_e1 = [1, 4] := rfl
@[simp] theorem bare_fits_case_e1 : bare x_fits_case_e1 = [] := rfl
def x_fits_case : Dfn := ⟨2, 6, (.cons (.asg (.nm 2) (.call 2 (.cons (.call 6 (.cons (.v 0) .nil)) .nil))) (.cons (.ret (.and (.blt .all (.cons (.lc x_fits_case_e0 (.nm 3) (.seq (.v 1)) .none) .nil)) (.blt .all (.cons (.lc x_fits_case_e1 (.tp [(.nm 4), (.nm 5)]) (.seq (.v 0)) .none) .nil)))) .nil))⟩
def x_restrict : Dfn := ⟨2, 2, (.cons (.ex (.call 9 (.cons (.v 0) .nil))) (.cons (.ex (.call 8 (.cons (.v 1) .nil))) (.cons (.ret (.call 11 (.cons (.v 0) (.cons (.v 1) .nil)))) .nil)))⟩
def x_fits : Dfn := ⟨2, 2, (.cons (.ex (.call 10 (.cons (.v 0) .nil))) (.cons (.ex (.call 9 (.cons (.v 1) .nil))) (.cons (.ret (.call 12 (.cons (.v 0) (.cons (.v 1) .nil)))) .nil)))⟩
def x__law_open_b0 : XB := (.cons (.setIx 1 (.bin .mod (.v 2) (.c (.int 12))) (.bin .add (.idx (.v 1) (.bin .mod (.v 2) (.c (.int 12)))) (.v 3))) .nil)
def x__law_open : Dfn := ⟨1, 4, (.cons (.asgP 1 (.blt .list (.cons (.sl (.v 0) .none (.some (.c (.int 12)))) .nil))) (.cons (.for (.tp [(.nm 2), (.nm 3)]) (.enum (.sl (.v 0) (.some (.c (.int 12))) (.some (.c (.int 63))))) x__law_open_b0 [2, 3]) (.cons (.ret (.lst (.cons (.v 1) (.cons (.c (.int 0)) (.cons (.c (.int 0)) .nil))))) .nil)))⟩
def x__law_drawn_b0 : XB := (.cons (.chg .insert 2 (.cons (.call 18 (.cons (.v 0) (.cons (.bin .add (.v 3) (.c (.int 1))) .nil))) (.cons (.v 3) .nil))) .nil)
def x__law_drawn : Dfn := ⟨2, 4, (.cons (.asg (.nm 2) (.lst .nil)) (.cons (.for (.nm 3) (.rng (.v 1)) x__law_drawn_b0 [3]) (.cons (.ret (.v 2)) .nil)))⟩
def x__law_pool_b0 : XB := (.cons (.iff (.and (.cmp .notin (.idx (.v 2) (.v 4)) (.v 3)) (.cmp .lt (.blt .len (.cons (.v 3) .nil)) (.v 1))) (.cons (.chg .append 3 (.cons (.idx (.v 2) (.v 4)) .nil)) .nil) .nil) .nil)
def x__law_pool : Dfn := ⟨2, 5, (.cons (.asg (.nm 2) (.lst (.cons (.c (.str [97])) (.cons (.c (.str [98])) (.cons (.c (.str [99])) (.cons (.c (.str [100])) (.cons (.c (.str [97, 97])) (.cons (.c (.str [97, 98])) (.cons (.c (.str [98, 97])) (.cons (.c (.str [122, 101, 98, 114, 97])) (.cons (.c (.str [113])) (.cons (.c (.str [97, 98, 99, 100, 101, 102, 103, 104])) (.cons (.c (.str [120])) (.cons (.c (.str [121, 101, 115])) (.cons (.c (.str [98])) (.cons (.c (.str [122])) .nil)))))))))))))))) (.cons (.asg (.nm 3) (.lst .nil)) (.cons (.for (.nm 4) (.seq (.call 20 (.cons (.v 0) (.cons (.blt .len (.cons (.v 2) .nil)) .nil)))) x__law_pool_b0 [4]) (.cons (.ret (.v 3)) .nil))))⟩
def x__law_family_e0 : XE := (.call 19 (.cons (.v 0) (.cons (.v 4) .nil)))
@[simp] theorem esc__law_family_e0 : esc x__law_family_e0 = [0, 4] := rfl
@[simp] theorem bare__law_family_e0 : bare x__law_family_e0 = [] := rfl
def x__law_family_b1 : XB := (.cons (.asg (.nm 7) (.lc x__law_family_e0 (.nm 8) (.rng (.bin .add (.c (.int 1)) (.call 18 (.cons (.v 0) (.cons (.v 3) .nil))))) .none)) (.cons (.chg .append 5 (.cons (.blt .tuple (.cons (.blt .sortedSet (.cons (.v 7) .nil)) .nil)) .nil)) .nil))
def x__law_family : Dfn := ⟨4, 9, (.cons (.asg (.nm 4) (.call 21 (.cons (.v 0) (.cons (.bin .add (.c (.int 1)) (.call 18 (.cons (.v 0) (.cons (.v 2) .nil)))) .nil)))) (.cons (.asg (.nm 5) (.lst .nil)) (.cons (.for (.nm 6) (.rng (.bin .add (.c (.int 1)) (.call 18 (.cons (.v 0) (.cons (.v 1) .nil))))) x__law_family_b1 [6, 7, 8]) (.cons (.ret (.blt .tuple (.cons (.v 5) .nil))) .nil))))⟩
def x__law_names_e0 : XE := (.v 3)
@[simp] theorem esc__law_names_e0 : esc x__law_names_e0 = [] := rfl
@[simp] theorem bare__law_names_e0 : bare x__law_names_e0 = [3] := rfl
def x__law_names_e1 : XE := (.cmp .notin (.v 3) (.v 1))
@[simp] theorem esc__law_names_e1 : esc x__law_names_e1 = [] := rfl
@[simp] theorem bare__law_names_e1 : bare x__law_names_e1 = [] := rfl
def x__law_names_b2 : XB := (.cons (.asg (.nm 1) (.bin .add (.v 1) (.lc x__law_names_e0 (.nm 3) (.seq (.v 2)) (.some x__law_names_e1)))) .nil)
def x__law_names : Dfn := ⟨1, 4, (.cons (.asg (.nm 1) (.lst .nil)) (.cons (.for (.nm 2) (.seq (.v 0)) x__law_names_b2 [2, 3]) (.cons (.ret (.blt .sorted (.cons (.v 1) .nil))) .nil)))⟩
def x__law_row_e0 : XE := (.call 19 (.cons (.v 0) (.cons (.v 1) .nil)))
@[simp] theorem esc__law_row_e0 : esc x__law_row_e0 = [0, 1] := rfl
@[simp] theorem bare__law_row_e0 : bare x__law_row_e0 = [] := rfl
def x__law_row : Dfn := ⟨3, 4, (.cons (.ret (.blt .tuple (.cons (.lc x__law_row_e0 (.nm 3) (.rng (.v 2)) .none) .nil))) .nil)⟩
def x__law_seen_e0 : XE := (.v 2)
@[simp] theorem esc__law_seen_e0 : esc x__law_seen_e0 = [] := rfl
@[simp] theorem bare__law_seen_e0 : bare x__law_seen_e0 = [2] := rfl
def x__law_seen_e1 : XE := (.cmp .isin (.v 2) (.v 0))
@[simp] theorem esc__law_seen_e1 : esc x__law_seen_e1 = [] := rfl
@[simp] theorem bare__law_seen_e1 : bare x__law_seen_e1 = [] := rfl
def x__law_seen : Dfn := ⟨2, 3, (.cons (.ret (.blt .tuple (.cons (.lc x__law_seen_e0 (.nm 2) (.seq (.v 1)) (.some x__law_seen_e1)) .nil))) .nil)⟩
def x__law_case_b0 : XB := (.cons (.asg (.nm 6) (.call 18 (.cons (.v 0) (.cons (.blt .len (.cons (.v 1) .nil)) .nil)))) (.cons (.par [9, 10] (.cons (.idx (.v 4) (.v 6)) (.cons (.call 18 (.cons (.v 0) (.cons (.c (.int 5)) .nil))) .nil))) (.cons (.asg (.nm 7) (.call 18 (.cons (.v 0) (.cons (.bin .add (.blt .len (.cons (.v 9) .nil)) (.c (.int 1))) .nil)))) (.cons (.iff (.and (.cmp .lt (.v 10) (.c (.int 3))) (.cmp .lt (.bin .add (.v 7) (.c (.int 1))) (.blt .len (.cons (.v 9) .nil)))) (.cons (.setIx 4 (.v 6) (.bin .add (.bin .add (.sl (.v 9) .none (.some (.v 7))) (.tup (.cons (.idx (.v 9) (.bin .add (.v 7) (.c (.int 1)))) (.cons (.idx (.v 9) (.v 7)) .nil)))) (.sl (.v 9) (.some (.bin .add (.v 7) (.c (.int 2)))) .none))) .nil) (.cons (.iff (.cmp .eq (.v 10) (.c (.int 3))) (.cons (.setIx 4 (.v 6) (.bin .add (.sl (.v 9) .none (.some (.v 7))) (.sl (.v 9) (.some (.bin .add (.v 7) (.c (.int 1)))) .none))) .nil) (.cons (.iff (.cmp .eq (.v 10) (.c (.int 4))) (.cons (.setIx 4 (.v 6) (.sl (.bin .add (.bin .add (.sl (.v 9) .none (.some (.v 7))) (.tup (.cons (.call 19 (.cons (.v 0) (.cons (.idx (.v 1) (.v 6)) .nil))) .nil))) (.sl (.v 9) (.some (.v 7)) .none)) .none (.some (.c (.int 20))))) .nil) .nil) .nil)) .nil)) .nil))))
def x__law_case_e1 : XE := (.sl (.call 25 (.cons (.v 8) (.cons (.v 3) .nil))) .none (.some (.c (.int 20))))
@[simp] theorem esc__law_case_e1 : esc x__law_case_e1 = [8, 3] := rfl
@[simp] theorem bare__law_case_e1 : bare x__law_case_e1 = [] := rfl
def x__law_case : Dfn := ⟨3, 11, (.cons (.asg (.nm 3) (.call 24 (.cons (.v 0) (.cons (.call 23 (.cons (.v 1) .nil)) (.cons (.call 18 (.cons (.v 0) (.cons (.bin .add (.v 2) (.c (.int 1))) .nil))) .nil))))) (.cons (.asg (.nm 4) (.lc x__law_case_e1 (.nm 8) (.seq (.v 1)) .none)) (.cons (.for (.nm 5) (.rng (.call 19 (.cons (.v 0) (.cons (.lst (.cons (.c (.int 0)) (.cons (.c (.int 1)) (.cons (.c (.int 1)) (.cons (.c (.int 2)) (.cons (.c (.int 4)) .nil)))))) .nil)))) x__law_case_b0 [5, 6, 7, 9, 10]) (.cons (.ret (.blt .tuple (.cons (.blt .listZip (.cons (.v 1) (.cons (.v 4) .nil))) .nil))) .nil))))⟩
def x__law_refusal : Dfn := ⟨1, 3, (.cons (.asg (.nm 1) (.lst (.cons (.isx 1 (.v 0)) (.cons (.isx 2 (.v 0)) (.cons (.isx 3 (.v 0)) .nil))))) (.cons (.asg (.nm 1) (.bin .add (.v 1) (.lst (.cons (.isx 4 (.v 0)) (.cons (.isx 5 (.v 0)) (.cons (.isx 6 (.v 0)) .nil)))))) (.cons (.asg (.nm 1) (.bin .add (.v 1) (.lst (.cons (.isx 7 (.v 0)) (.cons (.isx 8 (.v 0)) .nil))))) (.cons (.asg (.nm 1) (.bin .add (.v 1) (.lst (.cons (.isx 9 (.v 0)) (.cons (.isx 10 (.v 0)) .nil))))) (.cons (.asg (.nm 1) (.bin .add (.v 1) (.lst (.cons (.isx 11 (.v 0)) (.cons (.isx 12 (.v 0)) (.cons (.isx 13 (.v 0)) .nil)))))) (.cons (.asg (.nm 1) (.bin .add (.v 1) (.lst (.cons (.isx 14 (.v 0)) (.cons (.isx 15 (.v 0)) .nil))))) (.cons (.asg (.nm 1) (.bin .add (.v 1) (.lst (.cons (.isx 16 (.v 0)) (.cons (.isx 17 (.v 0)) (.cons (.isx 18 (.v 0)) .nil)))))) (.cons (.chg .append 1 (.cons (.isx 19 (.v 0)) .nil)) (.cons (.iff (.or (.cmp .ne (.mth .count (.v 1) (.cons (.c (.bl true)) .nil)) (.c (.int 1))) (.or (.not (.isx 0 (.v 0))) (.not (.isx 1000 (.v 0))))) (.cons (.ret (.c (.str [109, 111, 114, 101]))) .nil) .nil) (.cons (.asg (.nm 2) (.lst (.cons (.c (.str [110, 97, 109, 101, 115])) (.cons (.c (.str [102, 97, 109, 105, 108, 121])) (.cons (.c (.str [108, 111, 103])) (.cons (.c (.str [99, 97, 115, 101])) (.cons (.c (.str [110, 117, 109, 98, 101, 114])) (.cons (.c (.str [114, 105, 110, 103])) (.cons (.c (.str [99, 111, 117, 110, 116])) (.cons (.c (.str [105, 109, 112, 111, 115, 115, 105, 98, 108, 101])) (.cons (.c (.str [99, 101, 114, 116, 97, 105, 110])) (.cons (.c (.str [99, 111, 110, 116, 114, 97, 100, 105, 99, 116, 105, 111, 110])) .nil)))))))))))) (.cons (.asg (.nm 2) (.bin .add (.v 2) (.lst (.cons (.c (.str [110, 111, 116, 104, 105, 110, 103])) (.cons (.c (.str [108, 111, 110, 103])) (.cons (.c (.str [109, 97, 110, 121])) (.cons (.c (.str [99, 101, 114, 116, 105, 102, 105, 99, 97, 116, 101])) (.cons (.c (.str [101, 118, 101, 110, 116])) (.cons (.c (.str [111, 98, 115, 101, 114, 118, 101, 114])) (.cons (.c (.str [110, 111, 116, 32, 115, 101, 101, 110])) (.cons (.c (.str [102, 117, 108, 108])) (.cons (.c (.str [109, 97, 114, 107])) .nil)))))))))))) (.cons (.ret (.idx (.v 2) (.mth .index (.v 1) (.cons (.c (.bl true)) .nil)))) .nil))))))))))))⟩
def x__law_told : Dfn := ⟨3, 7, (.cons (.asg (.tp [(.nm 5), (.nm 6)]) (.tup (.cons (.c .non) (.cons (.c .non) .nil)))) (.cons (.asg (.nm 3) (.blt .repr (.cons (.tup (.cons (.v 1) (.cons (.v 2) .nil))) .nil))) (.cons (.tryAs (.cons (.asg (.nm 6) (.ite (.cmp .eq (.v 0) (.c (.int 0))) (.call 13 (.cons (.v 1) (.cons (.v 2) .nil))) (.call 14 (.cons (.v 1) (.cons (.v 2) .nil))))) .nil) 0 4 5) (.cons (.iff (.cmp .ne (.blt .repr (.cons (.tup (.cons (.v 1) (.cons (.v 2) .nil))) .nil)) (.v 3)) (.cons (.ret (.c (.str [99, 104, 97, 110, 103, 101, 100]))) .nil) .nil) (.cons (.ret (.ite (.cmp .is (.v 5) (.c .non)) (.lst (.cons (.c (.str [116, 111, 108, 100])) (.cons (.v 6) .nil))) (.call 27 (.cons (.v 5) .nil)))) .nil)))))⟩
def x_law_e0 : XE := (.call 28 (.cons (.c (.int 1)) (.cons (.v 4) (.cons (.v 14) .nil))))
@[simp] theorem esc_law_e0 : esc x_law_e0 = [4, 14] := rfl
@[simp] theorem bare_law_e0 : bare x_law_e0 = [] := rfl
def x_law_e1 : XE := (.tup (.cons (.tup (.cons (.v 15) .nil)) (.cons (.bin .mul (.tup (.cons (.v 15) .nil)) (.c (.int 20))) .nil)))
@[simp] theorem esc_law_e1 : esc x_law_e1 = [15, 15] := rfl
@[simp] theorem bare_law_e1 : bare x_law_e1 = [] := rfl
def x_law_b2 : XB := (.cons (.asg (.nm 7) (.call 22 (.cons (.call 17 (.cons (.v 1) .nil)) (.cons (.c (.int 4)) (.cons (.c (.int 6)) (.cons (.c (.int 4)) .nil)))))) (.cons (.par [12, 13] (.cons (.call 26 (.cons (.v 1) (.cons (.v 7) (.cons (.c (.int 10)) .nil)))) (.cons (.call 19 (.cons (.v 1) (.cons (.v 7) .nil))) .nil))) (.cons (.asg (.nm 5) (.call 24 (.cons (.v 1) (.cons (.v 13) (.cons (.call 18 (.cons (.v 1) (.cons (.c (.int 8)) .nil))) .nil))))) (.cons (.asg (.nm 8) (.call 19 (.cons (.v 1) (.cons (.lst (.cons (.tup (.cons (.lst (.cons (.c (.str [97])) .nil)) .nil)) (.cons (.blt .list (.cons (.v 5) .nil)) (.cons (.bin .mul (.tup (.cons (.c (.str [97])) .nil)) (.c (.int 121))) (.cons (.tup (.cons (.c (.str [65])) .nil)) (.cons (.tup (.cons (.c (.str [97])) (.cons (.c .non) .nil))) (.cons (.c (.str [97, 98])) (.cons (.tup (.cons (.tup (.cons (.c (.str [97])) .nil)) .nil)) (.cons (.c (.int 3)) (.cons (.lst (.cons (.c (.str [97])) .nil)) (.cons (.c (.bl true)) .nil))))))))))) .nil)))) (.cons (.asg (.nm 9) (.call 19 (.cons (.v 1) (.cons (.lst (.cons (.tup (.cons (.lst (.cons (.c (.str [97])) .nil)) .nil)) (.cons (.tup .nil) (.cons (.blt .list (.cons (.v 13) .nil)) (.cons (.bin .add (.v 13) (.v 13)) (.cons (.tup (.cons (.c (.str [98])) (.cons (.c (.str [97])) .nil))) (.cons (.c (.str [97])) (.cons (.tup (.cons (.c (.str [65])) .nil)) (.cons (.tup (.cons (.c .non) .nil)) (.cons (.lst (.cons (.c (.str [97])) .nil)) (.cons (.c (.int 3)) .nil))))))))))) .nil)))) (.cons (.asg (.nm 10) (.tup (.cons (.tup (.cons (.v 13) (.cons (.tup (.cons (.lst (.cons (.c (.str [97])) .nil)) .nil)) .nil))) .nil))) (.cons (.asg (.nm 11) (.call 19 (.cons (.v 1) (.cons (.lst (.cons (.v 10) (.cons (.tup .nil) (.cons (.blt .list (.cons (.v 12) .nil)) (.cons (.idx (.v 12) (.c (.int 0))) (.cons (.tup (.cons (.tup (.cons (.v 13) (.cons (.tup (.cons (.c (.str [111, 116, 104, 101, 114])) .nil)) .nil))) .nil)) (.cons (.tup (.cons (.tup (.cons (.v 13) .nil)) .nil)) (.cons (.v 7) (.cons (.c (.int 3)) (.cons (.c (.bl true)) .nil)))))))))) .nil)))) (.cons (.asg (.nm 6) (.lst (.cons (.call 28 (.cons (.c (.int 0)) (.cons (.v 8) (.cons (.v 13) .nil)))) (.cons (.call 28 (.cons (.c (.int 0)) (.cons (.v 8) (.cons (.v 9) .nil)))) (.cons (.call 28 (.cons (.c (.int 0)) (.cons (.v 5) (.cons (.v 9) .nil)))) .nil))))) (.cons (.iff (.or (.cmp .ne (.v 6) (.lst (.cons (.c (.str [108, 111, 103])) (.cons (.c (.str [108, 111, 103])) (.cons (.c (.str [110, 97, 109, 101, 115])) .nil))))) (.cmp .ne (.idx (.call 28 (.cons (.c (.int 0)) (.cons (.v 5) (.cons (.v 13) .nil)))) (.c (.int 0))) (.c (.str [116, 111, 108, 100])))) (.cons (.ret (.c (.bl false))) .nil) .nil) (.cons (.asg (.nm 6) (.lst (.cons (.call 28 (.cons (.c (.int 1)) (.cons (.v 11) (.cons (.v 5) .nil)))) (.cons (.call 28 (.cons (.c (.int 1)) (.cons (.v 11) (.cons (.v 8) .nil)))) (.cons (.call 28 (.cons (.c (.int 1)) (.cons (.v 12) (.cons (.v 8) .nil)))) .nil))))) (.cons (.iff (.or (.cmp .ne (.v 6) (.lst (.cons (.c (.str [99, 97, 115, 101])) (.cons (.c (.str [99, 97, 115, 101])) (.cons (.c (.str [108, 111, 103])) .nil))))) (.cmp .ne (.idx (.call 28 (.cons (.c (.int 1)) (.cons (.v 12) (.cons (.v 5) .nil)))) (.c (.int 0))) (.c (.str [116, 111, 108, 100])))) (.cons (.ret (.c (.bl false))) .nil) .nil) .nil)))))))))))
def x_law : Dfn := ⟨1, 16, (.cons (.asgP 1 (.call 16 (.cons (.v 0) .nil))) (.cons (.for (.nm 2) (.rng (.c (.int 6))) x_law_b2 [2, 7, 8, 9, 10, 11, 12, 13]) (.cons (.asg (.nm 3) (.lst (.cons (.call 28 (.cons (.c (.int 0)) (.cons (.bin .mul (.tup (.cons (.c (.str [97])) .nil)) (.c (.int 120))) (.cons (.tup (.cons (.c (.str [97])) (.cons (.c (.str [98])) .nil))) .nil)))) (.cons (.call 28 (.cons (.c (.int 1)) (.cons (.tup (.cons (.tup (.cons (.tup (.cons (.c (.str [97])) .nil)) (.cons (.tup .nil) .nil))) .nil)) (.cons (.bin .mul (.tup (.cons (.c (.str [98])) .nil)) (.c (.int 120))) .nil)))) .nil)))) (.cons (.iff (.cmp .ne (.v 3) (.lst (.cons (.lst (.cons (.c (.str [116, 111, 108, 100])) (.cons (.bin .mul (.tup (.cons (.c (.str [97])) .nil)) (.c (.int 120))) .nil))) (.cons (.lst (.cons (.c (.str [116, 111, 108, 100])) (.cons (.c (.bl false)) .nil))) .nil)))) (.cons (.ret (.c (.bl false))) .nil) .nil) (.cons (.asg (.nm 4) (.blt .tuple (.cons (.lc x_law_e1 (.nm 15) (.seq (.c (.str [97, 98, 99, 100, 101, 102]))) .none) .nil))) (.cons (.asg (.nm 5) (.blt .tuple (.cons (.bin .mul (.c (.str [97, 98, 99, 100, 101, 102])) (.c (.int 20))) .nil))) (.cons (.asg (.nm 6) (.lc x_law_e0 (.nm 14) (.seq (.lst (.cons (.v 5) (.cons (.rev (.v 5)) (.cons (.sl (.v 5) (.some (.c (.int 1))) .none) (.cons (.bin .add (.v 5) (.tup (.cons (.c (.str [97])) .nil))) (.cons (.bin .add (.tup (.cons (.c (.str [97])) .nil)) (.sl (.v 5) .none (.some (.neg (.c (.int 1)))))) .nil))))))) .none)) (.cons (.ret (.cmp .eq (.v 6) (.lst (.cons (.lst (.cons (.c (.str [116, 111, 108, 100])) (.cons (.c (.bl true)) .nil))) (.cons (.lst (.cons (.c (.str [116, 111, 108, 100])) (.cons (.c (.bl true)) .nil))) (.cons (.lst (.cons (.c (.str [116, 111, 108, 100])) (.cons (.c (.bl false)) .nil))) (.cons (.c (.str [108, 111, 103])) (.cons (.lst (.cons (.c (.str [116, 111, 108, 100])) (.cons (.c (.bl false)) .nil))) .nil)))))))) .nil))))))))⟩
end Pu

set_option linter.all false
set_option autoImplicit false
set_option maxRecDepth 100000
set_option maxHeartbeats 4000000
/-! Q4: loops; what the laws draw. -/
namespace Pu
/-! ### loops -/
@[simp] theorem kill_nx (ks : List Nat) (σ : Env) (w : Own) (s : St) : kill ks (some (.nx σ w, s)) = some (.nx (wipeE σ ks) (rel w ks), s) := id rfl
@[simp] theorem kill_ct (ks : List Nat) (σ : Env) (w : Own) (s : St) : kill ks (some (.ct σ w, s)) = some (.ct (wipeE σ ks) (rel w ks), s) := id rfl
@[simp] theorem kill_bk (ks : List Nat) (σ : Env) (w : Own) (s : St) : kill ks (some (.bk σ w, s)) = some (.bk σ w, s) := id rfl
@[simp] theorem kill_rt (ks : List Nat) (v : PV) (fr : Bool) (s : St) : kill ks (some (.rt v fr, s)) = some (.rt v fr, s) := id rfl
@[simp] theorem kill_ex (ks : List Nat) (c : Nat) (fs : List PV) (σ : Env) (w : Own) (s : St) : kill ks (some (.ex c fs σ w, s)) = some (.ex c fs σ w, s) := id rfl
theorem forTurn_nm (i : Nat) (ks : List Nat) (run : Env → Own → St → Option (Out × St)) (v : PV) (σ : Env) (w : Own) (s : St) : forTurn (.nm i) ks run v σ w s = kill ks (run (σ.set i (some v)) (rel w [i]) s) := by
  unfold forTurn
  simp
theorem lcTurn_nm (i : Nat) (σw : Env) (runT : Env → St → Rz Bool) (runE : Env → St → Rz PV) (v : PV) (s : St) : lcTurn (.nm i) σw runT runE v s = (runT (σw.set i (some v)) s).bind fun b s => if b then (runE (σw.set i (some v)) s).bind fun x s => .ok [x] s else .ok [] s := by
  unfold lcTurn
  simp
/-- a loop that runs to its end -/
theorem forP_inv' {step : PV → Env → Own → St → Option (Out × St)} (I : Nat → Env → Own → St → Prop) : ∀ (xs : List PV) (i : Nat) (σ : Env) (w : Own) (s : St), I i σ w s →
    (∀ j v σ w s, j < i + xs.length → v ∈ xs → I j σ w s → ∃ σ' w' s', (step v σ w s = some (.nx σ' w', s') ∨ step v σ w s = some (.ct σ' w', s')) ∧ I (j + 1) σ' w' s') → ∃ σ' w' s', forP step xs σ w s = some (.nx σ' w', s') ∧ I (i + xs.length) σ' w' s'
  | [], i, σ, w, s, h, _ => ⟨σ, w, s, rfl, h⟩
  | x :: xs, i, σ, w, s, h, k => by
    obtain ⟨σ1, w1, s1, h1, h2⟩ := k i x σ w s (by rw [List.length_cons]; omega) List.mem_cons_self h
    obtain ⟨σ2, w2, s2, h3, h4⟩ := forP_inv' I xs (i + 1) σ1 w1 s1 h2 fun j v σ w s l m => k j v σ w s (by rw [List.length_cons]; omega) (List.mem_cons_of_mem _ m)
    refine ⟨σ2, w2, s2, ?_, by rw [List.length_cons, show i + (xs.length + 1) = i + 1 + xs.length by omega]; exact h4⟩
    unfold forP
    rcases h1 with h1 | h1 <;> rw [h1] <;> exact h3
theorem forP_inv {step : PV → Env → Own → St → Option (Out × St)} (I : Nat → Env → Own → St → Prop) {xs : List PV} {σ : Env} {w : Own} {s : St} (h : I 0 σ w s)
    (k : ∀ j v σ w s, j < xs.length → v ∈ xs → I j σ w s → ∃ σ' w' s', (step v σ w s = some (.nx σ' w', s') ∨ step v σ w s = some (.ct σ' w', s')) ∧ I (j + 1) σ' w' s') : ∃ σ' w' s', forP step xs σ w s = some (.nx σ' w', s') ∧ I xs.length σ' w' s' := by
  obtain ⟨a, b, c, d, e⟩ := forP_inv' I xs 0 σ w s h fun j v σ w s l => k j v σ w s (by omega)
  exact ⟨a, b, c, d, by rw [Nat.zero_add] at e; exact e⟩
/-- a comprehension that reads alone -/
theorem lcP_pure {turn : PV → St → Rz (List PV)} {s : St} (g : PV → List PV) : ∀ (xs acc : List PV), (∀ v ∈ xs, turn v s = .ok (g v) s) → lcP turn xs acc s = .ok (acc ++ (xs.map g).flatten) s
  | [], acc, _ => by unfold lcP; simp
  | x :: xs, acc, h => by
    unfold lcP
    rw [h x List.mem_cons_self]
    simp [lcP_pure g xs (acc ++ g x) fun v m => h v (List.mem_cons_of_mem _ m), List.append_assoc]
/-- the pen, read at most b times -/
def PS (b : Nat) (s : St) : Prop := ∃ cells k seed, s = penS cells k seed ∧ 0 ≤ k ∧ k ≤ (b : Int) ∧ 0 ≤ seed
theorem PS.mono {b c : Nat} {s : St} (h : PS b s) (l : b ≤ c) : PS c s := by
  obtain ⟨cells, k, seed, e, h0, h1, h2⟩ := h
  exact ⟨cells, k, seed, e, h0, by omega, h2⟩
/-- a comprehension that draws -/
theorem lcP_pen {B : Nat} {turn : PV → St → Rz (List PV)} (P : PV → Prop) (c : Nat) : ∀ (xs acc : List PV) (b : Nat) (s : St), PS b s → b + c * xs.length ≤ B →
    (∀ v b s, v ∈ xs → PS b s → b + c ≤ B → ∃ y s', turn v s = .ok [y] s' ∧ PS (b + c) s' ∧ P y) → ∃ ys s', lcP turn xs acc s = .ok (acc ++ ys) s' ∧ PS (b + c * xs.length) s' ∧ (∀ y ∈ ys, P y) ∧ ys.length = xs.length
  | [], acc, b, s, h, _, _ => ⟨[], s, by unfold lcP; simp, by simpa using h, by simp, rfl⟩
  | x :: xs, acc, b, s, h, l, k => by
    rw [List.length_cons, Nat.mul_add, Nat.mul_one] at l
    obtain ⟨y, s1, h1, h2, h3⟩ := k x b s List.mem_cons_self h (by omega)
    obtain ⟨ys, s2, h4, h5, h6, h7⟩ := lcP_pen P c xs (acc ++ [y]) (b + c) s1 h2 (by omega) fun v b s m => k v b s (List.mem_cons_of_mem _ m)
    refine ⟨y :: ys, s2, ?_, h5.mono (by rw [List.length_cons, Nat.mul_add, Nat.mul_one]; omega), fun z hz => ?_, by rw [List.length_cons, List.length_cons, h7]⟩
    · unfold lcP
      rw [h1]
      simp [h4]
    · rcases List.mem_cons.mp hz with e | hz
      · rw [e]; exact h3
      · exact h6 z hz
/-! ### one statement after another -/
section
variable {C : Nat → List PV → St → Rz (PV × Bool)} {σ σ2 : Env} {w w2 : Own} {s s1 s2 : St} {e : XE} {r : PV × Bool} {b body : XB} {i : Nat}
theorem pB_asg (h : pX C e σ s = .ok r s1) : pB C (.cons (.asg (.nm i) e) b) σ w s = pB C b (σ.set i (some r.1)) (own1 (rel w (esc e ++ bare e)) i r) s1 := by
  rw [pB_cons, pS_asg, h]
  rfl
theorem pB_for {tg : TgE} {it : XI} {ks : List Nat} {xs : List PV} (h : pI C it σ s = .ok xs s1) (hf : forP (forTurn tg ks (fun σ w s => pB C body σ w s)) xs σ (rel w (escI it ++ bareI it)) s1 = some (.nx σ2 w2, s2)) :
    pB C (.cons (.for tg it body ks) b) σ w s = pB C b σ2 w2 s2 := by
  rw [pB_cons, pS_for, h]
  show (match forP _ xs σ _ s1 with | some (.nx σ' w', s') => pB C b σ' w' s' | some (.rt v fr, s') => some (.rt v fr, s') | some (.bk σ' w', s') => some (.bk σ' w', s') | some (.ct σ' w', s') => some (.ct σ' w', s') | some (.ex c fs σ' w', s') => some (.ex c fs σ' w', s') | none => none) = _
  rw [hf]
theorem pB_ret (h : pX C e σ s = .ok r s1) : pB C (.cons (.ret e) b) σ w s = some (.rt r.1 (r.2 || ownV w e), s1) := by
  rw [pB_cons, pS_ret, h]
  rfl
end
structure HasPen (D : List (Nat × Dfn)) : Prop where
  d15 : D.lookup 15 = some x__law_spread
  d17 : D.lookup 17 = some x__law_anew
  d18 : D.lookup 18 = some x__law_take
  d19 : D.lookup 19 = some x__law_one
section
variable {D : List (Nat × Dfn)}
theorem take_ps (h : HasPen D) (n : Nat) {b : Nat} {s : St} {many : Int} (hs : PS b s) (hb : b < 4000000000) (h0 : 0 < many) (h1 : many < 2 ^ 62) : ∃ (r : Int) (s' : St), runD D (n + 2) 18 [.ref 1, .int many] s = .ok (.int r, false) s' ∧ PS (b + 1) s' ∧ 0 ≤ r ∧ r < many := by
  obtain ⟨cells, k, seed, rfl, k0, k1, s0⟩ := hs
  obtain ⟨r, k', seed', e, r0, r1, q0, q1, q2⟩ := take_run h.d18 h.d15 n cells k seed many k0 (by omega) s0 h0 h1
  exact ⟨r, _, e, ⟨cells, k', seed', rfl, by omega, by omega, q2⟩, r0, r1⟩
theorem at_mem {xs : List PV} {r : Int} (h0 : 0 ≤ r) (h1 : r < xs.length) : ∃ v, at? xs r = some v ∧ v ∈ xs := by
  unfold at? ixE
  rw [if_pos h0, if_pos h1]
  have l : r.toNat < xs.length := by omega
  exact ⟨xs[r.toNat], List.getElem?_eq_getElem l, List.getElem_mem l⟩
/-- one of a tuple, of a list -/
theorem one_ps (h : HasPen D) (n : Nat) {b : Nat} {s : St} {o : PV} {xs : List PV} (ho : o = .tup xs ∨ o = .lv xs) (hs : PS b s) (hb : b < 4000000000) (hl : xs ≠ []) (hz : xs.length < 2 ^ 62) : ∃ v s', runD D (n + 3) 19 [.ref 1, o] s = .ok (v, false) s' ∧ PS (b + 1) s' ∧ v ∈ xs := by
  have l0 : 0 < xs.length := List.length_pos_iff.mpr hl
  obtain ⟨r, s', e, ps, r0, r1⟩ := take_ps h n (many := xs.length) hs hb (by omega) (by omega)
  obtain ⟨v, hv, m⟩ := at_mem r0 r1
  refine ⟨v, s', ?_, ps, m⟩
  rw [run_def h.d19 _ _ _ rfl]
  rcases ho with rfl | rfl <;> simp [x__law_one, e, hv]
theorem anew_ps (h : HasPen D) (n : Nat) {b : Nat} {s : St} (hs : PS b s) : ∃ s', runD D (n + 1) 17 [.ref 1] s = .ok (.ref 1, false) s' ∧ PS b s' := by
  obtain ⟨cells, k, seed, rfl, k0, k1, s0⟩ := hs
  exact ⟨_, anew_run h.d17 n cells k seed, cells, k, 0, rfl, k0, k1, Int.le_refl _⟩
theorem range_mem {a b : Int} {v : PV} (h : v ∈ rangeV a b) : ∃ i : Int, v = .int i ∧ a ≤ i ∧ i < b := by
  unfold rangeV at h
  obtain ⟨k, hk, e⟩ := List.mem_map.mp h
  have := List.mem_range.mp hk
  exact ⟨a + k, e.symm, by omega, by omega⟩
theorem range_len (a b : Int) : (rangeV a b).length = (b - a).toNat := by unfold rangeV; simp
theorem intOk_of {i : Int} (h0 : 0 ≤ i) (h1 : i < 2 ^ 62) : intOk i = true := by
  unfold intOk
  exact decide_eq_true ⟨by omega, h1⟩
theorem cIns_ok {ys : List PV} {r : Int} {v : PV} (hl : ys.length < line) (h0 : 0 ≤ r) (h1 : r < 2 ^ 63) : chg .insert ys [.int r, v] = some (.non, ys.take r.toNat ++ [v] ++ ys.drop r.toNat) := if_pos ⟨hl, h0, h1⟩
theorem cApp_ok {ys : List PV} {v : PV} (hl : ys.length < line) : chg .append ys [v] = some (.non, ys ++ [v]) := if_pos hl
theorem drawn_ps (h : HasPen D) (hd : D.lookup 20 = some x__law_drawn) (n : Nat) {b : Nat} {s : St} {m : Nat} (hs : PS b s) (hm : m ≤ 1000) (hb : b + m ≤ 4000000000) :
    ∃ ys s', runD D (n + 3) 20 [.ref 1, .int m] s = .ok (.lv ys, true) s' ∧ PS (b + m) s' ∧ ys.length = m ∧ ∀ y ∈ ys, ∃ i : Int, y = .int i ∧ 0 ≤ i ∧ i < m := by
  have hlen : (rangeV 0 m).length = m := by rw [range_len]; omega
  have hi : rngO 0 m = some (rangeV 0 m) := rngO_ok intOk_0 (intOk_of (by omega) (by omega))
  have loop := forP_inv (step := forTurn (.nm 3) [3] (fun σ w s => pB (runD D (n + 2)) x__law_drawn_b0 σ w s))
    (fun j σ w s => ∃ ys : List PV, σ = [some (.ref 1), some (.int m), some (.lv ys), none] ∧ w = [2] ∧ PS (b + j) s ∧ ys.length = j ∧ ∀ y ∈ ys, ∃ i : Int, y = .int i ∧ 0 ≤ i ∧ i < m)
    (xs := rangeV 0 m) (σ := [some (.ref 1), some (.int m), some (.lv []), none]) (w := [2]) (s := s) ⟨[], rfl, rfl, hs, rfl, by simp⟩ (by
      rintro j v σ w s hj hv ⟨ys, rfl, rfl, ps, hl, hy⟩
      rw [hlen] at hj
      obtain ⟨i, rfl, i0, i1⟩ := range_mem hv
      obtain ⟨r, s1, e, ps1, r0, r1⟩ := take_ps h n (many := i + 1) ps (by omega) (by omega) (by omega)
      have hc := cIns_ok (v := .int i) (show ys.length < line by unfold line; omega) r0 (show r < 2 ^ 63 by omega)
      refine ⟨[some (.ref 1), some (.int m), some (.lv (ys.take r.toNat ++ [.int i] ++ ys.drop r.toNat)), none], [2], s1, .inl ?_, _, rfl, rfl, ps1, ?_, ?_⟩
      · rw [forTurn_nm]
        simp [x__law_drawn_b0, e, hc]
      · rw [List.length_append, List.length_append, List.length_take, List.length_drop, ← hl]; simp only [List.length_cons, List.length_nil]; omega
      · intro y hy2
        rcases List.mem_append.mp hy2 with q | q
        · rcases List.mem_append.mp q with q | q
          · exact hy y (List.mem_of_mem_take q)
          · rw [List.mem_singleton.mp q]; exact ⟨i, rfl, i0, i1⟩
        · exact hy y (List.mem_of_mem_drop q))
  obtain ⟨σ', w', s', hf, ys, rfl, rfl, ps, hl, hy⟩ := loop
  rw [hlen] at ps hl
  refine ⟨ys, s', ?_, ps, hl, hy⟩
  rw [run_def hd _ _ _ rfl]
  refine (congrArg fin (pB_asg (r := (.lv [], true)) (s1 := s) ?_)).trans ((congrArg fin (pB_for (xs := rangeV 0 m) (s1 := s) ?_ hf)).trans ((congrArg fin (pB_ret (r := (.lv ys, false)) (s1 := s') ?_)).trans rfl))
  · simp
  · simp [hi]
  · simp
end
end Pu

set_option linter.all false
set_option autoImplicit false
set_option maxRecDepth 100000
set_option maxHeartbeats 4000000
/-! Q5: names, pools. -/
namespace Pu
abbrev nms (us : List Sg) : List PV := us.map PV.str
@[simp] theorem dk_str (x : Sg) (n : Nat) : (PV.str x).dk n = true := by unfold PV.dk; rfl
theorem dks_nms : ∀ (us : List Sg) (n : Nat), PV.dks (nms us) n = true
  | [], n => by unfold PV.dks; rfl
  | u :: us, n => by
    show PV.dks (.str u :: nms us) n = true
    unfold PV.dks
    rw [dk_str, dks_nms us n]
    rfl
@[simp] theorem eqv_str (x y : Sg) : eqv (.str x) (.str y) = decide (x = y) := by unfold eqv; rfl
theorem any_nms (x : Sg) (us : List Sg) : ((nms us).any fun e => eqv e (.str x)) = decide (x ∈ us) := by
  induction us with
  | nil => rfl
  | cons u us ih =>
    show (eqv (.str u) (.str x) || (nms us).any fun e => eqv e (.str x)) = _
    rw [ih, eqv_str]
    by_cases h : u = x
    · subst h; simp
    · have h2 : ¬ x = u := fun z => h z.symm
      simp [h, h2]
theorem inD_nms (x : Sg) (us : List Sg) : inD (.str x) (nms us) = some (decide (x ∈ us)) := by
  unfold inD
  rw [dk_str, dks_nms, any_nms]
  rfl
theorem cop_in_lv (x : Sg) (us : List Sg) : cop .isin (.str x) (.lv (nms us)) = some (decide (x ∈ us)) := by
  have : cop .isin (.str x) (.lv (nms us)) = inD (.str x) (nms us) := by
    unfold cop
    cases x with
    | nil => rfl
    | cons c x => cases x <;> rfl
  rw [this, inD_nms]
theorem cop_in_tup (x : Sg) (us : List Sg) : cop .isin (.str x) (.tup (nms us)) = some (decide (x ∈ us)) := by
  have : cop .isin (.str x) (.tup (nms us)) = inD (.str x) (nms us) := by
    unfold cop
    cases x with
    | nil => rfl
    | cons c x => cases x <;> rfl
  rw [this, inD_nms]
theorem cop_notin_lv (x : Sg) (us : List Sg) : cop .notin (.str x) (.lv (nms us)) = some (!decide (x ∈ us)) := by
  have : cop .notin (.str x) (.lv (nms us)) = (inD (.str x) (nms us)).map not := by
    unfold cop
    cases x with
    | nil => rfl
    | cons c x => cases x <;> rfl
  rw [this, inD_nms]
  rfl
def poolN : List Sg := [[97], [98], [99], [100], [97, 97], [97, 98], [98, 97], [122, 101, 98, 114, 97], [113], [97, 98, 99, 100, 101, 102, 103, 104], [120], [121, 101, 115], [98], [122]]
theorem pool_ps {D : List (Nat × Dfn)} (h : HasPen D) (hd : D.lookup 20 = some x__law_drawn) (hp : D.lookup 21 = some x__law_pool) (n : Nat) {b : Nat} {s : St} {m : Nat} (hs : PS b s) (hm : 1 ≤ m) (hm2 : m ≤ 1000) (hb : b + 14 ≤ 4000000000) :
    ∃ us s', runD D (n + 4) 21 [.ref 1, .int m] s = .ok (.lv (nms us), true) s' ∧ PS (b + 14) s' ∧ us.Nodup ∧ us ≠ [] ∧ us.length ≤ m ∧ ∀ u ∈ us, u ∈ poolN := by
  obtain ⟨ys, s1, ed, ps1, ly, hy⟩ := drawn_ps h hd n (m := 14) hs (by decide) hb
  have l14 : 14 ≤ line := by unfold line; decide
  obtain ⟨σ', w', s', hf, us, rfl, rfl, rfl, nd, lu, ne, mem⟩ := forP_inv (step := forTurn (.nm 4) [4] (fun σ w s => pB (runD D (n + 3)) x__law_pool_b0 σ w s))
    (fun j σ w s => ∃ us : List Sg, σ = [some (.ref 1), some (.int m), some (.lv (nms poolN)), some (.lv (nms us)), none] ∧ w = [2, 3] ∧ s = s1 ∧ us.Nodup ∧ us.length ≤ m ∧ (0 < j → us ≠ []) ∧ ∀ u ∈ us, u ∈ poolN)
    (xs := ys) (σ := [some (.ref 1), some (.int m), some (.lv (nms poolN)), some (.lv []), none]) (w := [2, 3]) (s := s1) ⟨[], rfl, rfl, rfl, List.nodup_nil, Nat.zero_le _, (fun z => absurd z (by decide)), (fun _ z => by cases z)⟩ (by
      rintro j v σ w s hj hv ⟨us, rfl, rfl, rfl, nd, lu, ne, mem⟩
      obtain ⟨i, rfl, i0, i1⟩ := hy v hv
      obtain ⟨u, eu, mu⟩ : ∃ u : Sg, at? (nms poolN) i = some (.str u) ∧ u ∈ poolN := by
        obtain ⟨p, ep, mp⟩ := at_mem (xs := nms poolN) (r := i) i0 (by show i < ((nms poolN).length : Int); exact i1)
        obtain ⟨u, hu, e⟩ := List.mem_map.mp mp
        exact ⟨u, by rw [ep, e], hu⟩
      by_cases c1 : u ∈ us
      · refine ⟨_, _, _, .inl ?_, us, rfl, rfl, rfl, nd, lu, (fun _ z => by rw [z] at c1; cases c1), mem⟩
        rw [forTurn_nm]
        simp [x__law_pool_b0, eu, cop_notin_lv, c1]
      · by_cases c2 : us.length < m
        · have ha := cApp_ok (ys := nms us) (v := .str u) (by rw [List.length_map]; unfold line; omega)
          refine ⟨[some (.ref 1), some (.int m), some (.lv (nms poolN)), some (.lv (nms (us ++ [u]))), none], [2, 3], s, .inl ?_, us ++ [u], rfl, rfl, rfl, ?_, ?_, (fun _ => by simp), ?_⟩
          · rw [forTurn_nm]
            simp [x__law_pool_b0, eu, cop_notin_lv, c1, c2, ha]
          · rw [List.nodup_append]
            exact ⟨nd, by simp, fun a ha b hb z => by rw [List.mem_singleton.mp hb] at z; exact c1 (z ▸ ha)⟩
          · rw [List.length_append]; simp only [List.length_cons, List.length_nil]; omega
          · intro x hx
            rcases List.mem_append.mp hx with q | q
            · exact mem x q
            · rw [List.mem_singleton.mp q]; exact mu
        · refine ⟨_, _, _, .inl ?_, us, rfl, rfl, rfl, nd, lu, (fun _ z => by rw [z] at c2; simp at c2; omega), mem⟩
          rw [forTurn_nm]
          simp [x__law_pool_b0, eu, cop_notin_lv, c1, c2])
  refine ⟨us, s', ?_, ps1, nd, ne (by omega), lu, mem⟩
  rw [run_def hp _ _ _ rfl]
  show fin (pB (runD D (n + 3)) x__law_pool.body [some (.ref 1), some (.int m), none, none, none] [] s) = _
  have ed' : runD D (n + 3) 20 [PV.ref 1, PV.int 14] s = Rz.ok (PV.lv ys, true) s' := ed
  have hpl : poolN.length = 14 := rfl
  refine (congrArg fin (pB_asg (r := (.lv (nms poolN), true)) (s1 := s) ?_)).trans ((congrArg fin (pB_asg (r := (.lv [], true)) (s1 := s) ?_)).trans ((congrArg fin (pB_for (xs := ys) (s1 := s') ?_ hf)).trans ((congrArg fin (pB_ret (r := (.lv (nms us), false)) (s1 := s') ?_)).trans rfl)))
  · simp [poolN, l14]
  · simp
  · simp [hpl, ed']
  · simp
end Pu

set_option linter.all false
set_option autoImplicit false
set_option maxRecDepth 100000
set_option maxHeartbeats 4000000
/-! Q6: sets of names, families. -/
namespace Pu
theorem nms_mem {xs : List Sg} {p : PV} (h : p ∈ nms xs) : ∃ x, x ∈ xs ∧ p = .str x := by
  obtain ⟨x, h, e⟩ := List.mem_map.mp h
  exact ⟨x, h, e.symm⟩
theorem nms_alk (xs : List Sg) : AlkL (nms xs) := by
  intro p hp q hq
  obtain ⟨x, _, rfl⟩ := nms_mem hp
  obtain ⟨y, _, rfl⟩ := nms_mem hq
  unfold alikeP
  rfl
theorem nms_rf : ∀ xs : List Sg, rfs (nms xs) = true
  | [] => by unfold rfs; rfl
  | x :: xs => by
    show rfs (.str x :: nms xs) = true
    unfold rfs
    rw [nms_rf xs]
    unfold PV.rf
    rfl
theorem nms_allStr : ∀ xs : List Sg, allStr (nms xs) = true
  | [] => rfl
  | x :: xs => nms_allStr xs
theorem nms_setable {xs : List Sg} (h : xs.length < 64) : setable (nms xs) = true := by
  unfold setable
  rw [nms_allStr, Bool.or_true, Bool.true_and]
  exact decide_eq_true (by rw [List.length_map]; exact h)
theorem lt_str (x y : Sg) : ltD (.str x) (.str y) = decide (x < y) := by
  rw [← ltv_ltD (l := nms [x, y]) (nms_alk _) (nms_rf _) (p := .str x) (q := .str y) (by simp [nms]) (by simp [nms])]
  unfold ltv
  rfl
theorem nms_asc {xs : List Sg} (h : xs.Pairwise (· < ·)) : (nms xs).Pairwise (fun a b => ltD a b = true) := by
  unfold nms
  rw [List.pairwise_map]
  exact h.imp fun {a b} q => by rw [lt_str]; exact decide_eq_true q
theorem usort_nms {xs us : List Sg} (h : us.Pairwise (· < ·)) (e : ∀ x, x ∈ us ↔ x ∈ xs) : usort (nms xs) = nms us := by
  obtain ⟨s2, m2⟩ := usort_spec (nms_alk xs) (nms_rf xs)
  refine asc_unique s2 (nms_asc h) fun y => (m2 y).trans ⟨fun q => ?_, fun q => ?_⟩
  · obtain ⟨x, hx, rfl⟩ := nms_mem q
    exact List.mem_map.mpr ⟨x, (e x).mpr hx, rfl⟩
  · obtain ⟨x, hx, rfl⟩ := nms_mem q
    exact List.mem_map.mpr ⟨x, (e x).mp hx, rfl⟩
theorem nms_of {us : List Sg} : ∀ {acc : List PV}, (∀ x ∈ acc, ∃ y ∈ us, x = .str y) → ∃ xs : List Sg, acc = nms xs ∧ ∀ y ∈ xs, y ∈ us
  | [], _ => ⟨[], rfl, fun y hy => by cases hy⟩
  | x :: acc, h => by
    obtain ⟨xs, rfl, hx⟩ := nms_of fun y hy => h y (List.mem_cons_of_mem _ hy)
    obtain ⟨y, hy, rfl⟩ := h _ (List.mem_cons_self ..)
    exact ⟨y :: xs, rfl, fun z hz => by
      rcases List.mem_cons.mp hz with rfl | hz
      · exact hy
      · exact hx z hz⟩
/-- the names of a list, ascending, each once -/
theorem usort_ex (xs : List Sg) : ∃ us : List Sg, usort (nms xs) = nms us ∧ us.Pairwise (· < ·) ∧ ∀ x, x ∈ us ↔ x ∈ xs := by
  obtain ⟨s2, m2⟩ := usort_spec (nms_alk xs) (nms_rf xs)
  obtain ⟨us, e, _⟩ := nms_of (us := xs) (acc := usort (nms xs)) fun y hy => by
    obtain ⟨x, hx, rfl⟩ := nms_mem ((m2 y).mp hy)
    exact ⟨x, hx, rfl⟩
  refine ⟨us, e, ?_, fun x => ?_⟩
  · rw [e] at s2
    exact (List.pairwise_map.mp s2).imp fun {a b} q => of_decide_eq_true (by rw [← lt_str]; exact q)
  · have q := m2 (.str x)
    rw [e] at q
    constructor
    · intro h
      obtain ⟨y, hy, ey⟩ := nms_mem (q.mp (List.mem_map.mpr ⟨x, h, rfl⟩))
      cases ey
      exact hy
    · intro h
      obtain ⟨y, hy, ey⟩ := nms_mem (q.mpr (List.mem_map.mpr ⟨x, h, rfl⟩))
      cases ey
      exact hy
theorem asc_nodup {us : List Sg} (h : us.Pairwise (· < ·)) : us.Nodup := h.imp fun {a b} q e => by
  subst e
  exact List.lt_irrefl _ q
@[simp] theorem b_tupL (s : St) (xs : List PV) : blt s .tuple [.lv xs] = some (.tup xs) := id rfl
@[simp] theorem b_listL (s : St) (xs : List PV) : blt s .list [.lv xs] = some (.lv xs) := id rfl
@[simp] theorem b_listT (s : St) (xs : List PV) : blt s .list [.tup xs] = some (.lv xs) := id rfl
theorem b_sset {s : St} {v : PV} {xs ys : List PV} (h : seqL v = some xs) (h2 : setable xs = true) (h3 : usort xs = ys) : blt s .sortedSet [v] = some (.lv ys) := by
  show (match seqL v with
    | some xs => if setable xs then some (PV.lv (usort xs)) else none
    | none => none) = _
  rw [h]
  show (if _ then _ else _) = _
  rw [if_pos h2, h3]
def famP (F : List (List Sg)) : List PV := F.map fun xs => .tup (nms xs)
/-- a drawn family -/
structure Fm (most many size : Nat) (F : List (List Sg)) (us : List Sg) : Prop where
  nd : us.Nodup
  lu : us.length ≤ many
  pool : ∀ u ∈ us, u ∈ poolN
  l1 : 1 ≤ F.length
  lm : F.length ≤ most
  item : ∀ ys ∈ F, ys ≠ [] ∧ ys.Pairwise (· < ·) ∧ (∀ x ∈ ys, x ∈ us) ∧ ys.length ≤ size
/-- names are drawn from a pool -/
theorem drawN {D : List (Nat × Dfn)} (h : HasPen D) (n : Nat) {σw : Env} {p : Nat} {j : Nat} {e : XE} {b : Nat} {s : St} {us : List Sg} {m : Nat} (he : ∀ v s, pE (runD D (n + 4)) e (σw.set j (some v)) s = (runD D (n + 4) 19 [.ref 1, .lv (nms us)] s).bind fun r s => .ok r.1 s) (hs : PS b s) (hb : b + m ≤ 4000000000) (hu : us ≠ []) (hl : us.length < 1000) :
    ∃ xs s', lcP (lcTurn (.nm j) σw (fun _ s => .ok true s) (fun σ s => pE (runD D (n + 4)) e σ s)) (rangeV 0 m) [] s = .ok (nms xs) s' ∧ PS (b + m) s' ∧ xs.length = m ∧ ∀ x ∈ xs, x ∈ us := by
  have hlen : (rangeV 0 m).length = m := by rw [range_len]; omega
  obtain ⟨ys, s', e1, ps, hy, hl2⟩ := lcP_pen (B := 4000000000) (turn := lcTurn (.nm j) σw (fun _ s => .ok true s) (fun σ s => pE (runD D (n + 4)) e σ s)) (fun y => ∃ x ∈ us, y = .str x) 1 (rangeV 0 m) [] b s hs (by rw [hlen]; omega) (by
    intro v b s hv ps hb
    obtain ⟨y, s', e1, ps1, hm⟩ := one_ps h (n + 1) (o := .lv (nms us)) (.inr rfl) ps (by omega) (by simp [hu]) (by rw [List.length_map]; omega)
    refine ⟨y, s', ?_, ps1, ?_⟩
    · rw [lcTurn_nm]
      simp [he, e1]
    · obtain ⟨x, hx, e⟩ := nms_mem hm
      exact ⟨x, hx, e⟩)
  rw [hlen] at ps hl2
  obtain ⟨xs, rfl, hx⟩ := nms_of hy
  exact ⟨xs, s', by rw [e1, List.nil_append], ps.mono (by omega), by rw [← hl2, List.length_map], hx⟩
end Pu

set_option linter.all false
set_option autoImplicit false
set_option maxRecDepth 100000
set_option maxHeartbeats 4000000
/-! Q7: drawn families. -/
namespace Pu
structure HasFam (D : List (Nat × Dfn)) : Prop extends HasPen D where
  d20 : D.lookup 20 = some x__law_drawn
  d21 : D.lookup 21 = some x__law_pool
theorem rng_ok {m : Nat} (h : m ≤ 1000000) : rngO 0 m = some (rangeV 0 m) := rngO_ok intOk_0 (intOk_of (by omega) (by omega))
theorem nat_of {r : Int} (h0 : 0 ≤ r) : ∃ m : Nat, (r : Int) = m := ⟨r.toNat, by omega⟩
theorem family_ps {D : List (Nat × Dfn)} (h : HasFam D) (hf : D.lookup 22 = some x__law_family) (n : Nat) {b : Nat} {s : St} {most many size : Nat} (hs : PS b s) (hb : b < 3000000000) (m1 : 1 ≤ most) (m6 : most ≤ 6) (n1 : 1 ≤ many) (n8 : many ≤ 8) (z1 : 1 ≤ size) (z6 : size ≤ 6) :
    ∃ F us s', runD D (n + 5) 22 [.ref 1, .int most, .int many, .int size] s = .ok (.tup (famP F), false) s' ∧ Fm most many size F us ∧ PS (b + 100) s' := by
  have hp := h.toHasPen
  obtain ⟨r1, s1, t1, ps1, r10, r11⟩ := take_ps hp (n + 2) (many := many) hs (by omega) (by omega) (by omega)
  obtain ⟨k1, rfl⟩ := nat_of r10
  obtain ⟨us, s2, t2, ps2, nd, une, ul, up⟩ := pool_ps hp h.d20 h.d21 n (m := 1 + k1) ps1 (by omega) (by omega) (by omega)
  obtain ⟨r3, s3, t3, ps3, r30, r31⟩ := take_ps hp (n + 2) (many := most) ps2 (by omega) (by omega) (by omega)
  obtain ⟨k3, rfl⟩ := nat_of r30
  have hlen : (rangeV 0 ((1 + k3 : Nat) : Int)).length = 1 + k3 := by rw [range_len]; omega
  have loop := forP_inv (step := forTurn (.nm 6) [6, 7, 8] (fun σ w s => pB (runD D (n + 4)) x__law_family_b1 σ w s))
    (fun j σ w s => ∃ F : List (List Sg), σ = [some (.ref 1), some (.int most), some (.int many), some (.int size), some (.lv (nms us)), some (.lv (famP F)), none, none, none] ∧ (w = [4, 5] ∨ w = [5]) ∧ PS (b + 16 + 10 * j) s ∧ F.length = j ∧ ∀ ys ∈ F, ys ≠ [] ∧ ys.Pairwise (· < ·) ∧ (∀ x ∈ ys, x ∈ us) ∧ ys.length ≤ size)
    (xs := rangeV 0 ((1 + k3 : Nat) : Int)) (σ := [some (.ref 1), some (.int most), some (.int many), some (.int size), some (.lv (nms us)), some (.lv []), none, none, none]) (w := [4, 5]) (s := s3) ⟨[], rfl, .inl rfl, ps3.mono (by omega), rfl, fun _ z => by cases z⟩ (by
      rintro j v σ w s hj hv ⟨F, rfl, hw, ps, hl, hF⟩
      rw [hlen] at hj
      obtain ⟨i, rfl, i0, i1⟩ := range_mem hv
      obtain ⟨r4, s4, t4, ps4, r40, r41⟩ := take_ps hp (n + 2) (many := size) ps (by omega) (by omega) (by omega)
      obtain ⟨k4, rfl⟩ := nat_of r40
      have hr := rng_ok (m := 1 + k4) (by omega)
      obtain ⟨xs, s5, l5, ps5, xl, xm⟩ := drawN hp n (p := 4) (j := 8) (σw := [some (.ref 1), some (.int most), some (.int many), some (.int size), some (.lv (nms us)), some (.lv (famP F)), some (.int i), none, none]) (e := x__law_family_e0) (us := us) (m := 1 + k4)
        (fun v s => by simp [x__law_family_e0]) ps4 (by omega) une (by omega)
      obtain ⟨ys, eu, asc, ym⟩ := usort_ex xs
      have hset := b_sset (s := s5) (v := .lv (nms xs)) (ys := nms ys) rfl (nms_setable (by omega)) eu
      have ha := cApp_ok (ys := famP F) (v := .tup (nms ys)) (by unfold famP line; rw [List.length_map]; omega)
      have hxl : (nms xs).length ≤ line := by rw [List.length_map]; unfold line; omega
      have hxl' : xs.length ≤ line := by unfold line; omega
      have yl : ys.length ≤ xs.length := (asc_nodup asc).length_le_of_subset fun x hx => (ym x).mp hx
      refine ⟨[some (.ref 1), some (.int most), some (.int many), some (.int size), some (.lv (nms us)), some (.lv (famP (F ++ [ys]))), none, none, none], [5], s5, .inl ?_, F ++ [ys], rfl, .inr rfl, ps5.mono (by omega), by rw [List.length_append, hl]; rfl, ?_⟩
      · have hr' : rngO 0 (1 + (k4 : Int)) = some (rangeV 0 (1 + (k4 : Int))) := by exact_mod_cast hr
        have l5' : lcP (lcTurn (.nm 8) [some (.ref 1), some (.int most), some (.int many), some (.int size), some (.lv (nms us)), some (.lv (famP F)), some (.int i), none, none] (fun _ s => .ok true s) (fun σ s => pE (runD D (n + 4)) x__law_family_e0 σ s)) (rangeV 0 (1 + (k4 : Int))) [] s4 = .ok (nms xs) s5 := by exact_mod_cast l5
        have hfa : famP (F ++ [ys]) = famP F ++ [.tup (nms ys)] := by unfold famP; rw [List.map_append]; rfl
        rw [forTurn_nm, hfa]
        rcases hw with rfl | rfl <;> simp [x__law_family_b1, t4, hr', l5', hxl', hset, ha]
      · intro zs hz
        rcases List.mem_append.mp hz with q | q
        · exact hF zs q
        · rw [List.mem_singleton.mp q]
          refine ⟨?_, asc, fun x hx => xm x ((ym x).mp hx), by omega⟩
          obtain ⟨x, hx⟩ := List.exists_mem_of_ne_nil xs (by intro z; rw [z] at xl; simp at xl; omega)
          intro z
          have := (ym x).mpr hx
          rw [z] at this; cases this)
  obtain ⟨σ', w', s', hf2, F, rfl, hw, ps, hl, hF⟩ := loop
  rw [hlen] at ps hl
  refine ⟨F, us, s', ?_, ⟨nd, by omega, up, by omega, by omega, hF⟩, ps.mono (by omega)⟩
  have hr := rng_ok (m := 1 + k3) (by omega)
  have t2' : runD D (n + 4) 21 [PV.ref 1, PV.int (1 + (k1 : Int))] s1 = Rz.ok (PV.lv (nms us), true) s2 := by exact_mod_cast t2
  rw [run_def hf _ _ _ rfl]
  show fin (pB (runD D (n + 4)) x__law_family.body [some (.ref 1), some (.int most), some (.int many), some (.int size), none, none, none, none, none] [] s) = _
  refine (congrArg fin (pB_asg (r := (.lv (nms us), true)) (s1 := s2) ?_)).trans ((congrArg fin (pB_asg (r := (.lv [], true)) (s1 := s2) ?_)).trans ((congrArg fin (pB_for (xs := rangeV 0 ((1 + k3 : Nat) : Int)) (s1 := s3) ?_ hf2)).trans ((congrArg fin (pB_ret (r := (.tup (famP F), false)) (s1 := s') ?_)).trans rfl)))
  · simp [t1, t2']
  · simp
  · have hr' : rngO 0 (1 + (k3 : Int)) = some (rangeV 0 (1 + (k3 : Int))) := by exact_mod_cast hr
    simp [t3, hr']
  · simp
end Pu

set_option linter.all false
set_option autoImplicit false
set_option maxRecDepth 100000
set_option maxHeartbeats 4000000
/-! Q8: all names, rows, what is seen. -/
namespace Pu
theorem forP_ix' {step : PV → Env → Own → St → Option (Out × St)} (I : Nat → Env → Own → St → Prop) {all : List PV}
    (k : ∀ j v σ w s, all[j]? = some v → I j σ w s → ∃ σ' w' s', (step v σ w s = some (.nx σ' w', s') ∨ step v σ w s = some (.ct σ' w', s')) ∧ I (j + 1) σ' w' s') :
    ∀ (xs : List PV) (i : Nat) (σ : Env) (w : Own) (s : St), all.drop i = xs → i + xs.length = all.length → I i σ w s → ∃ σ' w' s', forP step xs σ w s = some (.nx σ' w', s') ∧ I all.length σ' w' s'
  | [], i, σ, w, s, _, l, h => ⟨σ, w, s, rfl, by rw [← l]; exact h⟩
  | x :: xs, i, σ, w, s, e, l, h => by
    have hx : all[i]? = some x := by
      have : (all.drop i)[0]? = some x := by rw [e]; rfl
      rw [List.getElem?_drop] at this
      simpa using this
    obtain ⟨σ1, w1, s1, h1, h2⟩ := k i x σ w s hx h
    have e2 : all.drop (i + 1) = xs := by rw [← List.tail_drop, e]; rfl
    obtain ⟨σ2, w2, s2, h3, h4⟩ := forP_ix' I k xs (i + 1) σ1 w1 s1 e2 (by rw [List.length_cons] at l; omega) h2
    refine ⟨σ2, w2, s2, ?_, h4⟩
    unfold forP
    rcases h1 with h1 | h1 <;> rw [h1] <;> exact h3
theorem forP_ix {step : PV → Env → Own → St → Option (Out × St)} (I : Nat → Env → Own → St → Prop) {all : List PV} {σ : Env} {w : Own} {s : St} (h : I 0 σ w s)
    (k : ∀ j v σ w s, all[j]? = some v → I j σ w s → ∃ σ' w' s', (step v σ w s = some (.nx σ' w', s') ∨ step v σ w s = some (.ct σ' w', s')) ∧ I (j + 1) σ' w' s') : ∃ σ' w' s', forP step all σ w s = some (.nx σ' w', s') ∧ I all.length σ' w' s' :=
  forP_ix' I k all 0 σ w s rfl (by omega) h
theorem lcP_filter {turn : PV → St → Rz (List PV)} {s : St} (p : Sg → Bool) (xs : List Sg) (h : ∀ x ∈ xs, turn (.str x) s = .ok (if p x then [.str x] else []) s) : lcP turn (nms xs) [] s = .ok (nms (xs.filter p)) s := by
  rw [lcP_pure (fun v => match v with
    | .str x => if p x then [.str x] else []
    | _ => []) (nms xs) [] (fun v hv => by
      obtain ⟨x, hx, rfl⟩ := nms_mem hv
      exact h x hx), List.nil_append]
  congr 1
  clear h
  induction xs with
  | nil => rfl
  | cons x xs ih =>
    show (if p x then [PV.str x] else []) ++ _ = _
    rw [List.filter_cons]
    by_cases c : p x = true
    · rw [if_pos c, if_pos c]
      show PV.str x :: _ = PV.str x :: nms _
      exact congrArg _ ih
    · rw [if_neg c, if_neg c]
      exact ih
theorem alikeAll_nms (x : Sg) : ∀ xs : List Sg, alikeAll (.str x) (nms xs) = true
  | [] => by unfold alikeAll; rfl
  | y :: xs => by
    show alikeAll (.str x) (.str y :: nms xs) = true
    unfold alikeAll
    rw [alikeAll_nms x xs]
    unfold alikeP
    rfl
theorem alikeEach_nms : ∀ xs : List Sg, alikeEach (nms xs) = true
  | [] => by unfold alikeEach; rfl
  | x :: xs => by
    show alikeEach (.str x :: nms xs) = true
    unfold alikeEach
    rw [alikeAll_nms, alikeEach_nms xs]
    unfold alikeP
    rfl
theorem sortable_nms {xs : List Sg} (h : xs.length ≤ line) : sortable (nms xs) = true := by
  unfold sortable
  rw [alikeEach_nms, dks_nms, decide_eq_true (show (nms xs).length ≤ line by rw [List.length_map]; exact h)]
  have : (nms xs).all notTup = true := List.all_eq_true.mpr fun p hp => by
    obtain ⟨x, _, rfl⟩ := nms_mem hp
    rfl
  rw [this, Bool.or_true]
  rfl
theorem nms_nodup {xs : List Sg} (h : xs.Nodup) : (nms xs).Nodup := List.Pairwise.map PV.str (fun a b h z => h (PV.str.inj z)) h
/-- sorted(names), each once -/
theorem b_sortedN {s : St} {xs us : List Sg} (nd : xs.Nodup) (l : xs.length ≤ line) (h : us.Pairwise (· < ·)) (e : ∀ x, x ∈ us ↔ x ∈ xs) : blt s .sorted [.lv (nms xs)] = some (.lv (nms us)) := by
  show (if sortable (nms xs) = true then _ else _) = _
  rw [if_pos (sortable_nms l), usort_of (nms_alk xs) (nms_rf xs) (fun _ => Iff.rfl) (nms_nodup nd), usort_nms h e]
/-- the names of a family, ascending -/
structure NmsOf (F : List (List Sg)) (us : List Sg) : Prop where
  asc : us.Pairwise (· < ·)
  mem : ∀ x, x ∈ us ↔ x ∈ F.flatten
theorem nmsOf_ex (F : List (List Sg)) : ∃ us, NmsOf F us := by
  obtain ⟨us, _, a, m⟩ := usort_ex F.flatten
  exact ⟨us, a, m⟩
theorem famP_get {F : List (List Sg)} {j : Nat} {v : PV} (h : (famP F)[j]? = some v) : ∃ ys, F[j]? = some ys ∧ v = .tup (nms ys) := by
  unfold famP at h
  rw [List.getElem?_map] at h
  obtain ⟨ys, e, q⟩ := Option.map_eq_some_iff.mp h
  exact ⟨ys, e, q.symm⟩
theorem names_ps {D : List (Nat × Dfn)} (hd : D.lookup 23 = some x__law_names) (n : Nat) (s : St) {F : List (List Sg)} {us : List Sg} (N : NmsOf F us) (hF : ∀ ys ∈ F, ys.Nodup) (hl : F.flatten.length ≤ 1000) : runD D (n + 1) 23 [.tup (famP F)] s = .ok (.lv (nms us), true) s := by
  have big : 1000 ≤ line := by unfold line; omega
  have loop := forP_ix (step := forTurn (.nm 2) [2, 3] (fun σ w s => pB (runD D n) x__law_names_b2 σ w s))
    (fun j σ w s' => s' = s ∧ ∃ xs : List Sg, σ = [some (.tup (famP F)), some (.lv (nms xs)), none, none] ∧ w = [1] ∧ xs.Nodup ∧ ∀ x, x ∈ xs ↔ x ∈ (F.take j).flatten)
    (all := famP F) (σ := [some (.tup (famP F)), some (.lv []), none, none]) (w := [1]) (s := s) ⟨rfl, [], rfl, rfl, List.nodup_nil, by simp⟩ (by
      rintro j v σ w s' hv ⟨rfl, xs, rfl, rfl, nd, hx⟩
      obtain ⟨ys, hy, rfl⟩ := famP_get hv
      have my : ys ∈ F := List.mem_of_getElem? hy
      have sub : ∀ x ∈ ys, x ∈ F.flatten := fun x hx => List.mem_flatten.mpr ⟨ys, my, hx⟩
      have nd2 : (xs ++ ys.filter fun y => !decide (y ∈ xs)).Nodup := by
        rw [List.nodup_append]
        refine ⟨nd, (hF ys my).filter _, fun a ha b hb z => ?_⟩
        have := (List.mem_filter.mp hb).2
        rw [← z] at this
        simp [ha] at this
      have mem2 : ∀ x, x ∈ (xs ++ ys.filter fun y => !decide (y ∈ xs)) ↔ x ∈ (F.take (j + 1)).flatten := fun x => by
        rw [List.take_add_one, hy, List.flatten_append, List.mem_append, List.mem_append, ← hx x]
        simp only [Option.toList_some, List.flatten_cons, List.flatten_nil, List.append_nil, List.mem_filter]
        by_cases c : x ∈ xs <;> simp [c]
      have len2 : (xs ++ ys.filter fun y => !decide (y ∈ xs)).length ≤ 1000 := Nat.le_trans (nd2.length_le_of_subset fun x hx => by
        have := (mem2 x).mp hx
        obtain ⟨zs, hz, hxz⟩ := List.mem_flatten.mp this
        exact List.mem_flatten.mpr ⟨zs, List.mem_of_mem_take hz, hxz⟩) hl
      have lc := lcP_filter (s := s') (turn := lcTurn (.nm 3) [some (.tup (famP F)), some (.lv (nms xs)), some (.tup (nms ys)), none] (fun σ s => (pE (runD D n) x__law_names_e1 σ s).bind fun x s => asB x s) (fun σ s => pE (runD D n) x__law_names_e0 σ s)) (fun y => !decide (y ∈ xs)) ys (fun y hy => by
        rw [lcTurn_nm]
        by_cases c : y ∈ xs <;> simp [x__law_names_e1, x__law_names_e0, cop_notin_lv, c])
      have hl1 : (ys.filter fun y => !decide (y ∈ xs)).length ≤ line := by rw [List.length_append] at len2; omega
      have hl2 : xs.length + (ys.filter fun y => !decide (y ∈ xs)).length ≤ line := by rw [List.length_append] at len2; omega
      refine ⟨[some (.tup (famP F)), some (.lv (nms (xs ++ ys.filter fun y => !decide (y ∈ xs)))), none, none], [1], s', .inl ?_, rfl, _, rfl, rfl, nd2, mem2⟩
      have e9 : nms (xs ++ ys.filter fun y => !decide (y ∈ xs)) = nms xs ++ nms (ys.filter fun y => !decide (y ∈ xs)) := List.map_append
      rw [forTurn_nm, e9]
      simp only [nms] at lc hl1 hl2 ⊢
      simp [x__law_names_b2, lc, hl1, hl2])
  obtain ⟨σ', w', s', hf, rfl, xs, rfl, rfl, nd, hx⟩ := loop
  have hx' : ∀ x, x ∈ us ↔ x ∈ xs := fun x => by
    rw [hx, N.mem, List.take_of_length_le (by unfold famP; rw [List.length_map]; exact Nat.le_refl _)]
  have lx : xs.length ≤ line := Nat.le_trans (Nat.le_trans (nd.length_le_of_subset fun x h => (N.mem x).mp ((hx' x).mpr h)) hl) big
  rw [run_def hd _ _ _ rfl]
  show fin (pB (runD D n) x__law_names.body [some (.tup (famP F)), none, none, none] [] s') = _
  refine (congrArg fin (pB_asg (r := (.lv [], true)) (s1 := s') ?_)).trans ((congrArg fin (pB_for (xs := famP F) (s1 := s') ?_ hf)).trans ((congrArg fin (pB_ret (r := (.lv (nms us), true)) (s1 := s') ?_)).trans rfl))
  · simp
  · simp
  · have := b_sortedN (s := s') nd lx N.asc hx'
    simp only [nms] at this ⊢
    simp [this]
end Pu

set_option linter.all false
set_option autoImplicit false
set_option maxRecDepth 100000
set_option maxHeartbeats 4000000
/-! Q9: drawn rows, what is seen. -/
namespace Pu
/-- names are drawn from a list, a tuple -/
theorem drawO {D : List (Nat × Dfn)} (h : HasPen D) (n : Nat) {σw : Env} {o : PV} {j : Nat} {e : XE} {b : Nat} {s : St} {us : List Sg} {m : Nat} (ho : o = .tup (nms us) ∨ o = .lv (nms us)) (he : ∀ v s, pE (runD D (n + 3)) e (σw.set j (some v)) s = (runD D (n + 3) 19 [.ref 1, o] s).bind fun r s => .ok r.1 s) (hs : PS b s) (hb : b + m ≤ 4000000000) (hu : us ≠ []) (hl : us.length < 1000) :
    ∃ xs s', lcP (lcTurn (.nm j) σw (fun _ s => .ok true s) (fun σ s => pE (runD D (n + 3)) e σ s)) (rangeV 0 m) [] s = .ok (nms xs) s' ∧ PS (b + m) s' ∧ xs.length = m ∧ ∀ x ∈ xs, x ∈ us := by
  have hlen : (rangeV 0 m).length = m := by rw [range_len]; omega
  obtain ⟨ys, s', e1, ps, hy, hl2⟩ := lcP_pen (B := 4000000000) (turn := lcTurn (.nm j) σw (fun _ s => .ok true s) (fun σ s => pE (runD D (n + 3)) e σ s)) (fun y => ∃ x ∈ us, y = .str x) 1 (rangeV 0 m) [] b s hs (by rw [hlen]; omega) (by
    intro v b s hv ps hb
    obtain ⟨y, s', e1, ps1, hm⟩ := one_ps h n (o := o) (xs := nms us) ho ps (by omega) (by simp [hu]) (by rw [List.length_map]; omega)
    refine ⟨y, s', ?_, ps1, ?_⟩
    · rw [lcTurn_nm]
      simp [he, e1]
    · obtain ⟨x, hx, e⟩ := nms_mem hm
      exact ⟨x, hx, e⟩)
  rw [hlen] at ps hl2
  obtain ⟨xs, rfl, hx⟩ := nms_of hy
  exact ⟨xs, s', by rw [e1, List.nil_append], ps.mono (by omega), by rw [← hl2, List.length_map], hx⟩
theorem row_ps {D : List (Nat × Dfn)} (h : HasPen D) (hd : D.lookup 24 = some x__law_row) (n : Nat) {o : PV} {b : Nat} {s : St} {us : List Sg} {m : Nat} (ho : o = .tup (nms us) ∨ o = .lv (nms us)) (hs : PS b s) (hb : b + m ≤ 4000000000) (hm : m ≤ 1000000) (hu : us ≠ []) (hl : us.length < 1000) :
    ∃ xs s', runD D (n + 4) 24 [.ref 1, o, .int m] s = .ok (.tup (nms xs), false) s' ∧ PS (b + m) s' ∧ xs.length = m ∧ ∀ x ∈ xs, x ∈ us := by
  obtain ⟨xs, s', e, ps, xl, xm⟩ := drawO h n (σw := [some (.ref 1), some o, some (.int m), none]) (j := 3) (e := x__law_row_e0) ho (fun v s => by simp [x__law_row_e0]) hs hb hu hl
  refine ⟨xs, s', ?_, ps, xl, xm⟩
  have hr := rng_ok (m := m) (by omega)
  have hx : xs.length ≤ line := by unfold line; omega
  rw [run_def hd _ _ _ rfl]
  show fin (pB (runD D (n + 3)) x__law_row.body [some (.ref 1), some o, some (.int m), none] [] s) = _
  simp [x__law_row, hr, e, hx]
theorem seen_run {D : List (Nat × Dfn)} (hd : D.lookup 25 = some x__law_seen) (n : Nat) (s : St) (us row : List Sg) (hl : row.length ≤ line) : runD D (n + 1) 25 [.tup (nms us), .tup (nms row)] s = .ok (.tup (nms (row.filter fun x => decide (x ∈ us))), false) s := by
  have lc := lcP_filter (s := s) (turn := lcTurn (.nm 2) [some (.tup (nms us)), some (.tup (nms row)), none] (fun σ s => (pE (runD D n) x__law_seen_e1 σ s).bind fun x s => asB x s) (fun σ s => pE (runD D n) x__law_seen_e0 σ s)) (fun x => decide (x ∈ us)) row (fun y hy => by
    rw [lcTurn_nm]
    by_cases c : y ∈ us <;> simp [x__law_seen_e1, x__law_seen_e0, cop_in_tup, c])
  have h2 : (row.filter fun x => decide (x ∈ us)).length ≤ line := Nat.le_trans (List.length_filter_le _ _) hl
  rw [run_def hd _ _ _ rfl]
  show fin (pB (runD D n) x__law_seen.body [some (.tup (nms us)), some (.tup (nms row)), none] [] s) = _
  simp only [nms] at lc h2 ⊢
  simp [x__law_seen, lc, h2]
end Pu

set_option linter.all false
set_option autoImplicit false
set_option maxRecDepth 100000
set_option maxHeartbeats 4000000
/-! Q10: drawn cases. -/
namespace Pu
@[simp] theorem cop_eqI (i j : Int) : cop .eq (.int i) (.int j) = some (decide (i = j)) := by
  show eqD (.int i) (.int j) = _
  unfold eqD
  have a : ∀ i : Int, (PV.int i).dk 60 = true := fun i => by unfold PV.dk; rfl
  rw [a, a]
  show some (eqv (.int i) (.int j)) = _
  unfold eqv
  rfl
@[simp] theorem setAll_nil (σ : Env) (w : Own) : setAll σ w [] [] = some (σ, w) := by unfold setAll; exact id rfl
@[simp] theorem setAll_cons (σ : Env) (w : Own) (i : Nat) (is : List Nat) (r : PV × Bool) (rs : List (PV × Bool)) : setAll σ w (i :: is) (r :: rs) = (setAll σ w is rs).map fun q => (q.1.set i (some r.1), own1 q.2 i r) := by
  conv => lhs; unfold setAll
theorem cut_to {α : Type} (xs : List α) (a : Nat) : cut xs none (some (a : Int)) = xs.take a := by
  unfold cut cutIx
  dsimp only
  rw [if_neg (by omega), List.drop_zero, Nat.sub_zero, Int.toNat_natCast]
  by_cases c : a ≤ xs.length
  · rw [Nat.min_eq_left c]
  · rw [Nat.min_eq_right (by omega), List.take_of_length_le (Nat.le_refl _), List.take_of_length_le (by omega)]
theorem cut_from {α : Type} (xs : List α) (a : Nat) : cut xs (some (a : Int)) none = xs.drop a := by
  unfold cut cutIx
  dsimp only
  rw [if_neg (by omega), Int.toNat_natCast]
  by_cases c : a ≤ xs.length
  · rw [Nat.min_eq_left c, List.take_of_length_le (by rw [List.length_drop]; omega)]
  · rw [Nat.min_eq_right (by omega), List.drop_of_length_le (Nat.le_refl _), List.drop_of_length_le (by omega)]
    simp
@[simp] theorem slice_tup (xs : List PV) (lo hi : Option Int) : slice (.tup xs) lo hi = some (.tup (cut xs lo hi)) := id rfl
@[simp] theorem slice_lv (xs : List PV) (lo hi : Option Int) : slice (.lv xs) lo hi = some (.lv (cut xs lo hi)) := id rfl
theorem at_get {xs : List PV} {a : Nat} {v : PV} (h : xs[a]? = some v) : at? xs (a : Int) = some v := by
  unfold at? ixE
  have l : a < xs.length := (List.getElem?_eq_some_iff.mp h).1
  rw [if_pos (by omega), if_pos (by omega)]
  simpa using h
theorem ixE_nat {n a : Nat} (h : a < n) : ixE n (a : Int) = some a := by
  unfold ixE
  rw [if_pos (by omega), if_pos (by omega)]
  simp
theorem nms_get {us : List Sg} {a : Nat} {u : Sg} (h : us[a]? = some u) : (nms us)[a]? = some (.str u) := by
  rw [List.getElem?_map, h]
  rfl
/-- a turn with a view: two swapped, one gone, one more -/
def Sub (ys vs : List Sg) : Prop := vs.length ≤ 20 ∧ ∀ x ∈ vs, x ∈ ys
theorem sub_swap {ys vs : List Sg} {a : Nat} {p q : Sg} (h : Sub ys vs) (hp : vs[a + 1]? = some p) (hq : vs[a]? = some q) : Sub ys (vs.take a ++ [p, q] ++ vs.drop (a + 2)) := by
  have l : a + 1 < vs.length := (List.getElem?_eq_some_iff.mp hp).1
  refine ⟨?_, fun x hx => ?_⟩
  · have := h.1
    simp only [List.length_append, List.length_take, List.length_drop, List.length_cons, List.length_nil]
    omega
  · rcases List.mem_append.mp hx with m | m
    · rcases List.mem_append.mp m with m | m
      · exact h.2 x (List.mem_of_mem_take m)
      · rcases List.mem_cons.mp m with e | m
        · rw [e]; exact h.2 p (List.mem_of_getElem? hp)
        · rw [List.mem_singleton.mp m]; exact h.2 q (List.mem_of_getElem? hq)
    · exact h.2 x (List.mem_of_mem_drop m)
theorem sub_drop {ys vs : List Sg} {a : Nat} (h : Sub ys vs) : Sub ys (vs.take a ++ vs.drop (a + 1)) := by
  refine ⟨?_, fun x hx => ?_⟩
  · have := h.1
    simp only [List.length_append, List.length_take, List.length_drop]
    omega
  · rcases List.mem_append.mp hx with m | m
    · exact h.2 x (List.mem_of_mem_take m)
    · exact h.2 x (List.mem_of_mem_drop m)
theorem sub_more {ys vs : List Sg} {a : Nat} {p : Sg} (h : Sub ys vs) (hp : p ∈ ys) : Sub ys ((vs.take a ++ [p] ++ vs.drop a).take 20) := by
  refine ⟨by rw [List.length_take]; omega, fun x hx => ?_⟩
  have m := List.mem_of_mem_take hx
  rcases List.mem_append.mp m with m | m
  · rcases List.mem_append.mp m with m | m
    · exact h.2 x (List.mem_of_mem_take m)
    · rw [List.mem_singleton.mp m]; exact hp
  · exact h.2 x (List.mem_of_mem_drop m)
/-- views of a family -/
structure Vs (F V : List (List Sg)) : Prop where
  len : V.length = F.length
  sub : ∀ (i : Nat) (ys vs : List Sg), F[i]? = some ys → V[i]? = some vs → Sub ys vs
theorem Vs.set {F V : List (List Sg)} (h : Vs F V) {i : Nat} {ys vs : List Sg} (hy : F[i]? = some ys) (hs : Sub ys vs) : Vs F (V.set i vs) := by
  refine ⟨by rw [List.length_set]; exact h.len, fun j zs ws hz hw => ?_⟩
  rw [List.getElem?_set] at hw
  by_cases e : i = j
  · subst e
    rw [if_pos rfl] at hw
    rw [hy] at hz
    cases hz
    split at hw
    · cases hw; exact hs
    · cases hw
  · rw [if_neg e] at hw
    exact h.sub j zs ws hz hw
theorem famP_set (V : List (List Sg)) (i : Nat) (vs : List Sg) : (famP V).set i (.tup (nms vs)) = famP (V.set i vs) := by
  unfold famP
  rw [List.map_set]
theorem famP_at {F : List (List Sg)} {i : Nat} {ys : List Sg} (h : F[i]? = some ys) : at? (famP F) (i : Int) = some (.tup (nms ys)) := at_get (by unfold famP; rw [List.getElem?_map, h]; rfl)
@[simp] theorem famP_len (F : List (List Sg)) : (famP F).length = F.length := List.length_map ..
structure HasCase (D : List (Nat × Dfn)) : Prop extends HasFam D where
  d22 : D.lookup 22 = some x__law_family
  d23 : D.lookup 23 = some x__law_names
  d24 : D.lookup 24 = some x__law_row
  d25 : D.lookup 25 = some x__law_seen
  d26 : D.lookup 26 = some x__law_case
theorem case_turn {D : List (Nat × Dfn)} (h : HasPen D) (n : Nat) {b : Nat} {s : St} {F V : List (List Sg)} {sz i : Int} {rw0 : PV} (hs : PS b s) (hb : b + 4 ≤ 4000000000) (hV : Vs F V) (f1 : F ≠ []) (f6 : F.length ≤ 6) (hF : ∀ ys ∈ F, ys ≠ [] ∧ ys.length ≤ 6) :
    ∃ V' s', forTurn (.nm 5) [5, 6, 7, 9, 10] (fun σ w s => pB (runD D (n + 3)) x__law_case_b0 σ w s) (.int i) [some (.ref 1), some (.tup (famP F)), some (.int sz), some rw0, some (.lv (famP V)), none, none, none, none, none, none] [4] s =
      some (.nx [some (.ref 1), some (.tup (famP F)), some (.int sz), some rw0, some (.lv (famP V')), none, none, none, none, none, none] [4], s') ∧ Vs F V' ∧ PS (b + 4) s' := by
  have fl : 0 < F.length := List.length_pos_iff.mpr f1
  have big : 100 ≤ line := by unfold line; omega
  obtain ⟨r1, s1, t1, ps1, r10, r11⟩ := take_ps h (n + 1) (many := F.length) hs (by omega) (by omega) (by omega)
  obtain ⟨o, rfl⟩ := nat_of r10
  have oF : o < F.length := by omega
  obtain ⟨ys, hy⟩ : ∃ ys, F[o]? = some ys := ⟨_, List.getElem?_eq_getElem oF⟩
  obtain ⟨vs, hv⟩ : ∃ vs, V[o]? = some vs := ⟨_, List.getElem?_eq_getElem (by rw [hV.len]; exact oF)⟩
  have sub := hV.sub o ys vs hy hv
  have vl := sub.1
  obtain ⟨r2, s2, t2, ps2, r20, r21⟩ := take_ps h (n + 1) (many := 5) ps1 (by omega) (by omega) (by omega)
  obtain ⟨r3, s3, t3, ps3, r30, r31⟩ := take_ps h (n + 1) (many := (vs.length : Int) + 1) ps2 (by omega) (by omega) (by omega)
  obtain ⟨a, rfl⟩ := nat_of r30
  have hix : ixE V.length (o : Int) = some o := ixE_nat (by rw [hV.len]; exact oF)
  have av := famP_at hv
  have ay := famP_at hy
  have mY : ys ∈ F := List.mem_of_getElem? hy
  rw [forTurn_nm]
  by_cases c1 : r2 < 3
  · by_cases c2 : (a : Int) + 1 < vs.length
    · obtain ⟨p, hp⟩ : ∃ p, vs[a + 1]? = some p := ⟨_, List.getElem?_eq_getElem (by omega)⟩
      obtain ⟨q, hq⟩ : ∃ q, vs[a]? = some q := ⟨_, List.getElem?_eq_getElem (by omega)⟩
      have ap : at? (nms vs) ((a : Int) + 1) = some (.str p) := by exact_mod_cast at_get (nms_get hp)
      have aq : at? (nms vs) (a : Int) = some (.str q) := at_get (nms_get hq)
      have e2 : cut (nms vs) (some ((a : Int) + 2)) none = (nms vs).drop (a + 2) := by
        have := cut_from (nms vs) (a + 2)
        rw [show ((a + 2 : Nat) : Int) = (a : Int) + 2 by omega] at this
        exact this
      have e1 : cut (nms vs) none (some (a : Int)) = (nms vs).take a := cut_to _ _
      refine ⟨V.set o (vs.take a ++ [p, q] ++ vs.drop (a + 2)), s3, ?_, hV.set hy (sub_swap sub hp hq), ps3.mono (by omega)⟩
      rw [← famP_set, show nms (vs.take a ++ [p, q] ++ vs.drop (a + 2)) = (nms vs).take a ++ [PV.str p, PV.str q] ++ (nms vs).drop (a + 2) by unfold nms; simp]
      have l1 : (vs.take a).length + 2 ≤ line := by rw [List.length_take]; omega
      have l2 : (vs.take a).length + (2 + (vs.drop (a + 2)).length) ≤ line := by rw [List.length_take, List.length_drop]; omega
      have l2' : (vs.take a).length + 2 + (vs.drop (a + 2)).length ≤ line := by omega
      have l3 : 2 ≤ line := by omega
      simp only [nms] at t3 av ap aq e1 e2 ⊢
      have B1 := bop_addT ((vs.map PV.str).take a) [.str p, .str q] (by rw [List.length_take, List.length_map]; simp only [List.length_cons, List.length_nil]; omega)
      have B2 := bop_addT ((vs.map PV.str).take a ++ [.str p, .str q]) ((vs.map PV.str).drop (a + 2)) (by rw [List.length_append, List.length_take, List.length_drop, List.length_map]; simp only [List.length_cons, List.length_nil]; omega)
      simp [-bop_addT, x__law_case_b0, t1, t2, t3, av, c1, c2, ap, aq, e1, e2, B1, B2, l3, hix]
    · -- nothing is swapped
      have d3 : ¬ r2 = 3 := by omega
      have d4 : ¬ r2 = 4 := by omega
      refine ⟨V, s3, ?_, hV, ps3.mono (by omega)⟩
      simp only [nms] at t3 av ⊢
      simp [x__law_case_b0, t1, t2, t3, av, c1, c2, d3, d4]
  · by_cases c3 : r2 = 3
    · subst c3
      have e2 : cut (nms vs) (some ((a : Int) + 1)) none = (nms vs).drop (a + 1) := by
        have := cut_from (nms vs) (a + 1)
        rw [show ((a + 1 : Nat) : Int) = (a : Int) + 1 by omega] at this
        exact this
      have e1 : cut (nms vs) none (some (a : Int)) = (nms vs).take a := cut_to _ _
      refine ⟨V.set o (vs.take a ++ vs.drop (a + 1)), s3, ?_, hV.set hy (sub_drop sub), ps3.mono (by omega)⟩
      rw [← famP_set, show nms (vs.take a ++ vs.drop (a + 1)) = (nms vs).take a ++ (nms vs).drop (a + 1) by unfold nms; simp]
      simp only [nms] at t3 av e1 e2 ⊢
      have B1 := bop_addT ((vs.map PV.str).take a) ((vs.map PV.str).drop (a + 1)) (by rw [List.length_take, List.length_drop, List.length_map]; omega)
      simp [-bop_addT, x__law_case_b0, t1, t2, t3, av, e1, e2, B1, hix]
    · have c4 : r2 = 4 := by omega
      subst c4
      obtain ⟨v, s4, t4, ps4, hm⟩ := one_ps h n (o := .tup (nms ys)) (xs := nms ys) (.inl rfl) ps3 (by omega) (by simp [(hF ys mY).1]) (by rw [List.length_map]; have := (hF ys mY).2; omega)
      obtain ⟨p, hp, rfl⟩ := nms_mem hm
      have e1 : cut (nms vs) none (some (a : Int)) = (nms vs).take a := cut_to _ _
      have e2 : cut (nms vs) (some (a : Int)) none = (nms vs).drop a := cut_from _ _
      have e3 : ∀ xs : List PV, cut xs none (some (20 : Int)) = xs.take 20 := fun xs => cut_to xs 20
      refine ⟨V.set o ((vs.take a ++ [p] ++ vs.drop a).take 20), s4, ?_, hV.set hy (sub_more sub hp), ps4.mono (by omega)⟩
      rw [← famP_set, show nms ((vs.take a ++ [p] ++ vs.drop a).take 20) = ((nms vs).take a ++ [PV.str p] ++ (nms vs).drop a).take 20 by unfold nms; simp]
      simp only [nms] at t3 t4 av ay e1 e2 ⊢
      have B1 := bop_addT ((vs.map PV.str).take a) [.str p] (by rw [List.length_take, List.length_map]; simp only [List.length_cons, List.length_nil]; omega)
      have B2 := bop_addT ((vs.map PV.str).take a ++ [.str p]) ((vs.map PV.str).drop a) (by rw [List.length_append, List.length_take, List.length_drop, List.length_map]; simp only [List.length_cons, List.length_nil]; omega)
      have l1 : 1 ≤ line := by omega
      simp [-bop_addT, x__law_case_b0, t1, t2, t3, t4, av, ay, e1, e2, e3, B1, B2, hix, l1]
/-- a case, as a value -/
def caseP (F V : List (List Sg)) : PV := .tup (zipP (famP F) (famP V))
theorem zipP_len : ∀ xs ys : List PV, (zipP xs ys).length = min xs.length ys.length
  | [], ys => by unfold zipP; simp
  | x :: xs, [] => by unfold zipP; simp
  | x :: xs, y :: ys => by
    unfold zipP
    rw [List.length_cons, List.length_cons, List.length_cons, zipP_len xs ys]
    omega
theorem b_zip {s : St} {x y : PV} {xs ys : List PV} (hx : seqL x = some xs) (hy : seqL y = some ys) (h : min xs.length ys.length ≤ line) : blt s .listZip [x, y] = some (.lv (zipP xs ys)) := by
  show (match seqL x with
    | none => none
    | some xs => match seqL y with
      | none => none
      | some ys => if min xs.length ys.length ≤ line then some (PV.lv (zipP xs ys)) else none) = _
  rw [hx]
  show (match seqL y with
      | none => none
      | some ys => if min xs.length ys.length ≤ line then some (PV.lv (zipP xs ys)) else none) = _
  rw [hy]
  exact if_pos h
theorem lcP_fam {turn : PV → St → Rz (List PV)} {s : St} (g : List Sg → PV) : ∀ (F : List (List Sg)) (acc : List PV), (∀ ys ∈ F, turn (.tup (nms ys)) s = .ok [g ys] s) → lcP turn (famP F) acc s = .ok (acc ++ F.map g) s
  | [], acc, _ => by show lcP turn [] acc s = _; unfold lcP; simp
  | ys :: F, acc, h => by
    show lcP turn (.tup (nms ys) :: famP F) acc s = _
    unfold lcP
    rw [h ys List.mem_cons_self]
    simp [lcP_fam g F (acc ++ [g ys]) fun zs m => h zs (List.mem_cons_of_mem _ m)]
theorem case_ps {D : List (Nat × Dfn)} (h : HasCase D) (n : Nat) {b : Nat} {s : St} {F : List (List Sg)} {us : List Sg} {size : Nat} (N : NmsOf F us) (hs : PS b s) (hb : b < 3000000000) (f1 : F ≠ []) (f6 : F.length ≤ 6) (hF : ∀ ys ∈ F, ys ≠ [] ∧ ys.Nodup ∧ ys.length ≤ 6) (hl : F.flatten.length ≤ 100) (hu : us.length ≤ 100) (hz : size ≤ 100) :
    ∃ V s', runD D (n + 5) 26 [.ref 1, .tup (famP F), .int size] s = .ok (caseP F V, false) s' ∧ Vs F V ∧ PS (b + 200) s' := by
  have hp := h.toHasPen
  have big : 1000 ≤ line := by unfold line; omega
  have une : us ≠ [] := by
    obtain ⟨ys, hy⟩ := List.exists_mem_of_ne_nil F f1
    obtain ⟨x, hx⟩ := List.exists_mem_of_ne_nil ys (hF ys hy).1
    intro z
    have := (N.mem x).mpr (List.mem_flatten.mpr ⟨ys, hy, hx⟩)
    rw [z] at this; cases this
  have nm := names_ps h.d23 (n + 3) s N (fun ys hy => (hF ys hy).2.1) (by omega)
  obtain ⟨r1, s1, t1, ps1, r10, r11⟩ := take_ps hp (n + 2) (many := (size : Int) + 1) hs (by omega) (by omega) (by omega)
  obtain ⟨m, rfl⟩ := nat_of r10
  obtain ⟨row, s2, t2, ps2, rl, rm⟩ := row_ps hp h.d24 n (o := .lv (nms us)) (m := m) (.inr rfl) ps1 (by omega) (by omega) une (by omega)
  have seen := fun ys => seen_run h.d25 (n + 3) s2 ys row (by omega)
  let V0 := F.map fun ys => (row.filter fun x => decide (x ∈ ys)).take 20
  have hV0 : Vs F V0 := by
    refine ⟨List.length_map .., fun i ys vs hy hv => ?_⟩
    show Sub ys vs
    rw [List.getElem?_map, hy] at hv
    cases hv
    exact ⟨by rw [List.length_take]; omega, fun x hx => by simpa using (List.mem_filter.mp (List.mem_of_mem_take hx)).2⟩
  have cut20 : ∀ xs : List PV, cut xs none (some (20 : Int)) = xs.take 20 := fun xs => cut_to xs 20
  have lc := lcP_fam (s := s2) (turn := lcTurn (.nm 8) [some (.ref 1), some (.tup (famP F)), some (.int size), some (.tup (nms row)), none, none, none, none, none, none, none] (fun _ s => .ok true s) (fun σ s => pE (runD D (n + 4)) x__law_case_e1 σ s)) (fun ys => .tup (nms ((row.filter fun x => decide (x ∈ ys)).take 20))) F [] (fun ys hy => by
      have se := seen ys
      rw [lcTurn_nm]
      have e8 : nms ((row.filter fun x => decide (x ∈ ys)).take 20) = (nms (row.filter fun x => decide (x ∈ ys))).take 20 := List.map_take
      rw [e8]
      simp only [nms] at se ⊢
      simp [x__law_case_e1, se, cut20])
  have e0 : (F.map fun ys => PV.tup (nms ((row.filter fun x => decide (x ∈ ys)).take 20))) = famP V0 := by
    unfold famP
    rw [List.map_map]
    rfl
  rw [List.nil_append, e0] at lc
  have lc2 := lc
  obtain ⟨v, s3, t3, ps3, hv⟩ := one_ps hp (n + 1) (o := .lv [.int 0, .int 1, .int 1, .int 2, .int 4]) (xs := [.int 0, .int 1, .int 1, .int 2, .int 4]) (.inr rfl) ps2 (by omega) (by simp) (by decide)
  obtain ⟨q, rfl, q4⟩ : ∃ q : Nat, v = .int q ∧ q ≤ 4 := by
    simp only [List.mem_cons, List.not_mem_nil, or_false] at hv
    rcases hv with rfl | rfl | rfl | rfl | rfl
    · exact ⟨0, rfl, by decide⟩
    · exact ⟨1, rfl, by decide⟩
    · exact ⟨1, rfl, by decide⟩
    · exact ⟨2, rfl, by decide⟩
    · exact ⟨4, rfl, by decide⟩
  have hlen : (rangeV 0 (q : Int)).length = q := by rw [range_len]; omega
  have loop := forP_inv (step := forTurn (.nm 5) [5, 6, 7, 9, 10] (fun σ w s => pB (runD D (n + 4)) x__law_case_b0 σ w s))
    (fun j σ w s => ∃ V, σ = [some (.ref 1), some (.tup (famP F)), some (.int size), some (.tup (nms row)), some (.lv (famP V)), none, none, none, none, none, none] ∧ w = [4] ∧ Vs F V ∧ PS (b + 1 + m + 1 + 4 * j) s)
    (xs := rangeV 0 (q : Int)) (σ := [some (.ref 1), some (.tup (famP F)), some (.int size), some (.tup (nms row)), some (.lv (famP V0)), none, none, none, none, none, none]) (w := [4]) (s := s3) ⟨V0, rfl, rfl, hV0, ps3.mono (by omega)⟩ (by
      rintro j v σ w s hj hv ⟨V, rfl, rfl, hV, ps⟩
      rw [hlen] at hj
      obtain ⟨i, rfl, _, _⟩ := range_mem hv
      obtain ⟨V', s', e, hV', ps'⟩ := case_turn hp (n + 1) (F := F) (V := V) (sz := size) (i := i) (rw0 := .tup (nms row)) ps (by omega) hV f1 f6 fun ys hy => ⟨(hF ys hy).1, (hF ys hy).2.2⟩
      exact ⟨_, _, _, .inl e, V', rfl, rfl, hV', ps'.mono (by omega)⟩)
  obtain ⟨σ', w', s', hf, V, rfl, rfl, hV, ps⟩ := loop
  rw [hlen] at ps
  refine ⟨V, s', ?_, hV, ps.mono (by omega)⟩
  have hr := rng_ok (m := q) (by omega)
  have l5 : 5 ≤ line := by omega
  have fl : (famP V0).length ≤ line := by rw [famP_len]; show (F.map _).length ≤ line; rw [List.length_map]; omega
  have fl' : V0.length ≤ line := by rw [← famP_len]; exact fl
  have bz := b_zip (s := s') (x := .tup (famP F)) (y := .lv (famP V)) rfl rfl (by rw [famP_len]; omega)
  rw [run_def h.d26 _ _ _ rfl]
  show fin (pB (runD D (n + 4)) x__law_case.body [some (.ref 1), some (.tup (famP F)), some (.int size), none, none, none, none, none, none, none, none] [] s) = _
  refine (congrArg fin (pB_asg (r := (.tup (nms row), false)) (s1 := s2) ?_)).trans ((congrArg fin (pB_asg (r := (.lv (famP V0), true)) (s1 := s2) ?_)).trans ((congrArg fin (pB_for (xs := rangeV 0 (q : Int)) (s1 := s3) ?_ hf)).trans ((congrArg fin (pB_ret (r := (caseP F V, false)) (s1 := s') ?_)).trans rfl)))
  · simp [nm, t1, t2]
  · simp [lc2, fl']
  · simp [l5, t3, hr]
  · simp [bz, caseP]
end Pu

set_option linter.all false
set_option autoImplicit false
set_option maxRecDepth 100000
set_option maxHeartbeats 4000000
/-! Q11: is_name, is_name_set, is_log at any value. -/
namespace Pu
/-- a value that may be asked for its kind, its length -/
def pv : PV → Bool
  | .str x => decide (x.length ≤ line)
  | .ref _ => false
  | .dv _ _ _ => false
  | .exc _ _ => false
  | _ => true
theorem lcP_map {α : Type} {turn : PV → St → Rz (List PV)} {s : St} (f g : α → PV) : ∀ (l : List α) (acc : List PV), (∀ a ∈ l, turn (f a) s = .ok [g a] s) → lcP turn (l.map f) acc s = .ok (acc ++ l.map g) s
  | [], acc, _ => by show lcP turn [] acc s = _; unfold lcP; simp
  | a :: l, acc, h => by
    show lcP turn (f a :: l.map f) acc s = _
    unfold lcP
    rw [h a List.mem_cons_self]
    simp [lcP_map f g l (acc ++ [g a]) fun b m => h b (List.mem_cons_of_mem _ m)]
theorem boolsOf_map {α : Type} (p : α → Bool) : ∀ l : List α, boolsOf (l.map fun a => PV.bl (p a)) = some (l.map p)
  | [] => rfl
  | a :: l => by
    show (boolsOf (l.map fun a => PV.bl (p a))).map (p a :: ·) = _
    rw [boolsOf_map p l]
    rfl
theorem b_all {α : Type} (s : St) (p : α → Bool) (l : List α) : blt s .all [.lv (l.map fun a => PV.bl (p a))] = some (.bl (l.all p)) := by
  show (match boolsOf (l.map fun a => PV.bl (p a)) with
    | some bs => some (PV.bl (if false = true then bs.any id else bs.all id))
    | none => none) = _
  rw [boolsOf_map]
  show some (PV.bl ((l.map p).all id)) = _
  rw [List.all_map]
  rfl
theorem b_lenS {s : St} {x : Sg} (h : x.length ≤ line) : blt s .len [.str x] = some (.int x.length) := if_pos h
def SMALL : Sg := [97, 98, 99, 100, 101, 102, 103, 104, 105, 106, 107, 108, 109, 110, 111, 112, 113, 114, 115, 116, 117, 118, 119, 120, 121, 122]
def sm (c : Nat) : Bool := SMALL.contains c
def nameB (x : Sg) : Bool := decide (1 ≤ x.length) && (decide (x.length ≤ 8) && x.all sm)
def isNm : PV → Bool
  | .str x => nameB x
  | _ => false
@[simp] theorem isStr_str (s : St) (x : Sg) : blt s .isStr [.str x] = some (.bl true) := id rfl
@[simp] theorem isTup_tup (s : St) (x : List PV) : blt s .isTuple [.tup x] = some (.bl true) := id rfl
theorem isStr_no {s : St} {v : PV} (h : pv v = true) (h2 : ∀ x, v ≠ .str x) : blt s .isStr [v] = some (.bl false) := by
  cases v <;> first | rfl | (cases h; done) | exact absurd rfl (h2 _)
theorem isTup_no {s : St} {v : PV} (h : pv v = true) (h2 : ∀ x, v ≠ .tup x) : blt s .isTuple [v] = some (.bl false) := by
  cases v <;> first | rfl | (cases h; done) | exact absurd rfl (h2 _)
theorem cop_isin_c (c : Nat) (y : Sg) : cop .isin (.str [c]) (.str y) = some (y.contains c) := id rfl
theorem isname_run {D : List (Nat × Dfn)} (hd : D.lookup 0 = some x_is_name) (n : Nat) (s : St) {v : PV} (h : pv v = true) : runD D (n + 1) 0 [v] s = .ok (.bl (isNm v), false) s := by
  rw [run_def hd _ _ _ rfl]
  show fin (pB (runD D n) x_is_name.body [some v, none] [] s) = _
  by_cases hs : ∃ x, v = .str x
  · obtain ⟨x, rfl⟩ := hs
    have hx : x.length ≤ line := of_decide_eq_true h
    have hl := b_lenS (s := s) hx
    by_cases c1 : 1 ≤ x.length
    · by_cases c2 : x.length ≤ 8
      · have lc := lcP_map (s := s) (turn := lcTurn (.nm 1) [some (.str x), none] (fun _ s => .ok true s) (fun σ s => pE (runD D n) x_is_name_e0 σ s)) (fun c => PV.str [c]) (fun c => PV.bl (sm c)) x [] (fun c hc => by
          rw [lcTurn_nm]
          have : cop .isin (.str [c]) (.str SMALL) = some (sm c) := rfl
          simp only [SMALL] at this ⊢
          simp [-List.contains_cons, x_is_name_e0, this])
        rw [List.nil_append] at lc
        have ha := b_all s sm x
        have e1 : decide ((1 : Int) ≤ x.length) = true := decide_eq_true (by omega)
        have e2 : decide ((x.length : Int) ≤ 8) = true := decide_eq_true (by omega)
        have e : isNm (.str x) = x.all sm := by
          show nameB x = _
          unfold nameB
          rw [decide_eq_true c1, decide_eq_true c2]
          rfl
        rw [e]
        simp [-decide_eq_true_eq, x_is_name, hl, e1, e2, lc, ha, hx]
      · have e1 : decide ((1 : Int) ≤ x.length) = true := decide_eq_true (by omega)
        have e2 : decide ((x.length : Int) ≤ 8) = false := decide_eq_false (by omega)
        have e : isNm (.str x) = false := by
          show nameB x = _
          unfold nameB
          rw [decide_eq_false c2]
          simp
        rw [e]
        simp [-decide_eq_true_eq, -decide_eq_false_iff_not, x_is_name, hl, e1, e2]
    · have e1 : decide ((1 : Int) ≤ x.length) = false := decide_eq_false (by omega)
      have e : isNm (.str x) = false := by
        show nameB x = _
        unfold nameB
        rw [decide_eq_false c1]
        rfl
      rw [e]
      simp [-decide_eq_true_eq, -decide_eq_false_iff_not, x_is_name, hl, e1]
  · have e : isNm v = false := by
      cases v <;> first | rfl | exact absurd ⟨_, rfl⟩ hs
    have hk := isStr_no (s := s) h fun x z => hs ⟨x, z⟩
    rw [e]
    simp [x_is_name, hk]
def isLog : PV → Bool
  | .tup xs => decide (xs.length ≤ 120) && xs.all isNm
  | _ => false
/-- .. and what stands in it -/
def pvs : PV → Bool
  | .tup xs => xs.all pv
  | v => pv v
theorem pvs_pv {v : PV} (h : pvs v = true) : pv v = true := by cases v <;> first | rfl | exact h
theorem islog_run {D : List (Nat × Dfn)} (hd0 : D.lookup 0 = some x_is_name) (hd : D.lookup 4 = some x_is_log) (n : Nat) (s : St) {v : PV} (h : pvs v = true) : runD D (n + 2) 4 [v] s = .ok (.bl (isLog v), false) s := by
  rw [run_def hd _ _ _ rfl]
  show fin (pB (runD D (n + 1)) x_is_log.body [some v, none] [] s) = _
  by_cases hs : ∃ xs, v = .tup xs
  · obtain ⟨xs, rfl⟩ := hs
    by_cases c2 : xs.length ≤ 120
    · have lc := lcP_map (s := s) (turn := lcTurn (.nm 1) [some (.tup xs), none] (fun _ s => .ok true s) (fun σ s => pE (runD D (n + 1)) x_is_log_e0 σ s)) (fun v => v) (fun v => PV.bl (isNm v)) xs [] (fun v hv => by
        have := isname_run hd0 n s (List.all_eq_true.mp h v hv)
        rw [lcTurn_nm]
        simp [x_is_log_e0, this])
      rw [List.nil_append, List.map_id'] at lc
      have ha := b_all s isNm xs
      have e2 : decide ((xs.length : Int) ≤ 120) = true := decide_eq_true (by omega)
      have hx : xs.length ≤ line := by unfold line; omega
      have e : isLog (.tup xs) = xs.all isNm := by
        show (decide (xs.length ≤ 120) && _) = _
        rw [decide_eq_true c2]
        rfl
      rw [e]
      simp [-decide_eq_true_eq, x_is_log, e2, lc, ha, hx]
    · have e2 : decide ((xs.length : Int) ≤ 120) = false := decide_eq_false (by omega)
      have e : isLog (.tup xs) = false := by
        show (decide (xs.length ≤ 120) && _) = _
        rw [decide_eq_false c2]
        rfl
      rw [e]
      simp [-decide_eq_true_eq, -decide_eq_false_iff_not, x_is_log, e2]
  · have e : isLog v = false := by
      cases v <;> first | rfl | exact absurd ⟨_, rfl⟩ hs
    have hk := isTup_no (s := s) (pvs_pv h) fun x z => hs ⟨x, z⟩
    rw [e]
    simp [x_is_log, hk]
end Pu

set_option linter.all false
set_option autoImplicit false
set_option maxRecDepth 100000
set_option maxHeartbeats 4000000
/-! Q12: is_name_set, is_view, names_of at any value. -/
namespace Pu
theorem isNm_nms : ∀ {xs : List PV}, xs.all isNm = true → ∃ us : List Sg, xs = nms us ∧ us.all nameB = true
  | [], _ => ⟨[], rfl, rfl⟩
  | x :: xs, h => by
    rw [List.all_cons, Bool.and_eq_true] at h
    obtain ⟨us, rfl, hu⟩ := isNm_nms h.2
    cases x with
    | str y => exact ⟨y :: us, rfl, by rw [List.all_cons, hu, Bool.and_true]; exact h.1⟩
    | _ => cases h.1
theorem nms_all {us : List Sg} (h : us.all nameB = true) : (nms us).all isNm = true := by
  rw [List.all_map]
  exact h
theorem dk_lv {us : List Sg} : (PV.lv (nms us)).dk 60 = true := by
  unfold PV.dk
  rw [dks_nms]
  rfl
theorem dk_tup {us : List Sg} {n : Nat} (h : 0 < n) : (PV.tup (nms us)).dk n = true := by
  unfold PV.dk
  rw [dks_nms, decide_eq_true h]
  rfl
theorem eqvs_nms : ∀ us vs : List Sg, eqvs (nms us) (nms vs) = decide (us = vs)
  | [], [] => by show eqvs [] [] = _; unfold eqvs; rfl
  | [], v :: vs => by show eqvs [] (.str v :: nms vs) = _; unfold eqvs; rfl
  | u :: us, [] => by show eqvs (.str u :: nms us) [] = _; unfold eqvs; rfl
  | u :: us, v :: vs => by
    show eqvs (.str u :: nms us) (.str v :: nms vs) = _
    unfold eqvs
    rw [eqvs_nms us vs, eqv_str]
    by_cases a : u = v <;> by_cases b : us = vs <;> simp [a, b]
theorem eq_lv (us vs : List Sg) : cop .eq (.lv (nms us)) (.lv (nms vs)) = some (decide (us = vs)) := by
  show eqD _ _ = _
  unfold eqD
  rw [dk_lv, dk_lv]
  show some (eqv (.lv (nms us)) (.lv (nms vs))) = _
  unfold eqv
  rw [eqvs_nms]
theorem eq_tup (us vs : List Sg) : cop .eq (.tup (nms us)) (.tup (nms vs)) = some (decide (us = vs)) := by
  show eqD _ _ = _
  unfold eqD
  rw [dk_tup (by decide), dk_tup (by decide)]
  show some (eqv (.tup (nms us)) (.tup (nms vs))) = _
  unfold eqv
  rw [eqvs_nms]
/-- the names of a list, each once, ascending -/
def ascB : List Sg → Bool
  | [] => true
  | [_] => true
  | x :: y :: r => decide (x < y) && ascB (y :: r)
theorem ascB_pw : ∀ {us : List Sg}, ascB us = true ↔ us.Pairwise (· < ·)
  | [] => by simp [ascB]
  | [x] => by simp [ascB]
  | x :: y :: r => by
    show (decide (x < y) && ascB (y :: r)) = true ↔ _
    rw [Bool.and_eq_true, decide_eq_true_eq, ascB_pw]
    constructor
    · rintro ⟨a, b⟩
      refine List.pairwise_cons.mpr ⟨fun z hz => ?_, b⟩
      rcases List.mem_cons.mp hz with e | hz
      · rw [e]; exact a
      · exact List.lt_trans a ((List.pairwise_cons.mp b).1 z hz)
    · intro h
      exact ⟨(List.pairwise_cons.mp h).1 y List.mem_cons_self, (List.pairwise_cons.mp h).2⟩
def strsP : List PV → List Sg
  | [] => []
  | .str x :: r => x :: strsP r
  | _ :: r => strsP r
theorem strsP_nms : ∀ us : List Sg, strsP (nms us) = us
  | [] => rfl
  | u :: us => by show u :: strsP (nms us) = _; rw [strsP_nms us]
theorem nms_inj {us vs : List Sg} (h : nms us = nms vs) : us = vs := by rw [← strsP_nms us, h, strsP_nms]
theorem asc_dec {us vs : List Sg} (e : usort (nms us) = nms vs) (a : vs.Pairwise (· < ·)) : decide (us = vs) = ascB us := by
  by_cases h : ascB us = true
  · have p := ascB_pw.mp h
    have e2 := usort_nms p (xs := us) fun _ => Iff.rfl
    rw [e] at e2
    have : vs = us := nms_inj e2
    rw [h, this]
    simp
  · have : us ≠ vs := fun z => h (ascB_pw.mpr (z ▸ a))
    rw [decide_eq_false this]
    simpa using h
def isSet : PV → Bool
  | .tup xs => decide (1 ≤ xs.length) && (decide (xs.length ≤ 6) && (xs.all isNm && ascB (strsP xs)))
  | _ => false
theorem isset_run {D : List (Nat × Dfn)} (hd0 : D.lookup 0 = some x_is_name) (hd : D.lookup 1 = some x_is_name_set) (n : Nat) (s : St) {v : PV} (h : pvs v = true) : runD D (n + 2) 1 [v] s = .ok (.bl (isSet v), false) s := by
  rw [run_def hd _ _ _ rfl]
  show fin (pB (runD D (n + 1)) x_is_name_set.body [some v, none] [] s) = _
  by_cases hs : ∃ xs, v = .tup xs
  · obtain ⟨xs, rfl⟩ := hs
    by_cases c1 : 1 ≤ xs.length
    · have e1 : decide ((1 : Int) ≤ xs.length) = true := decide_eq_true (by omega)
      by_cases c2 : xs.length ≤ 6
      · have e2 : decide ((xs.length : Int) ≤ 6) = true := decide_eq_true (by omega)
        have lc := lcP_map (s := s) (turn := lcTurn (.nm 1) [some (.tup xs), none] (fun _ s => .ok true s) (fun σ s => pE (runD D (n + 1)) x_is_name_set_e0 σ s)) (fun v => v) (fun v => PV.bl (isNm v)) xs [] (fun v hv => by
          have := isname_run hd0 n s (List.all_eq_true.mp h v hv)
          rw [lcTurn_nm]
          simp [x_is_name_set_e0, this])
        rw [List.nil_append, List.map_id'] at lc
        have ha := b_all s isNm xs
        have hx : xs.length ≤ line := by unfold line; omega
        have e : isSet (.tup xs) = (xs.all isNm && ascB (strsP xs)) := by
          show (decide (1 ≤ xs.length) && (decide (xs.length ≤ 6) && _)) = _
          rw [decide_eq_true c1, decide_eq_true c2]
          rfl
        rw [e]
        cases hn : xs.all isNm with
        | false =>
          rw [hn] at ha
          simp [-decide_eq_true_eq, x_is_name_set, e1, e2, lc, ha, hx]
        | true =>
          rw [hn] at ha
          obtain ⟨us, rfl, hu⟩ := isNm_nms hn
          obtain ⟨vs, eu, a, _⟩ := usort_ex us
          have hset := b_sset (s := s) (v := .tup (nms us)) (ys := nms vs) rfl (nms_setable (by rw [List.length_map] at c2; omega)) eu
          have he := eq_lv us vs
          rw [asc_dec eu a] at he
          rw [strsP_nms, Bool.true_and]
          obtain ⟨L, hL⟩ : ∃ L, L = nms us := ⟨_, rfl⟩
          rw [← hL] at lc ha hset he e1 e2 hx ⊢
          simp [-decide_eq_true_eq, x_is_name_set, e1, e2, lc, ha, hx, hset, he]
      · have e2 : decide ((xs.length : Int) ≤ 6) = false := decide_eq_false (by omega)
        have e : isSet (.tup xs) = false := by
          show (decide (1 ≤ xs.length) && (decide (xs.length ≤ 6) && _)) = _
          rw [decide_eq_false c2]
          simp
        rw [e]
        simp [-decide_eq_true_eq, -decide_eq_false_iff_not, x_is_name_set, e1, e2]
    · have e1 : decide ((1 : Int) ≤ xs.length) = false := decide_eq_false (by omega)
      have e : isSet (.tup xs) = false := by
        show (decide (1 ≤ xs.length) && _) = _
        rw [decide_eq_false c1]
        rfl
      rw [e]
      simp [-decide_eq_true_eq, -decide_eq_false_iff_not, x_is_name_set, e1]
  · have e : isSet v = false := by
      cases v <;> first | rfl | exact absurd ⟨_, rfl⟩ hs
    have hk := isTup_no (s := s) (pvs_pv h) fun x z => hs ⟨x, z⟩
    rw [e]
    simp [x_is_name_set, hk]
end Pu

set_option linter.all false
set_option autoImplicit false
set_option maxRecDepth 100000
set_option maxHeartbeats 4000000
/-! Q13: families, cases at any value. -/
namespace Pu
theorem lcP_flat {α : Type} {turn : PV → St → Rz (List PV)} {s : St} (f : α → PV) (g : α → List PV) : ∀ (l : List α) (acc : List PV), (∀ a ∈ l, turn (f a) s = .ok (g a) s) → lcP turn (l.map f) acc s = .ok (acc ++ (l.map g).flatten) s
  | [], acc, _ => by show lcP turn [] acc s = _; unfold lcP; simp
  | a :: l, acc, h => by
    show lcP turn (f a :: l.map f) acc s = _
    unfold lcP
    rw [h a List.mem_cons_self]
    simp [lcP_flat f g l (acc ++ g a) fun b m => h b (List.mem_cons_of_mem _ m)]
theorem lcTurn2_nm (i j : Nat) (σw : Env) (runI : Env → St → Rz (List PV)) (runE : Env → St → Rz PV) (v : PV) (s : St) : lcTurn2 (.nm i) (.nm j) σw runI runE v s = (runI (σw.set i (some v)) s).bind fun xs s => lcP (lcTurn (.nm j) ((σw.set i (some v)).set j none) yes runE) xs [] s := by
  unfold lcTurn2
  simp
/-- a family's names, each once, ascending -/
def namesN (F : List (List Sg)) : List Sg := strsP (usort (nms F.flatten))
theorem namesN_ok (F : List (List Sg)) : usort (nms F.flatten) = nms (namesN F) ∧ NmsOf F (namesN F) := by
  obtain ⟨us, e, a, m⟩ := usort_ex F.flatten
  have : namesN F = us := by unfold namesN; rw [e, strsP_nms]
  rw [this]
  exact ⟨e, a, m⟩
theorem famP_flat : ∀ F : List (List Sg), (F.map fun ys => nms ys).flatten = nms F.flatten
  | [] => rfl
  | xs :: F => by
    show nms xs ++ (F.map fun ys => nms ys).flatten = nms (xs ++ F.flatten)
    rw [famP_flat F]
    exact List.map_append.symm
theorem namesof_run {D : List (Nat × Dfn)} (hd : D.lookup 2 = some x_names_of) (n : Nat) (s : St) {F : List (List Sg)} (hl : F.flatten.length < 64) : runD D (n + 1) 2 [.tup (famP F)] s = .ok (.lv (nms (namesN F)), true) s := by
  rw [run_def hd _ _ _ rfl]
  show fin (pB (runD D n) x_names_of.body [some (.tup (famP F)), none, none] [] s) = _
  have lc := lcP_flat (s := s) (turn := lcTurn2 (.nm 1) (.nm 2) [some (.tup (famP F)), none, none] (fun σ s => pI (runD D n) (.seq (.v 1)) σ s) (fun σ s => pE (runD D n) x_names_of_e0 σ s)) (fun ys => PV.tup (nms ys)) (fun ys => nms ys) F [] (fun ys hy => by
    rw [lcTurn2_nm]
    have l2 := lcP_map (s := s) (turn := lcTurn (.nm 2) [some (.tup (famP F)), some (.tup (nms ys)), none] yes (fun σ s => pE (runD D n) x_names_of_e0 σ s)) PV.str PV.str ys [] (fun y hy => by
      rw [lcTurn_nm]
      simp [yes, x_names_of_e0])
    rw [List.nil_append] at l2
    simp [l2])
  rw [List.nil_append, famP_flat] at lc
  have lc : lcP (lcTurn2 (.nm 1) (.nm 2) [some (.tup (famP F)), none, none] (fun σ s => pI (runD D n) (.seq (.v 1)) σ s) (fun σ s => pE (runD D n) x_names_of_e0 σ s)) (famP F) [] s = .ok (nms F.flatten) s := lc
  have hx : (nms F.flatten).length ≤ line := by rw [List.length_map]; unfold line; omega
  have hset := b_sset (s := s) (v := .lv (nms F.flatten)) (ys := nms (namesN F)) rfl (nms_setable hl) (namesN_ok F).1
  obtain ⟨L, hL⟩ : ∃ L, L = nms F.flatten := ⟨_, rfl⟩
  rw [← hL] at lc hset hx
  unfold x_names_of
  rw [show (XB.cons (.ret (.blt .sortedSet (.cons (.lc2 x_names_of_e0 (.nm 1) (.seq (.v 0)) (.nm 2) (.seq (.v 1))) .nil))) .nil : XB) = _ from rfl]
  refine (congrArg fin (pB_ret (r := (.lv (nms (namesN F)), true)) (s1 := s) ?_)).trans rfl
  rw [pX_blt, pE_blt, pL_cons, pE_lc2]
  have hi : pI (runD D n) (.seq (.v 0)) [some (.tup (famP F)), none, none] s = .ok (famP F) s := by simp
  rw [hi, bind_okE]
  rw [show wipeE (wipeE [some (.tup (famP F)), none, none] (TgE.slots (.nm 2))) (TgE.slots (.nm 1)) = [some (.tup (famP F)), none, none] by simp, lc]
  simp [hx, hset]
end Pu

set_option linter.all false
set_option autoImplicit false
set_option maxRecDepth 100000
set_option maxHeartbeats 4000000
/-! Q14: is_family, is_view, family_of at any value. -/
namespace Pu
def tupS : PV → List Sg
  | .tup ys => strsP ys
  | _ => []
theorem tupS_famP : ∀ F : List (List Sg), (famP F).map tupS = F
  | [] => rfl
  | ys :: F => by
    show strsP (nms ys) :: (famP F).map tupS = _
    rw [strsP_nms, tupS_famP F]
structure SetN (ys : List Sg) : Prop where
  l1 : 1 ≤ ys.length
  l6 : ys.length ≤ 6
  nm : ys.all nameB = true
  asc : ys.Pairwise (· < ·)
theorem isSet_iff {v : PV} : isSet v = true ↔ ∃ ys, v = .tup (nms ys) ∧ SetN ys := by
  constructor
  · intro h
    cases v with
    | tup xs =>
      have h : (decide (1 ≤ xs.length) && (decide (xs.length ≤ 6) && (xs.all isNm && ascB (strsP xs)))) = true := h
      simp only [Bool.and_eq_true, decide_eq_true_eq] at h
      obtain ⟨h1, h2, h3, h4⟩ := h
      obtain ⟨us, rfl, hu⟩ := isNm_nms h3
      rw [strsP_nms] at h4
      rw [List.length_map] at h1 h2
      exact ⟨us, rfl, h1, h2, hu, ascB_pw.mp h4⟩
    | _ => cases h
  · rintro ⟨ys, rfl, h⟩
    show (decide (1 ≤ (nms ys).length) && (decide ((nms ys).length ≤ 6) && ((nms ys).all isNm && ascB (strsP (nms ys))))) = true
    rw [List.length_map, decide_eq_true h.l1, decide_eq_true h.l6, nms_all h.nm, strsP_nms, ascB_pw.mpr h.asc]
    rfl
theorem sets_ex : ∀ {xs : List PV}, xs.all isSet = true → ∃ F, xs = famP F ∧ ∀ ys ∈ F, SetN ys
  | [], _ => ⟨[], rfl, fun _ h => by cases h⟩
  | x :: xs, h => by
    rw [List.all_cons, Bool.and_eq_true] at h
    obtain ⟨F, rfl, hF⟩ := sets_ex h.2
    obtain ⟨ys, rfl, hy⟩ := isSet_iff.mp h.1
    exact ⟨ys :: F, rfl, fun zs hz => by
      rcases List.mem_cons.mp hz with e | hz
      · rw [e]; exact hy
      · exact hF zs hz⟩
theorem flat_len {F : List (List Sg)} (h : ∀ ys ∈ F, ys.length ≤ 6) : F.flatten.length ≤ 6 * F.length := by
  induction F with
  | nil => simp
  | cons ys F ih =>
    have := ih fun zs hz => h zs (List.mem_cons_of_mem _ hz)
    have := h ys List.mem_cons_self
    rw [List.flatten_cons, List.length_append, List.length_cons]
    omega
def isFam : PV → Bool
  | .tup xs => decide (1 ≤ xs.length) && (decide (xs.length ≤ 6) && (xs.all isSet && decide ((namesN (xs.map tupS)).length ≤ 8)))
  | _ => false
/-- two deep -/
def pvs2 : PV → Bool
  | .tup xs => xs.all pvs
  | v => pv v
theorem pvs2_pv {v : PV} (h : pvs2 v = true) : pv v = true := by cases v <;> first | rfl | exact h
structure HasNm (D : List (Nat × Dfn)) : Prop where
  d0 : D.lookup 0 = some x_is_name
  d1 : D.lookup 1 = some x_is_name_set
  d2 : D.lookup 2 = some x_names_of
  d3 : D.lookup 3 = some x_is_family
  d4 : D.lookup 4 = some x_is_log
  d5 : D.lookup 5 = some x_is_view
  d6 : D.lookup 6 = some x_family_of
  d7 : D.lookup 7 = some x_is_case
theorem isfam_run {D : List (Nat × Dfn)} (hD : HasNm D) (n : Nat) (s : St) {v : PV} (h : pvs2 v = true) : runD D (n + 3) 3 [v] s = .ok (.bl (isFam v), false) s := by
  rw [run_def hD.d3 _ _ _ rfl]
  show fin (pB (runD D (n + 2)) x_is_family.body [some v, none] [] s) = _
  by_cases hs : ∃ xs, v = .tup xs
  · obtain ⟨xs, rfl⟩ := hs
    by_cases c1 : 1 ≤ xs.length
    · have e1 : decide ((1 : Int) ≤ xs.length) = true := decide_eq_true (by omega)
      by_cases c2 : xs.length ≤ 6
      · have e2 : decide ((xs.length : Int) ≤ 6) = true := decide_eq_true (by omega)
        have lc := lcP_map (s := s) (turn := lcTurn (.nm 1) [some (.tup xs), none] (fun _ s => .ok true s) (fun σ s => pE (runD D (n + 2)) x_is_family_e0 σ s)) (fun v => v) (fun v => PV.bl (isSet v)) xs [] (fun v hv => by
          have := isset_run hD.d0 hD.d1 n s (List.all_eq_true.mp h v hv)
          rw [lcTurn_nm]
          simp [x_is_family_e0, this])
        rw [List.nil_append, List.map_id'] at lc
        have ha := b_all s isSet xs
        have hx : xs.length ≤ line := by unfold line; omega
        have e : isFam (.tup xs) = (xs.all isSet && decide ((namesN (xs.map tupS)).length ≤ 8)) := by
          show (decide (1 ≤ xs.length) && (decide (xs.length ≤ 6) && _)) = _
          rw [decide_eq_true c1, decide_eq_true c2]
          rfl
        rw [e]
        cases hn : xs.all isSet with
        | false =>
          rw [hn] at ha
          simp [-decide_eq_true_eq, x_is_family, e1, e2, lc, ha, hx]
        | true =>
          rw [hn] at ha
          obtain ⟨F, rfl, hF⟩ := sets_ex hn
          have fl := flat_len fun ys hy => (hF ys hy).l6
          rw [famP_len] at c2
          have nr := namesof_run hD.d2 (n + 1) s (F := F) (by omega)
          have e3 : ∀ k : Nat, decide ((k : Int) ≤ 8) = decide (k ≤ 8) := fun k => by by_cases c : k ≤ 8 <;> simp [c] <;> omega
          rw [tupS_famP, Bool.true_and]
          obtain ⟨L, hL⟩ : ∃ L, L = nms (namesN F) := ⟨_, rfl⟩
          have ll : (namesN F).length = L.length := by rw [hL, List.length_map]
          rw [← hL] at nr
          rw [ll, ← e3]
          obtain ⟨G, hG⟩ : ∃ G, G = famP F := ⟨_, rfl⟩
          rw [← hG] at lc ha e1 e2 hx nr ⊢
          simp [-decide_eq_true_eq, x_is_family, e1, e2, lc, ha, hx, nr]
      · have e2 : decide ((xs.length : Int) ≤ 6) = false := decide_eq_false (by omega)
        have e : isFam (.tup xs) = false := by
          show (decide (1 ≤ xs.length) && (decide (xs.length ≤ 6) && _)) = _
          rw [decide_eq_false c2]
          simp
        rw [e]
        simp [-decide_eq_true_eq, -decide_eq_false_iff_not, x_is_family, e1, e2]
    · have e1 : decide ((1 : Int) ≤ xs.length) = false := decide_eq_false (by omega)
      have e : isFam (.tup xs) = false := by
        show (decide (1 ≤ xs.length) && _) = _
        rw [decide_eq_false c1]
        rfl
      rw [e]
      simp [-decide_eq_true_eq, -decide_eq_false_iff_not, x_is_family, e1]
  · have e : isFam v = false := by
      cases v <;> first | rfl | exact absurd ⟨_, rfl⟩ hs
    have hk := isTup_no (s := s) (pvs2_pv h) fun x z => hs ⟨x, z⟩
    rw [e]
    simp [x_is_family, hk]
/-- is a value one of the names? -/
def memS (us : List Sg) : PV → Bool
  | .str y => decide (y ∈ us)
  | _ => false
theorem any_ne (v : PV) (h : ∀ y, v ≠ .str y) : ∀ us : List Sg, ((nms us).any fun e => eqv e v) = false
  | [] => rfl
  | u :: us => by
    show (eqv (.str u) v || (nms us).any fun e => eqv e v) = false
    rw [any_ne v h us, Bool.or_false]
    cases v <;> first | (unfold eqv; rfl) | exact absurd rfl (h _)
theorem cop_in_any {v : PV} (hd : v.dk 60 = true) (us : List Sg) : cop .isin v (.tup (nms us)) = some (memS us v) := by
  by_cases h : ∃ y, v = .str y
  · obtain ⟨y, rfl⟩ := h
    exact cop_in_tup y us
  · have h2 : ∀ y, v ≠ .str y := fun y z => h ⟨y, z⟩
    have e : cop .isin v (.tup (nms us)) = inD v (nms us) := by
      unfold cop
      cases v <;> first | rfl | exact absurd rfl (h2 _)
    rw [e]
    unfold inD
    rw [hd, dks_nms, any_ne v h2]
    show some false = _
    cases v <;> first | rfl | exact absurd rfl (h2 _)
def isView (us : List Sg) : PV → Bool
  | .tup xs => decide (xs.length ≤ 20) && xs.all (memS us)
  | _ => false
theorem dks_mem : ∀ {xs : List PV} {n : Nat}, PV.dks xs n = true → ∀ x ∈ xs, x.dk n = true
  | [], _, _, _, h => by cases h
  | y :: ys, n, h, x, hx => by
    unfold PV.dks at h
    obtain ⟨h1, h2⟩ := Bool.and_eq_true_iff.mp h
    rcases List.mem_cons.mp hx with e | hx
    · rw [e]; exact h1
    · exact dks_mem h2 x hx
theorem isview_run {D : List (Nat × Dfn)} (hD : HasNm D) (n : Nat) (s : St) {v : PV} (us : List Sg) (h : pv v = true) (hd : ∀ xs, v = .tup xs → PV.dks xs 60 = true) : runD D (n + 1) 5 [v, .tup (nms us)] s = .ok (.bl (isView us v), false) s := by
  rw [run_def hD.d5 _ _ _ rfl]
  show fin (pB (runD D n) x_is_view.body [some v, some (.tup (nms us)), none] [] s) = _
  by_cases hs : ∃ xs, v = .tup xs
  · obtain ⟨xs, rfl⟩ := hs
    by_cases c2 : xs.length ≤ 20
    · have dk : ∀ x ∈ xs, x.dk 60 = true := dks_mem (hd xs rfl)
      have lc := lcP_map (s := s) (turn := lcTurn (.nm 2) [some (.tup xs), some (.tup (nms us)), none] (fun _ s => .ok true s) (fun σ s => pE (runD D n) x_is_view_e0 σ s)) (fun v => v) (fun v => PV.bl (memS us v)) xs [] (fun v hv => by
        have := cop_in_any (dk v hv) us
        rw [lcTurn_nm]
        simp only [nms] at this ⊢
        simp [x_is_view_e0, this])
      rw [List.nil_append, List.map_id'] at lc
      have ha := b_all s (memS us) xs
      have e2 : decide ((xs.length : Int) ≤ 20) = true := decide_eq_true (by omega)
      have hx : xs.length ≤ line := by unfold line; omega
      have e : isView us (.tup xs) = xs.all (memS us) := by
        show (decide (xs.length ≤ 20) && _) = _
        rw [decide_eq_true c2]
        rfl
      rw [e]
      simp [-decide_eq_true_eq, x_is_view, e2, lc, ha, hx]
    · have e2 : decide ((xs.length : Int) ≤ 20) = false := decide_eq_false (by omega)
      have e : isView us (.tup xs) = false := by
        show (decide (xs.length ≤ 20) && _) = _
        rw [decide_eq_false c2]
        rfl
      rw [e]
      simp [-decide_eq_true_eq, -decide_eq_false_iff_not, x_is_view, e2]
  · have e : isView us v = false := by
      cases v <;> first | rfl | exact absurd ⟨_, rfl⟩ hs
    have hk := isTup_no (s := s) h fun x z => hs ⟨x, z⟩
    rw [e]
    simp [x_is_view, hk]
end Pu

set_option linter.all false
set_option autoImplicit false
set_option maxRecDepth 100000
set_option maxHeartbeats 4000000
/-! Q15: is_case at any value. -/
namespace Pu
theorem lcTurn_tp2 (i j : Nat) (σw : Env) (runT : Env → St → Rz Bool) (runE : Env → St → Rz PV) (a b : PV) (s : St) : lcTurn (.tp [.nm i, .nm j]) σw runT runE (.tup [a, b]) s = (runT ((σw.set i (some a)).set j (some b)) s).bind fun c s => if c then (runE ((σw.set i (some a)).set j (some b)) s).bind fun x s => .ok [x] s else .ok [] s := by
  unfold lcTurn
  simp
def pairP (p : PV × PV) : PV := .tup [p.1, p.2]
theorem familyof_run {D : List (Nat × Dfn)} (hD : HasNm D) (n : Nat) (s : St) (ab : List (PV × PV)) (hl : ab.length ≤ line) : runD D (n + 1) 6 [.tup (ab.map pairP)] s = .ok (.tup (ab.map (·.1)), false) s := by
  rw [run_def hD.d6 _ _ _ rfl]
  show fin (pB (runD D n) x_family_of.body [some (.tup (ab.map pairP)), none, none] [] s) = _
  have lc := lcP_map (s := s) (turn := lcTurn (.tp [.nm 1, .nm 2]) [some (.tup (ab.map pairP)), none, none] (fun _ s => .ok true s) (fun σ s => pE (runD D n) x_family_of_e0 σ s)) pairP (·.1) ab [] (fun p hp => by
    unfold pairP
    rw [lcTurn_tp2]
    simp [x_family_of_e0])
  rw [List.nil_append] at lc
  obtain ⟨L, hL⟩ : ∃ L, L = ab.map pairP := ⟨_, rfl⟩
  obtain ⟨M, hM⟩ : ∃ M, M = ab.map (·.1) := ⟨_, rfl⟩
  have ml : M.length ≤ line := by rw [hM, List.length_map]; exact hl
  rw [← hL, ← hM] at lc
  rw [← hL, ← hM]
  simp [x_family_of, lc, ml]
def isPair : PV → Bool
  | .tup xs => decide (xs.length = 2)
  | _ => false
theorem pairs_ex : ∀ {ps : List PV}, ps.all isPair = true → ∃ ab : List (PV × PV), ps = ab.map pairP
  | [], _ => ⟨[], rfl⟩
  | p :: ps, h => by
    rw [List.all_cons, Bool.and_eq_true] at h
    obtain ⟨ab, rfl⟩ := pairs_ex h.2
    have h1 := h.1
    cases p with
    | tup xs =>
      have h1 : decide (xs.length = 2) = true := h1
      have h1 := of_decide_eq_true h1
      match xs, h1 with
      | [a, b], _ => exact ⟨(a, b) :: ab, rfl⟩
    | _ => cases h1
def fstP : PV → PV
  | .tup (a :: _) => a
  | v => v
def sndP : PV → PV
  | .tup [_, b] => b
  | v => v
theorem fst_map : ∀ ab : List (PV × PV), (ab.map pairP).map fstP = ab.map (·.1)
  | [] => rfl
  | p :: ab => by
    show p.1 :: (ab.map pairP).map fstP = _
    rw [fst_map ab]
    rfl
def isCase : PV → Bool
  | .tup ps => ps.all isPair && (isFam (.tup (ps.map fstP)) && ps.all fun p => isView (tupS (fstP p)) (sndP p))
  | _ => false
/-- a value that may be asked whether it is a case -/
structure Cv (v : PV) : Prop where
  pv : pv v = true
  el : ∀ ps, v = .tup ps → ps.length ≤ line ∧ ∀ p ∈ ps, Pu.pv p = true ∧ ∀ a b, p = .tup [a, b] → pvs a = true ∧ Pu.pv b = true ∧ ∀ xs, b = .tup xs → PV.dks xs 60 = true
theorem iscase_run {D : List (Nat × Dfn)} (hD : HasNm D) (n : Nat) (s : St) {v : PV} (h : Cv v) : runD D (n + 4) 7 [v] s = .ok (.bl (isCase v), false) s := by
  rw [run_def hD.d7 _ _ _ rfl]
  show fin (pB (runD D (n + 3)) x_is_case.body [some v, none, none, none] [] s) = _
  by_cases hs : ∃ xs, v = .tup xs
  · obtain ⟨ps, rfl⟩ := hs
    obtain ⟨hl, hp⟩ := h.el ps rfl
    have lc := lcP_map (s := s) (turn := lcTurn (.nm 1) [some (.tup ps), none, none, none] (fun _ s => .ok true s) (fun σ s => pE (runD D (n + 3)) x_is_case_e1 σ s)) (fun v => v) (fun v => PV.bl (isPair v)) ps [] (fun v hv => by
      rw [lcTurn_nm]
      by_cases hs : ∃ xs, v = .tup xs
      · obtain ⟨xs, rfl⟩ := hs
        have e : isPair (.tup xs) = decide ((xs.length : Int) = 2) := by
          show decide (xs.length = 2) = _
          by_cases c : xs.length = 2 <;> simp [c] <;> omega
        rw [e]
        simp [-decide_eq_true_eq, x_is_case_e1]
      · have e : isPair v = false := by
          cases v <;> first | rfl | exact absurd ⟨_, rfl⟩ hs
        have hk := isTup_no (s := s) (hp v hv).1 fun x z => hs ⟨x, z⟩
        rw [e]
        simp [x_is_case_e1, hk])
    rw [List.nil_append, List.map_id'] at lc
    have ha := b_all s isPair ps
    cases hn : ps.all isPair with
    | false =>
      rw [hn] at ha
      have e : isCase (.tup ps) = false := by
        show (ps.all isPair && _) = _
        rw [hn]
        rfl
      rw [e]
      simp [x_is_case, lc, ha, hl]
    | true =>
      rw [hn] at ha
      obtain ⟨ab, rfl⟩ := pairs_ex hn
      have hp2 : ∀ p ∈ ab, pvs p.1 = true ∧ Pu.pv p.2 = true ∧ ∀ xs, p.2 = .tup xs → PV.dks xs 60 = true := fun p m => (hp (pairP p) (List.mem_map_of_mem m)).2 p.1 p.2 rfl
      rw [List.length_map] at hl
      have fo := familyof_run hD (n + 2) s ab hl
      have hpv : pvs2 (.tup (ab.map (·.1))) = true := List.all_eq_true.mpr fun x hx => by
        obtain ⟨p, m, rfl⟩ := List.mem_map.mp hx
        exact (hp2 p m).1
      have fr := isfam_run hD n s hpv
      have e : isCase (.tup (ab.map pairP)) = (isFam (.tup (ab.map (·.1))) && (ab.map pairP).all fun p => isView (tupS (fstP p)) (sndP p)) := by
        show ((ab.map pairP).all isPair && (isFam (.tup ((ab.map pairP).map fstP)) && _)) = _
        rw [hn, fst_map]
        rfl
      have hl2 : (ab.map pairP).length ≤ line := by rw [List.length_map]; exact hl
      cases hf : isFam (.tup (ab.map (·.1))) with
      | false =>
        rw [hf] at fr
        rw [e, hf]
        obtain ⟨L, hL⟩ : ∃ L, L = ab.map pairP := ⟨_, rfl⟩
        obtain ⟨M, hM⟩ : ∃ M, M = ab.map (·.1) := ⟨_, rfl⟩
        rw [← hL] at lc ha hl2 fo ⊢
        rw [← hM] at fo fr
        simp [x_is_case, lc, ha, hl2, fo, fr]
      | true =>
        have hsets : (ab.map (·.1)).all isSet = true := by
          have hf : (decide (1 ≤ (ab.map (·.1)).length) && (decide ((ab.map (·.1)).length ≤ 6) && ((ab.map (·.1)).all isSet && _))) = true := hf
          exact (Bool.and_eq_true_iff.mp (Bool.and_eq_true_iff.mp (Bool.and_eq_true_iff.mp hf).2).2).1
        have lc2 := lcP_map (s := s) (turn := lcTurn (.tp [.nm 2, .nm 3]) [some (.tup (ab.map pairP)), none, none, none] (fun _ s => .ok true s) (fun σ s => pE (runD D (n + 3)) x_is_case_e0 σ s)) pairP (fun p => PV.bl (isView (tupS p.1) p.2)) ab [] (fun p m => by
          obtain ⟨a, b⟩ := p
          obtain ⟨q1, q2, q3⟩ := hp2 _ m
          obtain ⟨ys, ey, _⟩ := isSet_iff.mp (List.all_eq_true.mp hsets a (List.mem_map_of_mem (f := (·.1)) m))
          subst ey
          have vr := isview_run hD (n + 2) s ys q2 q3
          unfold pairP
          rw [lcTurn_tp2]
          show _ = Rz.ok [PV.bl (isView (strsP (nms ys)) b)] s
          rw [strsP_nms]
          simp only [nms] at vr ⊢
          simp [x_is_case_e0, vr])
        rw [List.nil_append] at lc2
        have ha2 := b_all s (fun p : PV × PV => isView (tupS p.1) p.2) ab
        have e9 : ((ab.map pairP).all fun p => isView (tupS (fstP p)) (sndP p)) = ab.all fun p => isView (tupS p.1) p.2 := by
          rw [List.all_map]
          rfl
        rw [hf] at fr
        rw [e, hf, e9]
        obtain ⟨B, hB⟩ : ∃ B, B = ab.map fun p => PV.bl (isView (tupS p.1) p.2) := ⟨_, rfl⟩
        have bl : B.length ≤ line := by rw [hB, List.length_map]; exact hl
        rw [← hB] at lc2 ha2
        obtain ⟨L, hL⟩ : ∃ L, L = ab.map pairP := ⟨_, rfl⟩
        obtain ⟨M, hM⟩ : ∃ M, M = ab.map (·.1) := ⟨_, rfl⟩
        rw [← hL] at lc lc2 ha hl2 fo ⊢
        rw [← hM] at fo fr
        simp [x_is_case, lc, ha, hl2, fo, fr, lc2, ha2, bl]
  · have e : isCase v = false := by
      cases v <;> first | rfl | exact absurd ⟨_, rfl⟩ hs
    have hk := isTup_no (s := s) h.pv fun x z => hs ⟨x, z⟩
    rw [e]
    simp [x_is_case, hk]
end Pu

set_option linter.all false
set_option autoImplicit false
set_option maxRecDepth 100000
set_option maxHeartbeats 4000000
/-! Q16: require_*, restrict, fits. -/
namespace Pu
structure HasFit (D : List (Nat × Dfn)) : Prop extends HasNm D where
  d8 : D.lookup 8 = some x_require_names
  d9 : D.lookup 9 = some x_require_log
  d10 : D.lookup 10 = some x_require_case
  d11 : D.lookup 11 = some x_restrict_log
  d12 : D.lookup 12 = some x_fits_case
  d13 : D.lookup 13 = some x_restrict
  d14 : D.lookup 14 = some x_fits
section
variable {D : List (Nat × Dfn)}
theorem reqN_run (hD : HasFit D) (n : Nat) (s : St) {v : PV} (h : pvs v = true) : runD D (n + 3) 8 [v] s = if isSet v then .ok (.non, false) s else .ex 1 [] s := by
  have r := isset_run hD.d0 hD.d1 n s h
  rw [run_def hD.d8 _ _ _ rfl]
  show fin (pB (runD D (n + 2)) x_require_names.body [some v] [] s) = _
  cases c : isSet v <;> rw [c] at r <;> simp [x_require_names, r]
theorem reqL_run (hD : HasFit D) (n : Nat) (s : St) {v : PV} (h : pvs v = true) : runD D (n + 3) 9 [v] s = if isLog v then .ok (.non, false) s else .ex 3 [] s := by
  have r := islog_run hD.d0 hD.d4 n s h
  rw [run_def hD.d9 _ _ _ rfl]
  show fin (pB (runD D (n + 2)) x_require_log.body [some v] [] s) = _
  cases c : isLog v <;> rw [c] at r <;> simp [x_require_log, r]
theorem reqC_run (hD : HasFit D) (n : Nat) (s : St) {v : PV} (h : Cv v) : runD D (n + 5) 10 [v] s = if isCase v then .ok (.non, false) s else .ex 4 [] s := by
  have r := iscase_run hD.toHasNm n s h
  rw [run_def hD.d10 _ _ _ rfl]
  show fin (pB (runD D (n + 4)) x_require_case.body [some v] [] s) = _
  cases c : isCase v <;> rw [c] at r <;> simp [x_require_case, r]
theorem rlog_run (hD : HasFit D) (n : Nat) (s : St) (row us : List Sg) (hl : row.length ≤ line) : runD D (n + 1) 11 [.tup (nms row), .tup (nms us)] s = .ok (.tup (nms (row.filter fun x => decide (x ∈ us))), false) s := by
  have lc := lcP_filter (s := s) (turn := lcTurn (.nm 2) [some (.tup (nms row)), some (.tup (nms us)), none] (fun σ s => (pE (runD D n) x_restrict_log_e1 σ s).bind fun x s => asB x s) (fun σ s => pE (runD D n) x_restrict_log_e0 σ s)) (fun x => decide (x ∈ us)) row (fun y hy => by
    rw [lcTurn_nm]
    by_cases c : y ∈ us <;> simp [x_restrict_log_e1, x_restrict_log_e0, cop_in_tup, c])
  have h2 : (row.filter fun x => decide (x ∈ us)).length ≤ line := Nat.le_trans (List.length_filter_le _ _) hl
  rw [run_def hD.d11 _ _ _ rfl]
  show fin (pB (runD D n) x_restrict_log.body [some (.tup (nms row)), some (.tup (nms us)), none] [] s) = _
  simp only [nms] at lc h2 ⊢
  simp [x_restrict_log, lc, h2]
theorem isLog_iff {v : PV} : isLog v = true ↔ ∃ row, v = .tup (nms row) ∧ row.length ≤ 120 ∧ row.all nameB = true := by
  constructor
  · intro h
    cases v with
    | tup xs =>
      have h : (decide (xs.length ≤ 120) && xs.all isNm) = true := h
      simp only [Bool.and_eq_true, decide_eq_true_eq] at h
      obtain ⟨us, rfl, hu⟩ := isNm_nms h.2
      exact ⟨us, rfl, by have := h.1; rw [List.length_map] at this; exact this, hu⟩
    | _ => cases h
  · rintro ⟨row, rfl, h1, h2⟩
    show (decide ((nms row).length ≤ 120) && (nms row).all isNm) = true
    rw [List.length_map, decide_eq_true h1, nms_all h2]
    rfl
/-- restrict, of right values; of wrong ones -/
theorem restrict_ok (hD : HasFit D) (n : Nat) (s : St) {row us : List Sg} (hr : isLog (.tup (nms row)) = true) (hu : isSet (.tup (nms us)) = true) (p1 : pvs (.tup (nms row)) = true) (p2 : pvs (.tup (nms us)) = true) : runD D (n + 4) 13 [.tup (nms row), .tup (nms us)] s = .ok (.tup (nms (row.filter fun x => decide (x ∈ us))), false) s := by
  have r1 := reqL_run hD n s p1
  have r2 := reqN_run hD n s p2
  rw [if_pos hr] at r1
  rw [if_pos hu] at r2
  obtain ⟨row', e, hl, _⟩ := isLog_iff.mp hr
  have e := nms_inj (PV.tup.inj e)
  subst e
  have r3 := rlog_run hD (n + 2) s row us (by unfold line; omega)
  rw [run_def hD.d13 _ _ _ rfl]
  show fin (pB (runD D (n + 3)) x_restrict.body [some (.tup (nms row)), some (.tup (nms us))] [] s) = _
  simp only [nms] at r1 r2 r3 ⊢
  simp [x_restrict, r1, r2, r3]
theorem restrict_log (hD : HasFit D) (n : Nat) (s : St) {v w : PV} (hr : isLog v = false) (p1 : pvs v = true) : runD D (n + 4) 13 [v, w] s = .ex 3 [] s := by
  have r1 := reqL_run hD n s p1
  rw [hr] at r1
  rw [run_def hD.d13 _ _ _ rfl]
  show fin (pB (runD D (n + 3)) x_restrict.body [some v, some w] [] s) = _
  simp [x_restrict, r1]
theorem restrict_names (hD : HasFit D) (n : Nat) (s : St) {v w : PV} (hr : isLog v = true) (hw : isSet w = false) (p1 : pvs v = true) (p2 : pvs w = true) : runD D (n + 4) 13 [v, w] s = .ex 1 [] s := by
  have r1 := reqL_run hD n s p1
  have r2 := reqN_run hD n s p2
  rw [hr] at r1
  rw [hw] at r2
  rw [run_def hD.d13 _ _ _ rfl]
  show fin (pB (runD D (n + 3)) x_restrict.body [some v, some w] [] s) = _
  simp [x_restrict, r1, r2]
theorem fits_case_bad (hD : HasFit D) (n : Nat) (s : St) {v w : PV} (hr : isCase v = false) (p1 : Cv v) : runD D (n + 6) 14 [v, w] s = .ex 4 [] s := by
  have r1 := reqC_run hD n s p1
  rw [hr] at r1
  rw [run_def hD.d14 _ _ _ rfl]
  show fin (pB (runD D (n + 5)) x_fits.body [some v, some w] [] s) = _
  simp [x_fits, r1]
theorem fits_log_bad (hD : HasFit D) (n : Nat) (s : St) {v w : PV} (hr : isCase v = true) (hw : isLog w = false) (p1 : Cv v) (p2 : pvs w = true) : runD D (n + 6) 14 [v, w] s = .ex 3 [] s := by
  have r1 := reqC_run hD n s p1
  have r2 := reqL_run hD (n + 2) s p2
  rw [hr] at r1
  rw [hw] at r2
  rw [run_def hD.d14 _ _ _ rfl]
  show fin (pB (runD D (n + 5)) x_fits.body [some v, some w] [] s) = _
  simp [x_fits, r1, r2]
end
end Pu

set_option linter.all false
set_option autoImplicit false
set_option maxRecDepth 100000
set_option maxHeartbeats 4000000
/-! Q17: fits of right values. -/
namespace Pu
abbrev Cas := List (List Sg × List Sg)
def pairN (p : List Sg × List Sg) : PV × PV := (.tup (nms p.1), .tup (nms p.2))
def caseQ (Q : Cas) : PV := .tup ((Q.map pairN).map pairP)
theorem zipP_zip : ∀ F V : List (List Sg), zipP (famP F) (famP V) = ((F.zip V).map pairN).map pairP
  | [], V => by show zipP [] (famP V) = _; unfold zipP; simp
  | ys :: F, [] => by show zipP (famP (ys :: F)) [] = _; unfold zipP famP; simp
  | ys :: F, vs :: V => by
    show zipP (.tup (nms ys) :: famP F) (.tup (nms vs) :: famP V) = _
    unfold zipP
    rw [zipP_zip F V]
    rfl
theorem caseP_Q (F V : List (List Sg)) : caseP F V = caseQ (F.zip V) := by
  unfold caseP caseQ
  rw [zipP_zip]
theorem famQ (Q : Cas) : (Q.map pairN).map (·.1) = famP (Q.map (·.1)) := by
  unfold famP
  rw [List.map_map, List.map_map]
  rfl
def fitsB (Q : Cas) (row : List Sg) : Bool := (row.all fun x => decide (x ∈ namesN (Q.map (·.1)))) && Q.all fun p => decide ((row.filter fun x => decide (x ∈ p.1)) = p.2)
theorem fitscase_run {D : List (Nat × Dfn)} (hD : HasFit D) (n : Nat) (s : St) {Q : Cas} {row : List Sg} (hl : row.length ≤ 1000) (hq : Q.length ≤ 1000) (hf : (Q.map (·.1)).flatten.length < 64) : runD D (n + 2) 12 [caseQ Q, .tup (nms row)] s = .ok (.bl (fitsB Q row), false) s := by
  have big : 1000 ≤ line := by unfold line; omega
  have fo := familyof_run hD.toHasNm n s (Q.map pairN) (by rw [List.length_map]; omega)
  rw [famQ] at fo
  have no := namesof_run hD.d2 n s (F := Q.map (·.1)) hf
  obtain ⟨us, hus⟩ : ∃ us, us = namesN (Q.map (·.1)) := ⟨_, rfl⟩
  have fo : runD D (n + 1) 6 [caseQ Q] s = .ok (.tup (famP (Q.map (·.1))), false) s := fo
  rw [run_def hD.d12 _ _ _ rfl]
  show fin (pB (runD D (n + 1)) x_fits_case.body [some (caseQ Q), some (.tup (nms row)), none, none, none, none] [] s) = _
  have lc1 := lcP_map (s := s) (turn := lcTurn (.nm 3) [some (caseQ Q), some (.tup (nms row)), some (.lv (nms us)), none, none, none] (fun _ s => .ok true s) (fun σ s => pE (runD D (n + 1)) x_fits_case_e0 σ s)) PV.str (fun x => PV.bl (decide (x ∈ us))) row [] (fun x hx => by
    have := cop_in_lv x us
    rw [lcTurn_nm]
    simp only [nms] at this ⊢
    simp [x_fits_case_e0, this])
  rw [List.nil_append] at lc1
  have a1 := b_all s (fun x => decide (x ∈ us)) row
  have lc2 := lcP_map (s := s) (turn := lcTurn (.tp [.nm 4, .nm 5]) [some (caseQ Q), some (.tup (nms row)), some (.lv (nms us)), none, none, none] (fun _ s => .ok true s) (fun σ s => pE (runD D (n + 1)) x_fits_case_e1 σ s)) (fun p => pairP (pairN p)) (fun p : List Sg × List Sg => PV.bl (decide ((row.filter fun x => decide (x ∈ p.1)) = p.2))) Q [] (fun p hp => by
    have r := rlog_run hD n s row p.1 (by omega)
    have e := eq_tup (row.filter fun x => decide (x ∈ p.1)) p.2
    unfold pairP pairN
    rw [lcTurn_tp2]
    obtain ⟨z, hz⟩ : ∃ z, z = nms (row.filter fun x => decide (x ∈ p.1)) := ⟨_, rfl⟩
    rw [← hz] at r e
    obtain ⟨b, hb⟩ : ∃ b, b = decide ((row.filter fun x => decide (x ∈ p.1)) = p.2) := ⟨_, rfl⟩
    rw [← hb] at e
    rw [← hb]
    simp [x_fits_case_e1, r, e])
  rw [List.nil_append] at lc2
  have lc2 : lcP (lcTurn (.tp [.nm 4, .nm 5]) [some (caseQ Q), some (.tup (nms row)), some (.lv (nms us)), none, none, none] (fun _ s => .ok true s) (fun σ s => pE (runD D (n + 1)) x_fits_case_e1 σ s)) ((Q.map pairN).map pairP) [] s = .ok (Q.map fun p => PV.bl (decide ((row.filter fun x => decide (x ∈ p.1)) = p.2))) s := by
    rw [List.map_map]
    exact lc2
  have a2 := b_all s (fun p : List Sg × List Sg => decide ((row.filter fun x => decide (x ∈ p.1)) = p.2)) Q
  have seq1 : pI (runD D (n + 1)) (.seq (.v 1)) [some (caseQ Q), some (.tup (nms row)), some (.lv (nms us)), none, none, none] s = .ok (nms row) s := by simp
  have seq0 : pI (runD D (n + 1)) (.seq (.v 0)) [some (caseQ Q), some (.tup (nms row)), some (.lv (nms us)), none, none, none] s = .ok ((Q.map pairN).map pairP) s := by
    unfold caseQ
    simp
  unfold fitsB
  rw [← hus]
  rw [← hus] at no
  obtain ⟨B1, hB1⟩ : ∃ B, B = row.map fun x => PV.bl (decide (x ∈ us)) := ⟨_, rfl⟩
  have l1 : B1.length ≤ line := by rw [hB1, List.length_map]; omega
  rw [← hB1] at lc1 a1
  obtain ⟨B2, hB2⟩ : ∃ B, B = Q.map fun p => PV.bl (decide ((row.filter fun x => decide (x ∈ p.1)) = p.2)) := ⟨_, rfl⟩
  have l2 : B2.length ≤ line := by rw [hB2, List.length_map]; omega
  rw [← hB2] at lc2 a2
  obtain ⟨b1, hb1⟩ : ∃ b, b = row.all fun x => decide (x ∈ us) := ⟨_, rfl⟩
  rw [← hb1] at a1
  rw [← hb1]
  obtain ⟨b2, hb2⟩ : ∃ b, b = Q.all fun p => decide ((row.filter fun x => decide (x ∈ p.1)) = p.2) := ⟨_, rfl⟩
  rw [← hb2] at a2
  rw [← hb2]
  obtain ⟨LP, hLP⟩ : ∃ L, L = (Q.map pairN).map pairP := ⟨_, rfl⟩
  rw [← hLP] at lc2 seq0
  have w3 : wipeE [some (caseQ Q), some (.tup (nms row)), some (.lv (nms us)), none, none, none] (TgE.slots (.nm 3)) = [some (caseQ Q), some (.tup (nms row)), some (.lv (nms us)), none, none, none] := by simp
  have w45 : wipeE [some (caseQ Q), some (.tup (nms row)), some (.lv (nms us)), none, none, none] (TgE.slots (.tp [.nm 4, .nm 5])) = [some (caseQ Q), some (.tup (nms row)), some (.lv (nms us)), none, none, none] := by simp
  have E1 : pE (runD D (n + 1)) (.blt .all (.cons (.lc x_fits_case_e0 (.nm 3) (.seq (.v 1)) .none) .nil)) [some (caseQ Q), some (.tup (nms row)), some (.lv (nms us)), none, none, none] s = .ok (.bl b1) s := by
    rw [pE_blt, pL_cons, pE_lc, seq1, bind_okE, w3]
    simp [lc1, l1, a1]
  have E2 : pE (runD D (n + 1)) (.blt .all (.cons (.lc x_fits_case_e1 (.tp [.nm 4, .nm 5]) (.seq (.v 0)) .none) .nil)) [some (caseQ Q), some (.tup (nms row)), some (.lv (nms us)), none, none, none] s = .ok (.bl b2) s := by
    rw [pE_blt, pL_cons, pE_lc, seq0, bind_okE, w45]
    simp [lc2, l2, a2]
  refine (congrArg fin (pB_asg (r := (.lv (nms us), true)) (s1 := s) ?_)).trans ((congrArg fin (pB_ret (r := (.bl (b1 && b2), false)) (s1 := s) ?_)).trans rfl)
  · simp [fo, no]
  · show pX (runD D (n + 1)) _ [some (caseQ Q), some (.tup (nms row)), some (.lv (nms us)), none, none, none] s = _
    rw [pX_and, pE_and, E1, bind_okE, asB_bl, bind_okE]
    cases b1 with
    | false => rfl
    | true =>
      rw [if_pos rfl, E2]
      simp
end Pu

set_option linter.all false
set_option autoImplicit false
set_option maxRecDepth 100000
set_option maxHeartbeats 4000000
/-! Q18: refusals. -/
namespace Pu
def namesT : Sg := [110, 97, 109, 101, 115]
def logT : Sg := [108, 111, 103]
def caseT : Sg := [99, 97, 115, 101]
theorem refusal_run {D : List (Nat × Dfn)} (hd : D.lookup 27 = some x__law_refusal) (n : Nat) (s : St) : runD D (n + 1) 27 [.exc 1 []] s = .ok (.str namesT, false) s ∧ runD D (n + 1) 27 [.exc 3 []] s = .ok (.str logT, false) s ∧ runD D (n + 1) 27 [.exc 4 []] s = .ok (.str caseT, false) s := by
  rw [run_def hd _ _ _ rfl, run_def hd _ _ _ rfl, run_def hd _ _ _ rfl]
  exact ⟨rfl, rfl, rfl⟩
end Pu

set_option linter.all false
set_option autoImplicit false
set_option maxRecDepth 100000
set_option maxHeartbeats 4000000
/-! Q19: fits of right values; the pen is opened. -/
namespace Pu
theorem fits_ok {D : List (Nat × Dfn)} (hD : HasFit D) (n : Nat) (s : St) {Q : Cas} {row : List Sg} (hc : isCase (caseQ Q) = true) (hr : isLog (.tup (nms row)) = true) (p1 : Cv (caseQ Q)) (p2 : pvs (.tup (nms row)) = true) (hq : Q.length ≤ 6) (h6 : ∀ p ∈ Q, p.1.length ≤ 6) :
    runD D (n + 6) 14 [caseQ Q, .tup (nms row)] s = .ok (.bl (fitsB Q row), false) s := by
  have r1 := reqC_run hD n s p1
  have r2 := reqL_run hD (n + 2) s p2
  rw [if_pos hc] at r1
  rw [if_pos hr] at r2
  obtain ⟨row', e, hl, _⟩ := isLog_iff.mp hr
  have e := nms_inj (PV.tup.inj e)
  subst e
  have fl := flat_len (F := Q.map (·.1)) fun ys hy => by
    obtain ⟨p, m, rfl⟩ := List.mem_map.mp hy
    exact h6 p m
  rw [List.length_map] at fl
  have r3 := fitscase_run hD (n + 3) s (Q := Q) (row := row) (by omega) (by omega) (by omega)
  obtain ⟨c, hcq⟩ : ∃ c, c = caseQ Q := ⟨_, rfl⟩
  rw [← hcq] at r1 r3 ⊢
  rw [run_def hD.d14 _ _ _ rfl]
  show fin (pB (runD D (n + 5)) x_fits.body [some c, some (.tup (nms row))] [] s) = _
  simp only [nms] at r1 r2 r3 ⊢
  simp [x_fits, r1, r2, r3]
theorem cut_mid {α : Type} (xs : List α) (a b : Nat) (h : a ≤ b) : cut xs (some (a : Int)) (some (b : Int)) = (xs.drop a).take (b - a) := by
  unfold cut cutIx
  dsimp only
  rw [if_neg (by omega), if_neg (by omega), Int.toNat_natCast, Int.toNat_natCast]
  by_cases c : a ≤ xs.length
  · rw [Nat.min_eq_left c]
    by_cases d : b ≤ xs.length
    · rw [Nat.min_eq_left d]
    · rw [Nat.min_eq_right (by omega), List.take_of_length_le (by rw [List.length_drop]; omega), List.take_of_length_le (by rw [List.length_drop]; omega)]
  · have m1 : min a xs.length = xs.length := Nat.min_eq_right (by omega)
    rw [m1, List.drop_of_length_le (Nat.le_refl _), List.drop_of_length_le (by omega)]
    simp
theorem pB_asgP {C : Nat → List PV → St → Rz (PV × Bool)} {σ : Env} {w : Own} {s s1 : St} {e : XE} {b : XB} {i : Nat} {xs : List PV} (h : pX C e σ s = .ok (.lv xs, true) s1) (hs : xs.all shP = true) :
    pB C (.cons (.asgP i e) b) σ w s = pB C b (σ.set i (some (.ref s1.length))) (rel (rel w (esc e ++ bare e)) [i]) (s1 ++ [xs]) := by
  rw [pB_cons, pS_asgP, h, run_okE]
  dsimp only
  rw [if_pos hs]
theorem enum_mem : ∀ {xs : List PV} {n : Nat} {v : PV}, v ∈ enumV n xs → ∃ k x, v = .tup [.int (k : Nat), x] ∧ x ∈ xs
  | [], _, _, h => by unfold enumV at h; cases h
  | x :: xs, n, v, h => by
    unfold enumV at h
    rcases List.mem_cons.mp h with e | h
    · exact ⟨n, x, e, List.mem_cons_self⟩
    · obtain ⟨k, y, e, m⟩ := enum_mem h
      exact ⟨k, y, e, List.mem_cons_of_mem _ m⟩
theorem open_run {D : List (Nat × Dfn)} (hd : D.lookup 16 = some x__law_open) (n : Nat) (ns : List Int) : ∃ cells : List Int, runD D (n + 1) 16 [.lv (ns.map PV.int)] [] = .ok (.lv [.ref 0, .int 0, .int 0], true) [cells.map PV.int] := by
  obtain ⟨sc, hsc⟩ : ∃ sc, sc = PV.lv (ns.map PV.int) := ⟨_, rfl⟩
  have loop := forP_inv (step := forTurn (.tp [.nm 2, .nm 3]) [2, 3] (fun σ w s => pB (runD D n) x__law_open_b0 σ w s))
    (fun j σ w s => σ = [some sc, some (.ref 0), none, none] ∧ w = [] ∧ ∃ cells : List Int, s = [cells.map PV.int] ∧ (12 < ns.length → cells.length = 12))
    (xs := enumV 0 (((ns.map PV.int).drop 12).take 51)) (σ := [some sc, some (.ref 0), none, none]) (w := []) (s := [(ns.take 12).map PV.int]) ⟨rfl, rfl, ns.take 12, rfl, fun l => by rw [List.length_take]; omega⟩ (by
      rintro j v σ w s hj hv ⟨rfl, rfl, cells, rfl, hl⟩
      obtain ⟨k, x, rfl, hx⟩ := enum_mem hv
      obtain ⟨i, hi, rfl⟩ := List.mem_map.mp (List.mem_of_mem_drop (List.mem_of_mem_take hx))
      have h12 : 12 < ns.length := by
        have := List.length_pos_of_mem (List.mem_of_mem_take hx)
        rw [List.length_drop, List.length_map] at this
        omega
      have cl := hl h12
      have m0 : (0 : Int) ≤ (k : Int) % 12 := Int.emod_nonneg _ (by decide)
      have m1 : (k : Int) % 12 < 12 := Int.emod_lt_of_pos _ (by decide)
      obtain ⟨c, hc⟩ := at_cells (cells := cells) (i := (k : Int) % 12) m0 (by omega)
      obtain ⟨m, hm⟩ := nat_of m0
      have hix : ixE (cells.map PV.int).length ((k : Int) % 12) = some m := by rw [hm]; exact ixE_nat (by rw [List.length_map]; omega)
      have b12 := bop_mod (i := (k : Int)) (j := 12) (by decide)
      refine ⟨[some sc, some (.ref 0), none, none], [], [(cells.set m (c + i)).map PV.int], .inl ?_, rfl, rfl, cells.set m (c + i), rfl, fun _ => by rw [List.length_set]; exact cl⟩
      rw [List.map_set]
      obtain ⟨L, hL⟩ : ∃ L, L = cells.map PV.int := ⟨_, rfl⟩
      rw [← hL] at hc hix ⊢
      unfold forTurn
      simp [x__law_open_b0, hc, hix, b12])
  obtain ⟨σ', w', s', hf, rfl, rfl, cells, rfl, _⟩ := loop
  refine ⟨cells, ?_⟩
  rw [run_def hd _ _ _ rfl, ← hsc]
  show fin (pB (runD D n) x__law_open.body [some sc, none, none, none] [] []) = _
  have e12 : cut (ns.map PV.int) none (some (12 : Int)) = (ns.take 12).map PV.int := by
    have := cut_to (ns.map PV.int) 12
    rw [show ((12 : Nat) : Int) = 12 from rfl] at this
    rw [this, List.map_take]
  have e63 : cut (ns.map PV.int) (some (12 : Int)) (some (63 : Int)) = ((ns.map PV.int).drop 12).take 51 := by
    exact cut_mid (ns.map PV.int) 12 63 (by decide)
  have hsh : ((ns.take 12).map PV.int).all shP = true := List.all_eq_true.mpr fun x hx => by
    obtain ⟨i, _, rfl⟩ := List.mem_map.mp hx
    rfl
  have l3 : 3 ≤ line := by unfold line; omega
  refine (congrArg fin (pB_asgP (xs := (ns.take 12).map PV.int) (s1 := []) ?_ hsh)).trans ((congrArg fin (pB_for (xs := enumV 0 (((ns.map PV.int).drop 12).take 51)) (s1 := [(ns.take 12).map PV.int]) ?_ hf)).trans ((congrArg fin (pB_ret (r := (.lv [.ref 0, .int 0, .int 0], true)) (s1 := [cells.map PV.int]) ?_)).trans rfl))
  · rw [hsc]
    obtain ⟨M, hM⟩ : ∃ M, M = ns.map PV.int := ⟨_, rfl⟩
    obtain ⟨R, hR⟩ : ∃ R, R = (ns.take 12).map PV.int := ⟨_, rfl⟩
    rw [← hM, ← hR] at e12
    rw [← hM, ← hR]
    simp [e12]
  · rw [hsc]
    obtain ⟨M, hM⟩ : ∃ M, M = ns.map PV.int := ⟨_, rfl⟩
    rw [← hM] at e63
    rw [← hM]
    simp [e63]
  · simp [l3]
end Pu

set_option linter.all false
set_option autoImplicit false
set_option maxRecDepth 100000
set_option maxHeartbeats 4000000
/-! Q20: told. -/
namespace Pu
@[simp] theorem tryP_nx (c : Nat) (h : Env → Own → Nat → List PV → Option Out) (σ : Env) (w : Own) (s : St) : tryP c h (some (.nx σ w, s)) = some (.nx σ w, s) := id rfl
theorem tryP_ex (c d : Nat) (fs : List PV) (h : Env → Own → Nat → List PV → Option Out) (σ : Env) (w : Own) (s : St) (hd : subC d c = true) : tryP c h (some (.ex d fs σ w, s)) = (h σ w d fs).map fun o => (o, s) := by
  unfold tryP
  exact if_pos hd
theorem ne_str (x : Sg) : cop .ne (.str x) (.str x) = some false := by
  show (eqD (.str x) (.str x)).map not = _
  unfold eqD
  rw [dk_str]
  show (some (eqv (.str x) (.str x))).map not = _
  rw [eqv_str]
  simp
theorem is_non : cop .is .non .non = some true := rfl
theorem is_exc (c : Nat) (fs : List PV) : cop .is (.exc c fs) .non = some false := rfl
def toldT : Sg := [116, 111, 108, 100]
theorem told_ok {D : List (Nat × Dfn)} (hd : D.lookup 28 = some x__law_told) (n : Nat) (s : St) {v w u : PV} {fr : Bool} {k : Nat} {q : Int} {t : Sg} (hq : (q = 0 ∧ k = 13) ∨ (q = 1 ∧ k = 14)) (hu : u.isM = false) (hr : blt s .repr [.tup [v, w]] = some (.str t)) (h : runD D n k [v, w] s = .ok (u, fr) s) :
    runD D (n + 1) 28 [.int q, v, w] s = .ok (.lv [.str toldT, u], false) s := by
  have l2 : 2 ≤ line := by unfold line; omega
  rw [run_def hd _ _ _ rfl]
  show fin (pB (runD D n) x__law_told.body [some (.int q), some v, some w, none, none, none, none] [] s) = _
  rcases hq with ⟨rfl, rfl⟩ | ⟨rfl, rfl⟩ <;> simp [x__law_told, l2, hr, h, ne_str, is_non, toldT, hu]
theorem told_ex {D : List (Nat × Dfn)} (hd : D.lookup 28 = some x__law_told) (n : Nat) (s : St) {v w : PV} {k c : Nat} {q : Int} {t x : Sg} (hq : (q = 0 ∧ k = 13) ∨ (q = 1 ∧ k = 14)) (hr : blt s .repr [.tup [v, w]] = some (.str t)) (h : runD D n k [v, w] s = .ex c [] s) (hx : runD D n 27 [.exc c []] s = .ok (.str x, false) s) :
    runD D (n + 1) 28 [.int q, v, w] s = .ok (.str x, false) s := by
  have l2 : 2 ≤ line := by unfold line; omega
  have sc : subC c 0 = true := by unfold subC; simp
  rw [run_def hd _ _ _ rfl]
  show fin (pB (runD D n) x__law_told.body [some (.int q), some v, some w, none, none, none, none] [] s) = _
  rcases hq with ⟨rfl, rfl⟩ | ⟨rfl, rfl⟩ <;> simp [x__law_told, l2, hr, h, ne_str, is_exc, hx, tryP_ex, sc]
end Pu

set_option linter.all false
set_option autoImplicit false
set_option maxRecDepth 100000
set_option maxHeartbeats 4000000
set_option Elab.async false
/-! Q21: weights of data; repr is defined. -/
namespace Pu
open PySem
def okNum (i : Int) : Bool := decide (-150 ≤ i ∧ i < 1150) || decide (i = 10 ^ 20)
def heavy : Nat := 1000000000
mutual
/-- the weight of data -/
def wt : PV → Nat
  | .non => 1
  | .bl _ => 1
  | .int i => if okNum i then 1 else heavy
  | .str x => if x.all (fun c => decide (c < 0x110000)) then x.length + 1 else heavy
  | .tup xs => wts xs + 1
  | .lv xs => wts xs + 1
  | .ref _ => heavy
  | .dv _ _ _ => heavy
  | .exc _ _ => heavy
def wts : List PV → Nat
  | [] => 0
  | x :: xs => wt x + wts xs
end
theorem leaf_str {x : Sg} (h : x.all (fun c => decide (c < 0x110000)) = true) : (PyData.shown (toD (.str x))).length ≤ 10 * x.length + 2 := by
  rw [List.all_eq_true] at h
  have q := StrLaws.reprText_len (⟨⟨x⟩⟩ : Str) fun c hc => by
    have := of_decide_eq_true (h c hc)
    omega
  have l : (⟨⟨x⟩⟩ : Str).length = x.length := rfl
  have e : PyData.shown (toD (.str x)) = reprText (⟨⟨x⟩⟩ : Str) := rfl
  rw [e]
  omega
def okInts : List Int := 10 ^ 20 :: (List.range 1300).map fun (k : Nat) => (k : Int) - 150
theorem leaf_ints : ∀ i ∈ okInts, (reprP (.int i)).length ≤ 30 ∧ i.natAbs.log2 < 1920 := by decide +kernel
theorem leaf_else : (reprP .non).length ≤ 30 ∧ (reprP (.bl true)).length ≤ 30 ∧ (reprP (.bl false)).length ≤ 30 := by decide +kernel
theorem okNum_mem {i : Int} (h : okNum i = true) : i ∈ okInts := by
  unfold okNum at h
  rcases Bool.or_eq_true_iff.mp h with h | h
  · have := of_decide_eq_true h
    exact List.mem_cons_of_mem _ (List.mem_map.mpr ⟨(i + 150).toNat, List.mem_range.mpr (by omega), by omega⟩)
  · rw [of_decide_eq_true h]
    exact List.mem_cons_self ..
def sumL (ts : List Str) : Nat := (ts.map fun t => t.length + 2).sum
theorem textFrom_le : ∀ (ts : List Str) (k : Nat) (acc : Str), (textFrom k acc ts).length ≤ acc.length + sumL ts
  | [], _, _ => Nat.le_refl _
  | t :: ts, k, acc => by
    unfold textFrom
    have h := textFrom_le ts (k + 1) (acc ++ (if k > 0 then ", " else "" : String) ++ t)
    have e : (acc ++ (if k > 0 then ", " else "" : String) ++ t).length ≤ acc.length + 2 + t.length := by
      rw [strLen_append, strLen_append]
      have : ((if k > 0 then ", " else "" : String) : Str).length ≤ 2 := by
        by_cases q : k > 0
        · rw [if_pos q]; decide
        · rw [if_neg q]; decide
      omega
    have : sumL (t :: ts) = t.length + 2 + sumL ts := rfl
    omega
theorem join_le : ∀ ts : List Str, (Str.join ", " ts).length ≤ sumL ts
  | [] => Nat.zero_le _
  | [x] => by
    show x.length ≤ x.length + 2 + 0
    omega
  | x :: y :: r => by
    show (x ++ ", " ++ Str.join ", " (y :: r)).length ≤ x.length + 2 + sumL (y :: r)
    have := join_le (y :: r)
    have e2 : ((", " : String) : Str).length = 2 := rfl
    rw [strLen_append, strLen_append, e2]
    omega
theorem cps_len (x : Str) : x.cps.toList.length = x.length := by
  show _ = x.cps.size
  rw [Array.length_toList]
theorem wts_pos (xs : List PV) (h : wts xs + 1 < heavy) : wts xs < heavy := by omega
mutual
theorem repr_le : ∀ d : PV, wt d < heavy → (PyData.shown (toD d)).length + 2 ≤ 160 * wt d ∧ showP d = true
  | .non, _ => by
    have := leaf_else.1
    unfold reprP at this
    rw [cps_len] at this
    exact ⟨by show _ ≤ 160 * 1; omega, rfl⟩
  | .bl b, _ => by
    have h1 := leaf_else.2.1
    have h2 := leaf_else.2.2
    unfold reprP at h1 h2
    rw [cps_len] at h1 h2
    refine ⟨?_, rfl⟩
    show _ ≤ 160 * 1
    cases b <;> omega
  | .int i, h => by
    rw [wt] at h ⊢
    by_cases c : okNum i = true
    · rw [if_pos c]
      have := leaf_ints i (okNum_mem c)
      unfold reprP at this
      rw [cps_len] at this
      exact ⟨by omega, decide_eq_true this.2⟩
    · rw [if_neg c] at h
      exact absurd h (Nat.lt_irrefl _)
  | .str x, h => by
    rw [wt] at h ⊢
    by_cases c : x.all (fun c => decide (c < 0x110000)) = true
    · rw [if_pos c]
      have := leaf_str c
      exact ⟨by omega, rfl⟩
    · rw [if_neg c] at h
      exact absurd h (Nat.lt_irrefl _)
  | .ref _, h => by rw [wt] at h; exact absurd h (Nat.lt_irrefl _)
  | .dv _ _ _, h => by rw [wt] at h; exact absurd h (Nat.lt_irrefl _)
  | .exc _ _, h => by rw [wt] at h; exact absurd h (Nat.lt_irrefl _)
  | .tup xs, h => by
    rw [wt] at h
    have ⟨h1, h2⟩ := reprs_le xs (wts_pos xs h)
    refine ⟨?_, by rw [showP]; exact h2⟩
    show (tupleText (PyData.shownAll (toDs xs))).length + 2 ≤ _
    have := join_le (PyData.shownAll (toDs xs))
    unfold tupleText
    have e3 : ((if (PyData.shownAll (toDs xs)).length == 1 then ",)" else ")" : String) : Str).length ≤ 2 := by
      cases (PyData.shownAll (toDs xs)).length == 1 <;> decide
    have e4 : (("(" : String) : Str).length = 1 := rfl
    rw [strLen_append, strLen_append, wt]
    omega
  | .lv xs, h => by
    rw [wt] at h
    have ⟨h1, h2⟩ := reprs_le xs (wts_pos xs h)
    refine ⟨?_, by rw [showP]; exact h2⟩
    show (listText (PyData.shownAll (toDs xs))).length + 2 ≤ _
    have := textFrom_le (PyData.shownAll (toDs xs)) 0 "["
    unfold listText
    have e3 : (("]" : String) : Str).length = 1 := rfl
    have e4 : (("[" : String) : Str).length = 1 := rfl
    rw [strLen_append, wt]
    omega
theorem reprs_le : ∀ ds : List PV, wts ds < heavy → sumL (PyData.shownAll (toDs ds)) ≤ 160 * wts ds ∧ showPs ds = true
  | [], _ => ⟨Nat.zero_le _, rfl⟩
  | d :: ds, h => by
    rw [wts] at h
    have h1 := repr_le d (by omega)
    have h2 := reprs_le ds (by omega)
    refine ⟨?_, by rw [showPs, h1.2, h2.2]; rfl⟩
    show (PyData.shown (toD d)).length + 2 + sumL (PyData.shownAll (toDs ds)) ≤ _
    rw [wts]
    omega
end
/-- data of a weight, of a depth -/
structure OkN (k d : Nat) (v : PV) : Prop where
  w : wt v ≤ k
  d : v.dk d = true
theorem b_repr {s : St} {v : PV} {k : Nat} (h : OkN k 60 v) (hk : k ≤ 100000) : ∃ t, blt s .repr [v] = some (.str t) := by
  have hv : wt v < heavy := by have := h.w; unfold heavy; omega
  have ⟨h1, h2⟩ := repr_le v hv
  have e : (reprP v).length ≤ line := by
    have := h.w
    unfold reprP
    rw [cps_len]
    show _ ≤ 16777216
    omega
  refine ⟨reprP v, ?_⟩
  show bRepr [v] = _
  unfold bRepr
  simp only
  rw [if_pos (by rw [h2, h.d, decide_eq_true e]; rfl)]
end Pu

set_option linter.all false
set_option autoImplicit false
set_option maxRecDepth 100000
set_option maxHeartbeats 4000000
/-! Q22: data of a weight; drawn values. -/
namespace Pu
variable {k l d e : Nat} {v w : PV} {xs : List PV}
theorem OkN.mono (h : OkN k d v) (a : k ≤ l) (b : d ≤ e) : OkN l e v := ⟨Nat.le_trans h.w a, dk_up v d e b h.d⟩
theorem wts_le : ∀ {xs : List PV}, (∀ x ∈ xs, wt x ≤ k) → wts xs ≤ xs.length * k
  | [], _ => by unfold wts; exact Nat.zero_le _
  | x :: xs, h => by
    unfold wts
    have := h x List.mem_cons_self
    have := wts_le (xs := xs) fun y hy => h y (List.mem_cons_of_mem _ hy)
    rw [List.length_cons, Nat.add_mul]
    omega
theorem dks_all : ∀ {xs : List PV}, (∀ x ∈ xs, x.dk d = true) → PV.dks xs d = true
  | [], _ => by unfold PV.dks; rfl
  | x :: xs, h => by
    unfold PV.dks
    rw [h x List.mem_cons_self, dks_all (xs := xs) fun y hy => h y (List.mem_cons_of_mem _ hy)]
    rfl
theorem OkN.tup (h : ∀ x ∈ xs, OkN k d x) : OkN (xs.length * k + 1) (d + 1) (.tup xs) := by
  refine ⟨?_, ?_⟩
  · unfold wt
    have := wts_le (k := k) fun x hx => (h x hx).w
    omega
  · unfold PV.dk
    rw [Nat.add_sub_cancel, dks_all fun x hx => (h x hx).d]
    simp
theorem OkN.lv (h : ∀ x ∈ xs, OkN k d x) : OkN (xs.length * k + 1) (d + 1) (.lv xs) := by
  refine ⟨?_, ?_⟩
  · unfold wt
    have := wts_le (k := k) fun x hx => (h x hx).w
    omega
  · unfold PV.dk
    rw [Nat.add_sub_cancel, dks_all fun x hx => (h x hx).d]
    simp
theorem OkN.tup_le (h : ∀ x ∈ xs, OkN k d x) (a : xs.length * k + 1 ≤ l) (b : d + 1 ≤ e) : OkN l e (.tup xs) := (OkN.tup h).mono a b
theorem OkN.lv_le (h : ∀ x ∈ xs, OkN k d x) (a : xs.length * k + 1 ≤ l) (b : d + 1 ≤ e) : OkN l e (.lv xs) := (OkN.lv h).mono a b
theorem OkN.pair (a : OkN k d v) (b : OkN k d w) (hl : 2 * k + 1 ≤ l) (he : d + 1 ≤ e) : OkN l e (.tup [v, w]) :=
  OkN.tup_le (xs := [v, w]) (k := k) (d := d) (fun x hx => by
    rcases List.mem_cons.mp hx with rfl | hx
    · exact a
    · rw [List.mem_singleton.mp hx]; exact b) hl he
theorem OkN.one (a : OkN k d v) (hl : k + 1 ≤ l) (he : d + 1 ≤ e) : OkN l e (.tup [v]) :=
  OkN.tup_le (xs := [v]) (k := k) (d := d) (fun x hx => by rw [List.mem_singleton.mp hx]; exact a) (by simpa using hl) he
theorem okN_of (h : (decide (wt v ≤ k) && v.dk d) = true) : OkN k d v := by
  rw [Bool.and_eq_true] at h
  exact ⟨of_decide_eq_true h.1, h.2⟩
theorem wt_pos : ∀ v : PV, 1 ≤ wt v
  | .non => by rw [wt]; omega
  | .bl _ => by rw [wt]; omega
  | .int i => by rw [wt]; unfold heavy; split <;> omega
  | .str x => by rw [wt]; unfold heavy; split <;> omega
  | .tup xs => by rw [wt]; omega
  | .lv xs => by rw [wt]; omega
  | .ref _ => by rw [wt]; unfold heavy; omega
  | .dv _ _ _ => by rw [wt]; unfold heavy; omega
  | .exc _ _ => by rw [wt]; unfold heavy; omega
theorem wts_len : ∀ xs : List PV, xs.length ≤ wts xs
  | [] => Nat.zero_le _
  | x :: xs => by
    rw [wts, List.length_cons]
    have := wt_pos x
    have := wts_len xs
    omega
theorem wts_mem : ∀ {xs : List PV} {x : PV}, x ∈ xs → wt x ≤ wts xs
  | y :: ys, x, h => by
    rw [wts]
    rcases List.mem_cons.mp h with rfl | h
    · omega
    · have := wts_mem h
      omega
theorem OkN.len (h : OkN k d (.tup xs)) : xs.length ≤ k := by
  have := h.w
  rw [wt] at this
  have := wts_len xs
  omega
theorem OkN.el (h : OkN k d (.tup xs)) {x : PV} (hx : x ∈ xs) : OkN k d x := by
  refine ⟨?_, ?_⟩
  · have := h.w
    rw [wt] at this
    have := wts_mem hx
    omega
  · have := h.d
    unfold PV.dk at this
    rw [Bool.and_eq_true] at this
    exact dk_up x _ _ (by omega) (dks_mem this.2 x hx)
theorem OkN.pv (h : OkN k d v) (hk : k ≤ 100000) : pv v = true := by
  have hw := h.w
  cases v with
  | str x =>
    rw [wt] at hw
    refine decide_eq_true ?_
    unfold heavy at hw
    unfold line
    split at hw <;> omega
  | ref _ => rw [wt] at hw; unfold heavy at hw; omega
  | dv _ _ _ => rw [wt] at hw; unfold heavy at hw; omega
  | exc _ _ => rw [wt] at hw; unfold heavy at hw; omega
  | _ => rfl
theorem OkN.pvs (h : OkN k d v) (hk : k ≤ 100000) : pvs v = true := by
  by_cases hs : ∃ xs, v = .tup xs
  · obtain ⟨xs, rfl⟩ := hs
    exact List.all_eq_true.mpr fun x hx => (h.el hx).pv hk
  · have := h.pv hk
    cases v <;> first | exact this | exact absurd ⟨_, rfl⟩ hs
theorem OkN.pvs2 (h : OkN k d v) (hk : k ≤ 100000) : pvs2 v = true := by
  by_cases hs : ∃ xs, v = .tup xs
  · obtain ⟨xs, rfl⟩ := hs
    exact List.all_eq_true.mpr fun x hx => (h.el hx).pvs hk
  · have := h.pv hk
    cases v <;> first | exact this | exact absurd ⟨_, rfl⟩ hs
theorem OkN.dks (h : OkN k d (.tup xs)) (hd : d ≤ 60) : PV.dks xs 60 = true := dks_all fun x hx => (h.el hx).mono (Nat.le_refl _) hd |>.d
theorem OkN.cv (h : OkN k d v) (hk : k ≤ 100000) (hd : d ≤ 60) : Cv v := by
  refine ⟨h.pv hk, ?_⟩
  rintro ps rfl
  refine ⟨by have := h.len; unfold line; omega, fun p hp => ⟨(h.el hp).pv hk, ?_⟩⟩
  rintro a b rfl
  have h2 := h.el hp
  refine ⟨(h2.el (by simp)).pvs hk, (h2.el (by simp)).pv hk, ?_⟩
  rintro xs rfl
  exact (h2.el (by simp)).dks hd
/-! names -/
def nmC (x : Sg) : Bool := decide (x.length ≤ 8) && x.all (fun c => decide (c < 0x110000))
theorem poolN_ok : ∀ u ∈ poolN, nameB u = true := by decide +kernel
theorem sm_le {c : Nat} (h : sm c = true) : c < 0x110000 := by
  unfold sm at h
  rw [List.contains_iff_mem] at h
  have : ∀ c ∈ SMALL, c < 0x110000 := by decide +kernel
  exact this c h
theorem nameB_ok {u : Sg} (h : nameB u = true) : OkN 9 0 (.str u) := by
  unfold nameB at h
  simp only [Bool.and_eq_true, decide_eq_true_eq] at h
  refine ⟨?_, dk_str _ _⟩
  rw [wt, if_pos]
  · omega
  · exact List.all_eq_true.mpr fun c hc => decide_eq_true (sm_le (List.all_eq_true.mp h.2.2 c hc))
theorem nms_ok {us : List Sg} (h : us.all nameB = true) : ∀ x ∈ nms us, OkN 9 0 x := fun x hx => by
  obtain ⟨u, hu, rfl⟩ := nms_mem hx
  exact nameB_ok (List.all_eq_true.mp h u hu)
theorem nmsT_ok {us : List Sg} {m : Nat} (h : us.all nameB = true) (hl : us.length ≤ m) : OkN (m * 9 + 1) 1 (.tup (nms us)) := OkN.tup_le (nms_ok h) (by rw [List.length_map]; omega) (Nat.le_refl _)
theorem nmsL_ok {us : List Sg} {m : Nat} (h : us.all nameB = true) (hl : us.length ≤ m) : OkN (m * 9 + 1) 1 (.lv (nms us)) := OkN.lv_le (nms_ok h) (by rw [List.length_map]; omega) (Nat.le_refl _)
theorem pool_all {us : List Sg} (h : ∀ u ∈ us, u ∈ poolN) : us.all nameB = true := List.all_eq_true.mpr fun u hu => poolN_ok u (h u hu)
/-! drawn families, cases -/
theorem Fm.all {most many size : Nat} {F : List (List Sg)} {us : List Sg} (h : Fm most many size F us) {ys : List Sg} (hy : ys ∈ F) : ys.all nameB = true := pool_all fun u hu => h.pool u ((h.item ys hy).2.2.1 u hu)
theorem Fm.setN {most many size : Nat} {F : List (List Sg)} {us : List Sg} (h : Fm most many size F us) (hs : size ≤ 6) {ys : List Sg} (hy : ys ∈ F) : SetN ys := by
  obtain ⟨a, b, c, d⟩ := h.item ys hy
  exact ⟨List.length_pos_iff.mpr a, by omega, h.all hy, b⟩
theorem SetN.isSet {ys : List Sg} (h : SetN ys) : isSet (.tup (nms ys)) = true := isSet_iff.mpr ⟨ys, rfl, h⟩
theorem Fm.namesN {most many size : Nat} {F : List (List Sg)} {us : List Sg} (h : Fm most many size F us) : (namesN F).length ≤ many := by
  have n := (namesN_ok F).2
  have : (Pu.namesN F).length ≤ us.length := (asc_nodup n.asc).length_le_of_subset fun x hx => by
    obtain ⟨ys, hy, hx⟩ := List.mem_flatten.mp ((n.mem x).mp hx)
    exact (h.item ys hy).2.2.1 x hx
  exact Nat.le_trans this h.lu
theorem Fm.isFam {most many size : Nat} {F : List (List Sg)} {us : List Sg} (h : Fm most many size F us) (hs : size ≤ 6) (hm : most ≤ 6) (h8 : many ≤ 8) : isFam (.tup (famP F)) = true := by
  show (decide (1 ≤ (famP F).length) && (decide ((famP F).length ≤ 6) && ((famP F).all Pu.isSet && decide ((Pu.namesN ((famP F).map tupS)).length ≤ 8)))) = true
  have a : (famP F).all Pu.isSet = true := List.all_eq_true.mpr fun x hx => by
    obtain ⟨ys, hy, rfl⟩ := List.mem_map.mp hx
    exact (h.setN hs hy).isSet
  rw [tupS_famP, a, famP_len, decide_eq_true h.l1, decide_eq_true (show F.length ≤ 6 by have := h.lm; omega), decide_eq_true (show (Pu.namesN F).length ≤ 8 by have := h.namesN; omega)]
  rfl
theorem isView_nms {ys vs : List Sg} (h : Sub ys vs) : isView ys (.tup (nms vs)) = true := by
  show (decide ((nms vs).length ≤ 20) && (nms vs).all (memS ys)) = true
  rw [List.length_map, decide_eq_true h.1, Bool.true_and]
  exact List.all_eq_true.mpr fun x hx => by
    obtain ⟨u, hu, rfl⟩ := nms_mem hx
    exact decide_eq_true (h.2 u hu)
theorem caseQ_pairs (Q : Cas) : ((Q.map pairN).map pairP).all isPair = true := List.all_eq_true.mpr fun x hx => by
  obtain ⟨p, _, rfl⟩ := List.mem_map.mp hx
  rfl
/-- a case of names: right families, right views -/
theorem isCase_Q {Q : Cas} : isCase (caseQ Q) = (isFam (.tup (famP (Q.map (·.1)))) && Q.all fun p => isView p.1 (.tup (nms p.2))) := by
  show (((Q.map pairN).map pairP).all isPair && (isFam (.tup (((Q.map pairN).map pairP).map fstP)) && ((Q.map pairN).map pairP).all fun p => isView (tupS (fstP p)) (sndP p))) = _
  rw [caseQ_pairs, fst_map, famQ, Bool.true_and]
  congr 1
  rw [List.all_map, List.all_map]
  congr 1
  funext p
  show isView (strsP (nms p.1)) (.tup (nms p.2)) = _
  rw [strsP_nms]
theorem zip_fst : ∀ {F V : List (List Sg)}, V.length = F.length → (F.zip V).map (·.1) = F
  | [], _, _ => by simp
  | ys :: F, vs :: V, h => by
    show ys :: (F.zip V).map (·.1) = _
    rw [zip_fst (F := F) (V := V) (by simpa using h)]
theorem Vs.mem {F V : List (List Sg)} (h : Vs F V) {p : List Sg × List Sg} (hp : p ∈ F.zip V) : p.1 ∈ F ∧ Sub p.1 p.2 := by
  obtain ⟨i, hi⟩ := List.getElem?_of_mem hp
  rw [List.getElem?_zip_eq_some] at hi
  exact ⟨List.mem_of_getElem? hi.1, h.sub i _ _ hi.1 hi.2⟩
theorem drawn_isCase {most many size : Nat} {F V : List (List Sg)} {us : List Sg} (h : Fm most many size F us) (hV : Vs F V) (hs : size ≤ 6) (hm : most ≤ 6) (h8 : many ≤ 8) : isCase (caseQ (F.zip V)) = true := by
  rw [isCase_Q, zip_fst hV.len, h.isFam hs hm h8, Bool.true_and]
  exact List.all_eq_true.mpr fun p hp => isView_nms (hV.mem hp).2
theorem famP_ok {F : List (List Sg)} (h : ∀ ys ∈ F, ys.all nameB = true ∧ ys.length ≤ 6) (hm : F.length ≤ 12) : OkN 661 2 (.tup (famP F)) := OkN.tup_le (k := 55) (d := 1) (fun x hx => by
  obtain ⟨ys, hy, rfl⟩ := List.mem_map.mp hx
  exact nmsT_ok (m := 6) (h ys hy).1 (h ys hy).2) (by rw [famP_len]; omega) (by omega)
theorem caseQ_ok {Q : Cas} {m : Nat} (h : ∀ p ∈ Q, p.1.all nameB = true ∧ p.1.length ≤ 6 ∧ p.2.all nameB = true ∧ p.2.length ≤ 20) (hm : Q.length ≤ m) : OkN (m * 363 + 1) 3 (caseQ Q) := OkN.tup_le (k := 363) (d := 2) (fun x hx => by
  obtain ⟨p', hp', rfl⟩ := List.mem_map.mp hx
  obtain ⟨p, hp, rfl⟩ := List.mem_map.mp hp'
  obtain ⟨a, b, c, e⟩ := h p hp
  exact OkN.pair (k := 181) (d := 1) ((nmsT_ok (m := 6) a b).mono (by omega) (by omega)) (nmsT_ok (m := 20) c e) (by omega) (by omega)) (by rw [List.length_map, List.length_map]; exact Nat.succ_le_succ (Nat.mul_le_mul_right _ hm)) (by omega)
theorem drawn_ok {most many size : Nat} {F V : List (List Sg)} {us : List Sg} (h : Fm most many size F us) (hV : Vs F V) (hs : size ≤ 6) (hm : most ≤ 6) : ∀ p ∈ F.zip V, p.1.all nameB = true ∧ p.1.length ≤ 6 ∧ p.2.all nameB = true ∧ p.2.length ≤ 20 := fun p hp => by
  obtain ⟨m, sub⟩ := hV.mem hp
  have n := h.setN hs m
  exact ⟨n.nm, n.l6, List.all_eq_true.mpr fun u hu => List.all_eq_true.mp n.nm u (sub.2 u hu), sub.1⟩
end Pu

set_option linter.all false
set_option autoImplicit false
set_option maxRecDepth 100000
set_option maxHeartbeats 4000000
/-! Q23: k03: what is told; the wrong values. -/
namespace Pu
structure HasK03 (D : List (Nat × Dfn)) : Prop where
  c : HasCase D
  f : HasFit D
  d16 : D.lookup 16 = some x__law_open
  d27 : D.lookup 27 = some x__law_refusal
  d28 : D.lookup 28 = some x__law_told
section
variable {D : List (Nat × Dfn)} {k d : Nat} {v w : PV}
theorem repr2 {s : St} (h1 : OkN 5000 50 v) (h2 : OkN 5000 50 w) : ∃ t, blt s .repr [.tup [v, w]] = some (.str t) := b_repr (k := 20000) (OkN.pair h1 h2 (by omega) (by omega)) (by omega)
theorem told_log (h : HasK03 D) (n : Nat) (s : St) (h1 : OkN 5000 50 v) (h2 : OkN 5000 50 w) (hv : isLog v = false) : runD D (n + 7) 28 [.int 0, v, w] s = .ok (.str logT, false) s := by
  obtain ⟨t, hr⟩ := repr2 (s := s) h1 h2
  exact told_ex h.d28 (n + 6) s (k := 13) (.inl ⟨rfl, rfl⟩) hr (restrict_log h.f (n + 2) s hv (h1.pvs (by omega))) (refusal_run h.d27 (n + 5) s).2.1
theorem told_names (h : HasK03 D) (n : Nat) (s : St) (h1 : OkN 5000 50 v) (h2 : OkN 5000 50 w) (hv : isLog v = true) (hw : isSet w = false) : runD D (n + 7) 28 [.int 0, v, w] s = .ok (.str namesT, false) s := by
  obtain ⟨t, hr⟩ := repr2 (s := s) h1 h2
  exact told_ex h.d28 (n + 6) s (k := 13) (.inl ⟨rfl, rfl⟩) hr (restrict_names h.f (n + 2) s hv hw (h1.pvs (by omega)) (h2.pvs (by omega))) (refusal_run h.d27 (n + 5) s).1
theorem told_case (h : HasK03 D) (n : Nat) (s : St) (h1 : OkN 5000 50 v) (h2 : OkN 5000 50 w) (hv : isCase v = false) : runD D (n + 7) 28 [.int 1, v, w] s = .ok (.str caseT, false) s := by
  obtain ⟨t, hr⟩ := repr2 (s := s) h1 h2
  exact told_ex h.d28 (n + 6) s (k := 14) (.inr ⟨rfl, rfl⟩) hr (fits_case_bad h.f n s hv (h1.cv (by omega) (by omega))) (refusal_run h.d27 (n + 5) s).2.2
theorem told_log1 (h : HasK03 D) (n : Nat) (s : St) (h1 : OkN 5000 50 v) (h2 : OkN 5000 50 w) (hv : isCase v = true) (hw : isLog w = false) : runD D (n + 7) 28 [.int 1, v, w] s = .ok (.str logT, false) s := by
  obtain ⟨t, hr⟩ := repr2 (s := s) h1 h2
  exact told_ex h.d28 (n + 6) s (k := 14) (.inr ⟨rfl, rfl⟩) hr (fits_log_bad h.f n s hv hw (h1.cv (by omega) (by omega)) (h2.pvs (by omega))) (refusal_run h.d27 (n + 5) s).2.1
theorem told_restrict (h : HasK03 D) (n : Nat) (s : St) {row us : List Sg} (h1 : OkN 5000 50 (.tup (nms row))) (h2 : OkN 5000 50 (.tup (nms us))) (hv : isLog (.tup (nms row)) = true) (hw : isSet (.tup (nms us)) = true) :
    runD D (n + 7) 28 [.int 0, .tup (nms row), .tup (nms us)] s = .ok (.lv [.str toldT, .tup (nms (row.filter fun x => decide (x ∈ us)))], false) s := by
  obtain ⟨t, hr⟩ := repr2 (s := s) h1 h2
  exact told_ok h.d28 (n + 6) s (k := 13) (.inl ⟨rfl, rfl⟩) rfl hr (restrict_ok h.f (n + 2) s hv hw (h1.pvs (by omega)) (h2.pvs (by omega)))
theorem told_fits (h : HasK03 D) (n : Nat) (s : St) {Q : Cas} {row : List Sg} (h1 : OkN 5000 50 (caseQ Q)) (h2 : OkN 5000 50 (.tup (nms row))) (hv : isCase (caseQ Q) = true) (hw : isLog (.tup (nms row)) = true) (hq : Q.length ≤ 6) (h6 : ∀ p ∈ Q, p.1.length ≤ 6) :
    runD D (n + 7) 28 [.int 1, caseQ Q, .tup (nms row)] s = .ok (.lv [.str toldT, .bl (fitsB Q row)], false) s := by
  obtain ⟨t, hr⟩ := repr2 (s := s) h1 h2
  exact told_ok h.d28 (n + 6) s (k := 14) (.inr ⟨rfl, rfl⟩) rfl hr (fits_ok h.f n s hv hw (h1.cv (by omega) (by omega)) (h2.pvs (by omega)) hq h6)
end
/-! wrong values -/
def aT : PV := .str [97]
def wrongs (xs : List Sg) : List PV := [.tup [.lv [aT]], .lv (nms xs), .tup (rep 121 [aT]), .tup [.str [65]], .tup [aT, .non], .str [97, 98], .tup [.tup [aT]], .int 3, .lv [aT], .bl true]
theorem wrongs_ok {xs : List Sg} {v : PV} (hx : xs.all nameB = true) (hl : xs.length ≤ 100) (h : v ∈ wrongs xs) : OkN 5000 50 v ∧ isLog v = false := by
  unfold wrongs at h
  simp only [List.mem_cons, List.not_mem_nil, or_false] at h
  rcases h with rfl | rfl | rfl | rfl | rfl | rfl | rfl | rfl | rfl | rfl
  · exact ⟨okN_of (by decide +kernel), by decide +kernel⟩
  · exact ⟨(nmsL_ok hx hl).mono (by omega) (by omega), rfl⟩
  all_goals exact ⟨okN_of (by decide +kernel), by decide +kernel⟩
def bads (ys : List Sg) : List PV := [.tup [.lv [aT]], .tup [], .lv (nms ys), .tup (nms ys ++ nms ys), .tup [.str [98], aT], aT, .tup [.str [65]], .tup [.non], .lv [aT], .int 3]
theorem twice_bad {ys : List Sg} (h : ys ≠ []) : isSet (.tup (nms (ys ++ ys))) = false := by
  cases c : isSet (.tup (nms (ys ++ ys))) with
  | false => rfl
  | true =>
    obtain ⟨zs, e, hz⟩ := isSet_iff.mp c
    have e := nms_inj (PV.tup.inj e)
    subst e
    have nd := asc_nodup hz.asc
    obtain ⟨x, hx⟩ := List.exists_mem_of_ne_nil ys h
    exact absurd rfl ((List.nodup_append.mp nd).2.2 x hx x hx)
theorem bads_ok {ys : List Sg} {v : PV} (hy : SetN ys) (h : v ∈ bads ys) : OkN 5000 50 v ∧ isSet v = false := by
  unfold bads at h
  simp only [List.mem_cons, List.not_mem_nil, or_false] at h
  have ne : ys ≠ [] := List.length_pos_iff.mp hy.l1
  rcases h with rfl | rfl | rfl | rfl | rfl | rfl | rfl | rfl | rfl | rfl
  · exact ⟨okN_of (by decide +kernel), by decide +kernel⟩
  · exact ⟨okN_of (by decide +kernel), by decide +kernel⟩
  · exact ⟨(nmsL_ok hy.nm hy.l6).mono (by omega) (by omega), rfl⟩
  · have e : nms ys ++ nms ys = nms (ys ++ ys) := List.map_append.symm
    rw [e]
    exact ⟨(nmsT_ok (m := 12) (by rw [List.all_append, hy.nm]; rfl) (by rw [List.length_append]; have := hy.l6; omega)).mono (by omega) (by omega), twice_bad ne⟩
  all_goals exact ⟨okN_of (by decide +kernel), by decide +kernel⟩
def otherT : Sg := [111, 116, 104, 101, 114]
def nones (F : List (List Sg)) (Q : Cas) (p : List Sg × List Sg) (ys : List Sg) : List PV :=
  [.tup [.tup [.tup (nms ys), .tup [.lv [aT]]]], .tup [], .lv ((Q.map pairN).map pairP), pairP (pairN p), .tup [.tup [.tup (nms ys), .tup [.str otherT]]], .tup [.tup [.tup (nms ys)]], .tup (famP F), .int 3, .bl true]
theorem famP_noCase {F : List (List Sg)} (h : F ≠ []) : isCase (.tup (famP F)) = false := by
  cases c : isCase (.tup (famP F)) with
  | false => rfl
  | true =>
    have c : ((famP F).all isPair && (isFam (.tup ((famP F).map fstP)) && (famP F).all fun p => isView (tupS (fstP p)) (sndP p))) = true := c
    rw [Bool.and_eq_true, Bool.and_eq_true] at c
    obtain ⟨c1, c2, _⟩ := c
    have c2 : (decide (1 ≤ ((famP F).map fstP).length) && (decide (((famP F).map fstP).length ≤ 6) && (((famP F).map fstP).all isSet && _))) = true := c2
    have c3 := (Bool.and_eq_true_iff.mp (Bool.and_eq_true_iff.mp (Bool.and_eq_true_iff.mp c2).2).2).1
    match F, h with
    | g :: G, _ =>
      have c1 : (isPair (.tup (nms g)) && _) = true := c1
      have c1 := (Bool.and_eq_true_iff.mp c1).1
      have c1 : decide ((nms g).length = 2) = true := c1
      have c1 := of_decide_eq_true c1
      rw [List.length_map] at c1
      match g, c1 with
      | [x, y], _ =>
        have c3 : (isSet (.str x) && _) = true := c3
        cases (Bool.and_eq_true_iff.mp c3).1
theorem isCase_one (a b : PV) : isCase (.tup [.tup [a, b]]) = (isFam (.tup [a]) && isView (tupS a) b) := by
  show ((isPair (.tup [a, b]) && true) && (isFam (.tup [a]) && (isView (tupS a) b && true))) = _
  rw [Bool.and_true, Bool.and_true]
  rfl
theorem nones_ok {F : List (List Sg)} {Q : Cas} {p : List Sg × List Sg} {ys : List Sg} {v : PV} (hF : F ≠ []) (fo : OkN 661 2 (.tup (famP F))) (ho : otherT ∉ ys) (hp : p ∈ Q) (hy : SetN ys) (hq : Q.length ≤ 6)
    (hQ : ∀ p ∈ Q, p.1.all nameB = true ∧ p.1.length ≤ 6 ∧ p.2.all nameB = true ∧ p.2.length ≤ 20) (h : v ∈ nones F Q p ys) : OkN 5000 50 v ∧ isCase v = false := by
  unfold nones at h
  simp only [List.mem_cons, List.not_mem_nil, or_false] at h
  have yo := nmsT_ok (m := 6) hy.nm hy.l6
  have co := caseQ_ok (m := 6) hQ hq
  rcases h with rfl | rfl | rfl | rfl | rfl | rfl | rfl | rfl | rfl
  · refine ⟨OkN.one (k := 1000) (d := 40) (OkN.pair (k := 400) (d := 30) (yo.mono (by omega) (by omega)) (okN_of (by decide +kernel)) (by omega) (by omega)) (by omega) (by omega), ?_⟩
    rw [isCase_one]
    have : isView (tupS (.tup (nms ys))) (.tup [.lv [aT]]) = false := rfl
    rw [this, Bool.and_false]
  · exact ⟨okN_of (by decide +kernel), by decide +kernel⟩
  · refine ⟨⟨?_, ?_⟩, rfl⟩
    · have := co.w
      unfold caseQ at this
      have e1 : wt (.tup ((Q.map pairN).map pairP)) = wts ((Q.map pairN).map pairP) + 1 := by conv => lhs; unfold wt
      have e2 : wt (.lv ((Q.map pairN).map pairP)) = wts ((Q.map pairN).map pairP) + 1 := by conv => lhs; unfold wt
      omega
    · have := (co.mono (Nat.le_refl _) (show 3 ≤ 50 by omega)).d
      unfold caseQ at this
      unfold PV.dk at this ⊢
      exact this
  · have e : pairP (pairN p) = .tup (famP [p.1, p.2]) := rfl
    refine ⟨(co.el ?_).mono (by omega) (by omega), ?_⟩
    · exact List.mem_map_of_mem (List.mem_map_of_mem hp)
    · rw [e]; exact famP_noCase (by simp)
  · refine ⟨OkN.one (k := 1000) (d := 40) (OkN.pair (k := 400) (d := 30) (yo.mono (by omega) (by omega)) (okN_of (by decide +kernel)) (by omega) (by omega)) (by omega) (by omega), ?_⟩
    rw [isCase_one]
    have : isView (tupS (.tup (nms ys))) (.tup [.str otherT]) = false := by
      show (true && (decide (otherT ∈ strsP (nms ys)) && true)) = false
      rw [strsP_nms, decide_eq_false ho]
      rfl
    rw [this, Bool.and_false]
  · refine ⟨OkN.one (k := 1000) (d := 40) (OkN.one (k := 400) (d := 30) (yo.mono (by omega) (by omega)) (by omega) (by omega)) (by omega) (by omega), rfl⟩
  · exact ⟨fo.mono (by omega) (by omega), famP_noCase hF⟩
  · exact ⟨okN_of (by decide +kernel), by decide +kernel⟩
  · exact ⟨okN_of (by decide +kernel), by decide +kernel⟩
end Pu

set_option linter.all false
set_option autoImplicit false
set_option maxRecDepth 100000
set_option maxHeartbeats 4000000
/-! Q24: k03: a turn. -/
namespace Pu
section
variable {C : Nat → List PV → St → Rz (PV × Bool)} {σ σ2 : Env} {w w2 : Own} {s s1 s2 : St} {e : XE} {r : PV × Bool} {b body : XB} {i : Nat}
/-- a test that fails -/
theorem pB_iffF {t : XE} {a : XB} (h : pE C t σ s = .ok (.bl false) s1) : pB C (.cons (.iff t a .nil) b) σ w s = pB C b σ (rel w (esc t)) s1 := by
  rw [pB_cons, pS_iff, h]
  simp
end
theorem kill_w {ks : List Nat} {o : Option (Out × St)} {σ : Env} {s : St} (h : ∃ w, o = some (.nx σ w, s)) : ∃ w, kill ks o = some (.nx (wipeE σ ks) w, s) := by
  obtain ⟨w, rfl⟩ := h
  exact ⟨_, kill_nx ..⟩
def law3 : PV := .lv [.str logT, .str logT, .str namesT]
def law3c : PV := .lv [.str caseT, .str caseT, .str logT]
theorem ne3 : cop .ne law3 law3 = some false := by decide +kernel
theorem ne3c : cop .ne law3c law3c = some false := by decide +kernel
theorem poolN_other : ∀ u ∈ poolN, u ≠ otherT := by decide +kernel
theorem turn_run {D : List (Nat × Dfn)} (h : HasK03 D) (n : Nat) {b : Nat} {s : St} {sc x2 x3 x4 x5 x6 x14 x15 : Option PV} {w : Own} {i : Int} (hw : w = [] ∨ w = [6]) (hs : PS b s) (hb : b < 2000000000) :
    ∃ (y5 y6 : Option PV) (s' : St), forTurn (.nm 2) [2, 7, 8, 9, 10, 11, 12, 13] (fun σ w s => pB (runD D (n + 7)) x_law_b2 σ w s) (.int i) [sc, some (.ref 1), none, x3, x4, x5, x6, none, none, none, none, none, none, none, x14, x15] w s =
      some (.nx [sc, some (.ref 1), none, x3, x4, y5, y6, none, none, none, none, none, none, none, x14, x15] [6], s') ∧ PS (b + 400) s' := by
  have hp := h.c.toHasPen
  have big : 1000 ≤ line := by unfold line; omega
  obtain ⟨s1, t1, ps1⟩ := anew_ps hp (n + 6) hs
  obtain ⟨F, us, s2, t2, fm, ps2⟩ := family_ps h.c.toHasFam h.c.d22 (n + 2) (most := 4) (many := 6) (size := 4) ps1 (by omega) (by omega) (by omega) (by omega) (by omega) (by omega) (by omega)
  have t2 : runD D (n + 7) 22 [.ref 1, .int 4, .int 6, .int 4] s1 = .ok (.tup (famP F), false) s2 := t2
  have f1 : F ≠ [] := List.length_pos_iff.mp fm.l1
  have f6 : F.length ≤ 6 := by have := fm.lm; omega
  have hF : ∀ ys ∈ F, ys ≠ [] ∧ ys.Nodup ∧ ys.length ≤ 6 := fun ys hy => by
    have q := fm.item ys hy
    exact ⟨q.1, asc_nodup q.2.1, by omega⟩
  have fl := flat_len (F := F) fun ys hy => (hF ys hy).2.2
  obtain ⟨an, N⟩ := nmsOf_ex F
  have al : an.length ≤ 100 := by
    have : an.length ≤ F.flatten.length := (asc_nodup N.asc).length_le_of_subset fun x hx => (N.mem x).mp hx
    omega
  obtain ⟨V, s3, t3, hV, ps3⟩ := case_ps h.c (n + 2) (F := F) (us := an) (size := 10) N ps2 (by omega) f1 f6 hF (by omega) al (by omega)
  have t3 : runD D (n + 7) 26 [.ref 1, .tup (famP F), .int 10] s2 = .ok (caseP F V, false) s3 := t3
  rw [caseP_Q] at t3
  obtain ⟨v4, s4, t4, ps4, m4⟩ := one_ps hp (n + 4) (o := .tup (famP F)) (xs := famP F) (.inl rfl) ps3 (by omega) (by intro z; exact f1 (List.map_eq_nil_iff.mp z)) (by rw [famP_len]; omega)
  have t4 : runD D (n + 7) 19 [.ref 1, .tup (famP F)] s3 = .ok (v4, false) s4 := t4
  obtain ⟨ys, my, rfl⟩ := List.mem_map.mp m4
  have hy := fm.setN (by omega) my
  have yne : ys ≠ [] := List.length_pos_iff.mp hy.l1
  obtain ⟨r5, s5, t5, ps5, r50, r51⟩ := take_ps hp (n + 5) (many := 8) ps4 (by omega) (by omega) (by omega)
  have t5 : runD D (n + 7) 18 [.ref 1, .int 8] s4 = .ok (.int r5, false) s5 := t5
  obtain ⟨m, rfl⟩ := nat_of r50
  obtain ⟨xs, s6, t6, ps6, xl, xm⟩ := row_ps hp h.c.d24 (n + 3) (o := .tup (nms ys)) (us := ys) (m := m) (.inl rfl) ps5 (by omega) (by omega) yne (by have := hy.l6; omega)
  have t6 : runD D (n + 7) 24 [.ref 1, .tup (nms ys), .int m] s5 = .ok (.tup (nms xs), false) s6 := t6
  have hx : xs.all nameB = true := List.all_eq_true.mpr fun u hu => List.all_eq_true.mp hy.nm u (xm u hu)
  obtain ⟨wv, s7, t7, ps7, m7⟩ := one_ps hp (n + 4) (o := .lv (wrongs xs)) (xs := wrongs xs) (.inr rfl) ps6 (by omega) (by unfold wrongs; simp) (by show (10 : Nat) < _; omega)
  have t7 : runD D (n + 7) 19 [.ref 1, .lv (wrongs xs)] s6 = .ok (wv, false) s7 := t7
  obtain ⟨wo, wl⟩ := wrongs_ok hx (by omega) m7
  obtain ⟨bv, s8, t8, ps8, m8⟩ := one_ps hp (n + 4) (o := .lv (bads ys)) (xs := bads ys) (.inr rfl) ps7 (by omega) (by unfold bads; simp) (by show (10 : Nat) < _; omega)
  have t8 : runD D (n + 7) 19 [.ref 1, .lv (bads ys)] s7 = .ok (bv, false) s8 := t8
  obtain ⟨bo, bl⟩ := bads_ok hy m8
  have qne : F.zip V ≠ [] := by
    intro z
    have := congrArg List.length z
    rw [List.length_zip, hV.len, Nat.min_self] at this
    exact f1 (List.length_eq_zero_iff.mp this)
  obtain ⟨p0, Q0, eq0⟩ : ∃ p Q, F.zip V = p :: Q := by
    cases e : F.zip V with
    | nil => exact absurd e qne
    | cons p Q => exact ⟨p, Q, rfl⟩
  have ql : (F.zip V).length ≤ 6 := by rw [List.length_zip]; omega
  have dro := drawn_ok fm hV (by omega) (by omega)
  obtain ⟨nv, s9, t9, ps9, m9⟩ := one_ps hp (n + 4) (o := .lv (nones F (F.zip V) p0 ys)) (xs := nones F (F.zip V) p0 ys) (.inr rfl) ps8 (by omega) (by unfold nones; simp) (by show (9 : Nat) < _; omega)
  have t9 : runD D (n + 7) 19 [.ref 1, .lv (nones F (F.zip V) p0 ys)] s8 = .ok (nv, false) s9 := t9
  have fo : OkN 661 2 (.tup (famP F)) := famP_ok (fun zs hz => ⟨fm.all hz, (hF zs hz).2.2⟩) (by omega)
  have oth : otherT ∉ ys := fun z => poolN_other otherT (fm.pool _ ((fm.item ys my).2.2.1 _ z)) rfl
  obtain ⟨no, nl⟩ := nones_ok f1 fo oth (by rw [eq0]; exact List.mem_cons_self) hy ql dro m9
  have co : OkN 5000 50 (caseQ (F.zip V)) := (caseQ_ok (m := 6) dro ql).mono (by omega) (by omega)
  have ci : isCase (caseQ (F.zip V)) = true := drawn_isCase fm hV (by omega) (by omega) (by omega)
  have yo : OkN 5000 50 (.tup (nms ys)) := (nmsT_ok (m := 6) hy.nm hy.l6).mono (by omega) (by omega)
  have xo : OkN 5000 50 (.tup (nms xs)) := (nmsT_ok (m := 100) hx (by omega)).mono (by omega) (by omega)
  have xL : isLog (.tup (nms xs)) = true := isLog_iff.mpr ⟨xs, rfl, by omega, hx⟩
  have yS := hy.isSet
  have a1 := told_log h n s9 wo yo wl
  have a2 := told_log h n s9 wo bo wl
  have a3 := told_names h n s9 xo bo xL bl
  have a4 := told_restrict h n s9 xo yo xL yS
  have a5 := told_case h n s9 no xo nl
  have a6 := told_case h n s9 no wo nl
  have a7 := told_log1 h n s9 co wo ci wl
  have a8 := told_fits h n s9 co xo ci xL ql fun p hp => (dro p hp).2.1
  have bz := bop_addT (nms ys) (nms ys) (by rw [List.length_map]; have := hy.l6; omega)
  have bm : bop .mul (.tup [.str [97]]) (.int 121) = some (.tup (rep 121 [aT])) := rfl
  have l1 : 1 ≤ line := by omega
  have l2 : 2 ≤ line := by omega
  have l9 : 9 ≤ line := by omega
  have l10 : 10 ≤ line := by omega
  have l3 : 3 ≤ line := by omega
  obtain ⟨FP, hFP⟩ : ∃ L, L = PV.tup (famP F) := ⟨_, rfl⟩
  obtain ⟨Y, hY⟩ : ∃ L, L = nms ys := ⟨_, rfl⟩
  obtain ⟨X, hX⟩ : ∃ L, L = nms xs := ⟨_, rfl⟩
  obtain ⟨K, hK⟩ : ∃ L, L = (((F.zip V).map pairN).map pairP) := ⟨_, rfl⟩
  have kq : caseQ (F.zip V) = .tup K := by rw [hK]; rfl
  have k0 : at? K 0 = some (pairP (pairN p0)) := by rw [hK, eq0]; exact at_0 _ _
  unfold nones at t9
  unfold wrongs at t7
  unfold bads at t8
  obtain ⟨P0, hP0⟩ : ∃ p, p = pairP (pairN p0) := ⟨_, rfl⟩
  rw [← hP0] at k0 t9
  rw [← hFP] at t2 t3 t4 t9
  rw [← hK] at t9
  rw [← hY] at t4 t6 t8 t9 a1 a4 bz
  rw [← hX] at t6 t7 a3 a4 a5 a8
  rw [kq] at t3 a7 a8
  simp only [aT, otherT] at t7 t8 t9 bm
  obtain ⟨R1, hR1⟩ : ∃ p, p = PV.tup (nms (xs.filter fun x => decide (x ∈ ys))) := ⟨_, rfl⟩
  rw [← hR1] at a4
  have e3 : cop .ne (.lv [.str logT, .str logT, .str namesT]) (.lv [.str [108, 111, 103], .str [108, 111, 103], .str [110, 97, 109, 101, 115]]) = some false := ne3
  have e3c : cop .ne (.lv [.str caseT, .str caseT, .str logT]) (.lv [.str [99, 97, 115, 101], .str [99, 97, 115, 101], .str [108, 111, 103]]) = some false := ne3c
  have et : cop .ne (.str toldT) (.str [116, 111, 108, 100]) = some false := ne_str _
  refine ⟨some (.tup X), some law3c, s9, ?_, ps9.mono (by omega)⟩
  rw [forTurn_nm]
  have hw := hw
  rcases hw with rfl | rfl <;> simp [-bop_addT, x_law_b2, t1, t2, t3, t4, t5, t6, t7, t8, t9, a1, a2, a3, a4, a5, a6, a7, a8, bz, bm, l1, l2, l3, l9, l10, k0, e3, e3c, et, law3c]
end Pu

set_option linter.all false
set_option autoImplicit false
set_option maxRecDepth 100000
set_option maxHeartbeats 4000000
/-! Q25: k03. -/
namespace Pu
theorem rep_str (x : Sg) : ∀ k : Nat, rep k [PV.str x] = nms (List.replicate k x)
  | 0 => rfl
  | k + 1 => by
    have := rep_str x k
    unfold rep at this ⊢
    rw [List.replicate_succ, List.flatten_cons, this, List.replicate_succ]
    rfl
theorem lcP_cons (turn : PV → St → Rz (List PV)) (x : PV) (xs acc : List PV) (s : St) : lcP turn (x :: xs) acc s = (turn x s).bind fun r s => lcP turn xs (acc ++ r) s := id rfl
theorem lcP_nil (turn : PV → St → Rz (List PV)) (acc : List PV) (s : St) : lcP turn [] acc s = .ok acc s := id rfl
def A120 : List Sg := List.replicate 120 [97]
def B120 : List Sg := List.replicate 120 [98]
def edgeQ : Cas := [([[97]], [])]
def edgesV : PV := .lv [.lv [.str toldT, .tup (nms A120)], .lv [.str toldT, .bl false]]
theorem edges_ne : cop .ne edgesV edgesV = some false := by decide +kernel
def abcT : Sg := [97, 98, 99, 100, 101, 102]
def fullQ : Cas := abcT.map fun c => ([[c]], List.replicate 20 [c])
def rowF : List Sg := (rep 20 abcT).map fun c => [c]
theorem full_facts : fitsB fullQ rowF = true ∧ fitsB fullQ rowF.reverse = true ∧ fitsB fullQ (rowF.drop 1) = false ∧ fitsB fullQ ([97] :: rowF.take 119) = false ∧ isCase (caseQ fullQ) = true ∧ fitsB edgeQ B120 = false ∧ isCase (caseQ edgeQ) = true := by decide +kernel
theorem log_facts : isLog (.tup (nms rowF)) = true ∧ isLog (.tup (nms rowF.reverse)) = true ∧ isLog (.tup (nms (rowF.drop 1))) = true ∧ isLog (.tup (nms ([97] :: rowF.take 119))) = true ∧ isLog (.tup (nms (rowF ++ [[97]]))) = false ∧ isLog (.tup (nms A120)) = true ∧ isLog (.tup (nms B120)) = true ∧ isSet (.tup (nms [[97], [98]])) = true := by decide +kernel
theorem ok_facts : OkN 5000 50 (.tup (nms rowF)) ∧ OkN 5000 50 (.tup (nms rowF.reverse)) ∧ OkN 5000 50 (.tup (nms (rowF.drop 1))) ∧ OkN 5000 50 (.tup (nms ([97] :: rowF.take 119))) ∧ OkN 5000 50 (.tup (nms (rowF ++ [[97]]))) ∧ OkN 5000 50 (.tup (nms A120)) ∧ OkN 5000 50 (.tup (nms B120)) ∧ OkN 5000 50 (.tup (nms [[97], [98]])) ∧ OkN 5000 50 (caseQ fullQ) ∧ OkN 5000 50 (caseQ edgeQ) :=
  ⟨okN_of (by decide +kernel), okN_of (by decide +kernel), okN_of (by decide +kernel), okN_of (by decide +kernel), okN_of (by decide +kernel), okN_of (by decide +kernel), okN_of (by decide +kernel), okN_of (by decide +kernel), okN_of (by decide +kernel), okN_of (by decide +kernel)⟩
def endV : PV := .lv [.lv [.str toldT, .bl true], .lv [.str toldT, .bl true], .lv [.str toldT, .bl false], .str logT, .lv [.str toldT, .bl false]]
theorem end_eq : cop .eq endV endV = some true := by decide +kernel
theorem A120_all : (A120.filter fun x => decide (x ∈ [[97], [98]])) = A120 := by decide +kernel
theorem b_tupS {s : St} {x : Sg} (h : x.length ≤ line) : blt s .tuple [.str x] = some (.tup (x.map fun c => .str [c])) := by
  show bTuple [.str x] = _
  unfold bTuple
  exact if_pos h
theorem law_run {D : List (Nat × Dfn)} (h : HasK03 D) (hl : D.lookup 29 = some x_law) (n : Nat) (ns : List Int) : ∃ fr s', runD D (n + 8) 29 [.lv (ns.map PV.int)] [] = .ok (.bl true, fr) s' := by
  obtain ⟨cells, o⟩ := open_run h.d16 (n + 6) ns
  have o : runD D (n + 7) 16 [.lv (ns.map PV.int)] [] = .ok (.lv [.ref 0, .int 0, .int 0], true) [cells.map PV.int] := o
  obtain ⟨sc, hsc⟩ : ∃ sc, sc = PV.lv (ns.map PV.int) := ⟨_, rfl⟩
  rw [← hsc] at o ⊢
  have hlen : (rangeV 0 ((6 : Nat) : Int)).length = 6 := by rw [range_len]; omega
  have loop := forP_inv (step := forTurn (.nm 2) [2, 7, 8, 9, 10, 11, 12, 13] (fun σ w s => pB (runD D (n + 7)) x_law_b2 σ w s))
    (fun j σ w s => ∃ x5 x6 : Option PV, σ = [some sc, some (.ref 1), none, none, none, x5, x6, none, none, none, none, none, none, none, none, none] ∧ (w = [] ∨ w = [6]) ∧ PS (400 * j) s)
    (xs := rangeV 0 ((6 : Nat) : Int)) (σ := [some sc, some (.ref 1), none, none, none, none, none, none, none, none, none, none, none, none, none, none]) (w := []) (s := penS cells 0 0) ⟨none, none, rfl, .inl rfl, cells, 0, 0, rfl, by omega, by omega, by omega⟩ (by
      rintro j v σ w s hj hv ⟨x5, x6, rfl, hw, ps⟩
      rw [hlen] at hj
      obtain ⟨i, rfl, i0, i1⟩ := range_mem hv
      obtain ⟨y5, y6, s', e, ps'⟩ := turn_run h n (sc := some sc) (x2 := none) (x3 := none) (x4 := none) (x5 := x5) (x6 := x6) (x14 := none) (x15 := none) (i := i) hw ps (by omega)
      exact ⟨_, _, _, .inl e, y5, y6, rfl, .inr rfl, ps'.mono (by omega)⟩)
  obtain ⟨σ', w', s', hf, x5, x6, rfl, hw, ps⟩ := loop
  have big : 1000 ≤ line := by unfold line; omega
  have l1 : 1 ≤ line := by omega
  have l2 : 2 ≤ line := by omega
  have l3 : 3 ≤ line := by omega
  have l5 : 5 ≤ line := by omega
  have l6 : 6 ≤ line := by omega
  obtain ⟨f1, f2, f3, f4, f5, f6, f7⟩ := full_facts
  obtain ⟨g1, g2, g3, g4, g5, g6, g7, g8⟩ := log_facts
  obtain ⟨k1, k2, k3, k4, k5, k6, k7, k8, k9, k10⟩ := ok_facts
  have q1 : fullQ.length ≤ 6 := by decide
  have q2 : ∀ p ∈ fullQ, p.1.length ≤ 6 := by decide +kernel
  have q3 : edgeQ.length ≤ 6 := by decide
  have q4 : ∀ p ∈ edgeQ, p.1.length ≤ 6 := by decide +kernel
  have a1 := told_restrict h n s' k6 k8 g6 g8
  rw [A120_all] at a1
  have a2 := told_fits h n s' k10 k7 f7 g7 q3 q4
  rw [f6] at a2
  have b1 := told_fits h n s' k9 k1 f5 g1 q1 q2
  have b2 := told_fits h n s' k9 k2 f5 g2 q1 q2
  have b3 := told_fits h n s' k9 k3 f5 g3 q1 q2
  have b4 := told_log1 h n s' k9 k5 f5 g5
  have b5 := told_fits h n s' k9 k4 f5 g4 q1 q2
  rw [f1] at b1
  rw [f2] at b2
  rw [f3] at b3
  rw [f4] at b5
  have m1 : bop .mul (.tup [.str [97]]) (.int 120) = some (.tup (nms A120)) := by
    have : bop .mul (.tup [.str [97]]) (.int 120) = some (.tup (rep 120 [.str [97]])) := rfl
    rw [this, rep_str]
    rfl
  have m2 : bop .mul (.tup [.str [98]]) (.int 120) = some (.tup (nms B120)) := by
    have : bop .mul (.tup [.str [98]]) (.int 120) = some (.tup (rep 120 [.str [98]])) := rfl
    rw [this, rep_str]
    rfl
  have m3 : ∀ c : Nat, bop .mul (.tup [.str [c]]) (.int 20) = some (.tup (nms (List.replicate 20 [c]))) := fun c => by
    have : bop .mul (.tup [.str [c]]) (.int 20) = some (.tup (rep 20 [.str [c]])) := rfl
    rw [this, rep_str]
  have m4 : bop .mul (.str [97, 98, 99, 100, 101, 102]) (.int 20) = some (.str (rep 20 abcT)) := rfl
  have m5 : blt s' .tuple [.str (rep 20 abcT)] = some (.tup (nms rowF)) := by
    have : blt s' .tuple [.str (rep 20 abcT)] = some (.tup ((rep 20 abcT).map fun c => .str [c])) := b_tupS (by decide)
    rw [this]
    unfold rowF nms
    rw [List.map_map]
    rfl
  have e1 : (nms rowF).reverse = nms rowF.reverse := List.map_reverse.symm
  have e2 : cut (nms rowF) (some (1 : Int)) none = nms (rowF.drop 1) := by
    have := cut_from (nms rowF) 1
    rw [show ((1 : Nat) : Int) = 1 from rfl] at this
    rw [this]
    exact List.map_drop.symm
  have e3 : bop .add (.tup (nms rowF)) (.tup [.str [97]]) = some (.tup (nms (rowF ++ [[97]]))) := by
    rw [bop_addT _ _ (by decide)]
    rw [show nms (rowF ++ [[97]]) = nms rowF ++ [.str [97]] from List.map_append]
  have e4 : cut (nms rowF) none (some (-1 : Int)) = nms (rowF.take 119) := by
    rfl
  have e5 : bop .add (.tup [.str [97]]) (.tup (nms (rowF.take 119))) = some (.tup (nms ([97] :: rowF.take 119))) := by
    exact bop_addT _ _ (by decide)
  have lc := lcP_map (s := s') (turn := lcTurn (.nm 15) [some sc, some (.ref 1), none, some edgesV, none, x5, x6, none, none, none, none, none, none, none, none, none] (fun _ s => .ok true s) (fun σ s => pE (runD D (n + 7)) x_law_e1 σ s)) (fun c => PV.str [c]) (fun c => pairP (pairN ([[c]], List.replicate 20 [c]))) abcT [] (fun c hc => by
    have m3 := m3 c
    rw [lcTurn_nm]
    obtain ⟨R, hR⟩ : ∃ R, R = nms (List.replicate 20 [c]) := ⟨_, rfl⟩
    rw [← hR] at m3
    have e : pairP (pairN ([[c]], List.replicate 20 [c])) = .tup [.tup [.str [c]], .tup R] := by rw [hR]; rfl
    rw [e]
    simp [x_law_e1, m3, l1, l2])
  rw [List.nil_append] at lc
  obtain ⟨FQ, hFQ⟩ : ∃ L, L = abcT.map fun c => pairP (pairN ([[c]], List.replicate 20 [c])) := ⟨_, rfl⟩
  have fq : caseQ fullQ = .tup FQ := by
    rw [hFQ]
    rfl
  have fql : FQ.length ≤ line := by rw [hFQ, List.length_map]; exact l6
  rw [← hFQ] at lc
  rw [fq] at b1 b2 b3 b4 b5
  have ep : caseQ edgeQ = .tup [.tup [.tup [.str [97]], .tup []]] := rfl
  rw [ep] at a2
  obtain ⟨A, hA⟩ : ∃ L, L = nms A120 := ⟨_, rfl⟩
  obtain ⟨B, hB⟩ : ∃ L, L = nms B120 := ⟨_, rfl⟩
  obtain ⟨R1, hR1⟩ : ∃ L, L = nms rowF := ⟨_, rfl⟩
  obtain ⟨R2, hR2⟩ : ∃ L, L = nms rowF.reverse := ⟨_, rfl⟩
  obtain ⟨R3, hR3⟩ : ∃ L, L = nms (rowF.drop 1) := ⟨_, rfl⟩
  obtain ⟨R4, hR4⟩ : ∃ L, L = nms (rowF ++ [[97]]) := ⟨_, rfl⟩
  obtain ⟨R5, hR5⟩ : ∃ L, L = nms ([97] :: rowF.take 119) := ⟨_, rfl⟩
  obtain ⟨R6, hR6⟩ : ∃ L, L = nms (rowF.take 119) := ⟨_, rfl⟩
  obtain ⟨X20, hX20⟩ : ∃ L, L = rep 20 abcT := ⟨_, rfl⟩
  have een := edges_ne
  unfold edgesV at een lc
  rw [← hA] at a1 m1 een lc
  rw [← hB] at a2 m2
  rw [← hX20] at m4 m5
  rw [← hR1] at b1 m5 e1 e2 e3 e4
  rw [← hR2] at b2 e1
  rw [← hR3] at b3 e2
  rw [← hR4] at b4 e3
  rw [← hR6] at e4 e5
  rw [← hR5] at b5 e5
  have eend := end_eq
  unfold endV at eend
  have u2 : nms [[97], [98]] = [.str [97], .str [98]] := rfl
  rw [u2] at a1
  have hr := rng_ok (m := 6) (by omega)
  have hr : rngO 0 6 = some (rangeV 0 ((6 : Nat) : Int)) := hr
  rw [run_def hl _ _ _ rfl]
  show ∃ fr s', fin (pB (runD D (n + 7)) x_law.body [some sc, none, none, none, none, none, none, none, none, none, none, none, none, none, none, none] [] []) = _
  have sh : [PV.ref 0, PV.int 0, PV.int 0].all shP = true := rfl
  refine ⟨false, s', ?_⟩
  refine (congrArg fin (pB_asgP (xs := [.ref 0, .int 0, .int 0]) (s1 := [cells.map PV.int]) ?_ sh)).trans ((congrArg fin (pB_for (xs := rangeV 0 ((6 : Nat) : Int)) (s1 := penS cells 0 0) ?_ hf)).trans ?_)
  · simp [o]
  · simp [hr, penS]
  have d1 : (PV.lv [.lv [.str toldT, .tup A], .lv [.str toldT, .bl false]]) = .lv [.lv [.str [116, 111, 108, 100], .tup A], .lv [.str [116, 111, 108, 100], .bl false]] := rfl
  simp only [toldT, logT] at a1 a2 b1 b2 b3 b4 b5 een eend lc
  have ab : (abcT.map fun c => PV.str [c]) = [.str [97], .str [98], .str [99], .str [100], .str [101], .str [102]] := rfl
  rw [ab] at lc
  rcases hw with rfl | rfl <;> simp [-bop_addT, x_law, x_law_e0, lcP_cons, lcP_nil, lcTurn_nm, a1, a2, b1, b2, b3, b4, b5, l1, l2, l3, l5, l6, m1, m2, m4, m5, een, eend, lc, e1, e2, e3, e4, e5, fql]
end Pu

set_option linter.all false
set_option autoImplicit false
set_option maxRecDepth 100000
set_option maxHeartbeats 0
set_option Elab.async false
namespace PuLaw
open PySem PySem.Spec PyProof.Rows L2 Pu
def top (i : Nat) : Stmt := PySem.Challenge.pw_partviews_k03_logs_and_families_refused.main.body.getD i (.Pass ⟨0, 0, 0, 0⟩)
def r_is_name : Fn := ⟨0, ⟨(Str.ofString "is_name", none), Str.ofString "is_name", Str.ofString "is_name", defArgs (top 29), defBody (top 29), defScope (top 29), [], []⟩, [Str.ofString "value", Str.ofString "letter"], [Str.ofString "value"], x_is_name⟩
def r_is_name_set : Fn := ⟨1, ⟨(Str.ofString "is_name_set", none), Str.ofString "is_name_set", Str.ofString "is_name_set", defArgs (top 30), defBody (top 30), defScope (top 30), [], []⟩, [Str.ofString "value", Str.ofString "name"], [Str.ofString "value"], x_is_name_set⟩
def r_names_of : Fn := ⟨2, ⟨(Str.ofString "names_of", none), Str.ofString "names_of", Str.ofString "names_of", defArgs (top 31), defBody (top 31), defScope (top 31), [], []⟩, [Str.ofString "family", Str.ofString "names", Str.ofString "name"], [Str.ofString "family"], x_names_of⟩
def r_is_family : Fn := ⟨3, ⟨(Str.ofString "is_family", none), Str.ofString "is_family", Str.ofString "is_family", defArgs (top 32), defBody (top 32), defScope (top 32), [], []⟩, [Str.ofString "value", Str.ofString "names"], [Str.ofString "value"], x_is_family⟩
def r_is_log : Fn := ⟨4, ⟨(Str.ofString "is_log", none), Str.ofString "is_log", Str.ofString "is_log", defArgs (top 33), defBody (top 33), defScope (top 33), [], []⟩, [Str.ofString "value", Str.ofString "name"], [Str.ofString "value"], x_is_log⟩
def r_is_view : Fn := ⟨5, ⟨(Str.ofString "is_view", none), Str.ofString "is_view", Str.ofString "is_view", defArgs (top 34), defBody (top 34), defScope (top 34), [], []⟩, [Str.ofString "value", Str.ofString "names", Str.ofString "name"], [Str.ofString "value", Str.ofString "names"], x_is_view⟩
def r_family_of : Fn := ⟨6, ⟨(Str.ofString "family_of", none), Str.ofString "family_of", Str.ofString "family_of", defArgs (top 35), defBody (top 35), defScope (top 35), [], []⟩, [Str.ofString "case", Str.ofString "names", Str.ofString "view"], [Str.ofString "case"], x_family_of⟩
def r_is_case : Fn := ⟨7, ⟨(Str.ofString "is_case", none), Str.ofString "is_case", Str.ofString "is_case", defArgs (top 36), defBody (top 36), defScope (top 36), [], []⟩, [Str.ofString "value", Str.ofString "pair", Str.ofString "names", Str.ofString "view"], [Str.ofString "value"], x_is_case⟩
def r_require_names : Fn := ⟨8, ⟨(Str.ofString "require_names", none), Str.ofString "require_names", Str.ofString "require_names", defArgs (top 37), defBody (top 37), defScope (top 37), [], []⟩, [Str.ofString "value"], [Str.ofString "value"], x_require_names⟩
def r_require_log : Fn := ⟨9, ⟨(Str.ofString "require_log", none), Str.ofString "require_log", Str.ofString "require_log", defArgs (top 38), defBody (top 38), defScope (top 38), [], []⟩, [Str.ofString "value"], [Str.ofString "value"], x_require_log⟩
def r_require_case : Fn := ⟨10, ⟨(Str.ofString "require_case", none), Str.ofString "require_case", Str.ofString "require_case", defArgs (top 39), defBody (top 39), defScope (top 39), [], []⟩, [Str.ofString "value"], [Str.ofString "value"], x_require_case⟩
def r_restrict_log : Fn := ⟨11, ⟨(Str.ofString "restrict_log", none), Str.ofString "restrict_log", Str.ofString "restrict_log", defArgs (top 40), defBody (top 40), defScope (top 40), [], []⟩, [Str.ofString "log", Str.ofString "names", Str.ofString "name"], [Str.ofString "log", Str.ofString "names"], x_restrict_log⟩
def r_fits_case : Fn := ⟨12, ⟨(Str.ofString "fits_case", none), Str.ofString "fits_case", Str.ofString "fits_case", defArgs (top 41), defBody (top 41), defScope (top 41), [], []⟩, [Str.ofString "case", Str.ofString "log", Str.ofString "known", Str.ofString "name", Str.ofString "names", Str.ofString "view"], [Str.ofString "case", Str.ofString "log"], x_fits_case⟩
def r_restrict : Fn := ⟨13, ⟨(Str.ofString "restrict", none), Str.ofString "restrict", Str.ofString "restrict", defArgs (top 42), defBody (top 42), defScope (top 42), [], []⟩, [Str.ofString "log", Str.ofString "names"], [Str.ofString "log", Str.ofString "names"], x_restrict⟩
def r_fits : Fn := ⟨14, ⟨(Str.ofString "fits", none), Str.ofString "fits", Str.ofString "fits", defArgs (top 43), defBody (top 43), defScope (top 43), [], []⟩, [Str.ofString "case", Str.ofString "log"], [Str.ofString "case", Str.ofString "log"], x_fits⟩
def r__law_spread : Fn := ⟨15, ⟨(Str.ofString "_law_spread", none), Str.ofString "_law_spread", Str.ofString "_law_spread", defArgs (top 45), defBody (top 45), defScope (top 45), [], []⟩, [Str.ofString "cell", Str.ofString "at", Str.ofString "primes", Str.ofString "mixed", Str.ofString "one", Str.ofString "two", Str.ofString "three"], [Str.ofString "cell", Str.ofString "at"], x__law_spread⟩
def r__law_open : Fn := ⟨16, ⟨(Str.ofString "_law_open", none), Str.ofString "_law_open", Str.ofString "_law_open", defArgs (top 46), defBody (top 46), defScope (top 46), [], []⟩, [Str.ofString "script", Str.ofString "cells", Str.ofString "k", Str.ofString "cell"], [Str.ofString "script"], x__law_open⟩
def r__law_anew : Fn := ⟨17, ⟨(Str.ofString "_law_anew", none), Str.ofString "_law_anew", Str.ofString "_law_anew", defArgs (top 47), defBody (top 47), defScope (top 47), [], []⟩, [Str.ofString "pen"], [Str.ofString "pen"], x__law_anew⟩
def r__law_take : Fn := ⟨18, ⟨(Str.ofString "_law_take", none), Str.ofString "_law_take", Str.ofString "_law_take", defArgs (top 48), defBody (top 48), defScope (top 48), [], []⟩, [Str.ofString "pen", Str.ofString "many", Str.ofString "found", Str.ofString "at", Str.ofString "cell"], [Str.ofString "pen", Str.ofString "many"], x__law_take⟩
def r__law_one : Fn := ⟨19, ⟨(Str.ofString "_law_one", none), Str.ofString "_law_one", Str.ofString "_law_one", defArgs (top 49), defBody (top 49), defScope (top 49), [], []⟩, [Str.ofString "pen", Str.ofString "some"], [Str.ofString "pen", Str.ofString "some"], x__law_one⟩
def r__law_drawn : Fn := ⟨20, ⟨(Str.ofString "_law_drawn", none), Str.ofString "_law_drawn", Str.ofString "_law_drawn", defArgs (top 50), defBody (top 50), defScope (top 50), [], []⟩, [Str.ofString "pen", Str.ofString "many", Str.ofString "found", Str.ofString "k"], [Str.ofString "pen", Str.ofString "many"], x__law_drawn⟩
def r__law_pool : Fn := ⟨21, ⟨(Str.ofString "_law_pool", none), Str.ofString "_law_pool", Str.ofString "_law_pool", defArgs (top 51), defBody (top 51), defScope (top 51), [], []⟩, [Str.ofString "pen", Str.ofString "many", Str.ofString "names", Str.ofString "found", Str.ofString "place"], [Str.ofString "pen", Str.ofString "many"], x__law_pool⟩
def r__law_family : Fn := ⟨22, ⟨(Str.ofString "_law_family", none), Str.ofString "_law_family", Str.ofString "_law_family", defArgs (top 52), defBody (top 52), defScope (top 52), [], []⟩, [Str.ofString "pen", Str.ofString "most", Str.ofString "many", Str.ofString "size", Str.ofString "pool", Str.ofString "found", Str.ofString "observer", Str.ofString "names", Str.ofString "step"], [Str.ofString "pen", Str.ofString "most", Str.ofString "many", Str.ofString "size"], x__law_family⟩
def r__law_names : Fn := ⟨23, ⟨(Str.ofString "_law_names", none), Str.ofString "_law_names", Str.ofString "_law_names", defArgs (top 53), defBody (top 53), defScope (top 53), [], []⟩, [Str.ofString "family", Str.ofString "found", Str.ofString "names", Str.ofString "name"], [Str.ofString "family"], x__law_names⟩
def r__law_row : Fn := ⟨24, ⟨(Str.ofString "_law_row", none), Str.ofString "_law_row", Str.ofString "_law_row", defArgs (top 54), defBody (top 54), defScope (top 54), [], []⟩, [Str.ofString "pen", Str.ofString "names", Str.ofString "size", Str.ofString "step"], [Str.ofString "pen", Str.ofString "names", Str.ofString "size"], x__law_row⟩
def r__law_seen : Fn := ⟨25, ⟨(Str.ofString "_law_seen", none), Str.ofString "_law_seen", Str.ofString "_law_seen", defArgs (top 55), defBody (top 55), defScope (top 55), [], []⟩, [Str.ofString "names", Str.ofString "row", Str.ofString "name"], [Str.ofString "names", Str.ofString "row"], x__law_seen⟩
def r__law_case : Fn := ⟨26, ⟨(Str.ofString "_law_case", none), Str.ofString "_law_case", Str.ofString "_law_case", defArgs (top 56), defBody (top 56), defScope (top 56), [], []⟩, [Str.ofString "pen", Str.ofString "family", Str.ofString "size", Str.ofString "row", Str.ofString "views", Str.ofString "turn", Str.ofString "observer", Str.ofString "at", Str.ofString "names", Str.ofString "view", Str.ofString "sort"], [Str.ofString "pen", Str.ofString "family", Str.ofString "size"], x__law_case⟩
def r__law_refusal : Fn := ⟨27, ⟨(Str.ofString "_law_refusal", none), Str.ofString "_law_refusal", Str.ofString "_law_refusal", defArgs (top 58), defBody (top 58), defScope (top 58), [], []⟩, [Str.ofString "caught", Str.ofString "some", Str.ofString "words"], [Str.ofString "caught"], x__law_refusal⟩
def r__law_told : Fn := ⟨28, ⟨(Str.ofString "_law_told", none), Str.ofString "_law_told", Str.ofString "_law_told", defArgs (top 59), defBody (top 59), defScope (top 59), [], []⟩, [Str.ofString "sort", Str.ofString "first", Str.ofString "second", Str.ofString "kept", Str.ofString "e", Str.ofString "caught", Str.ofString "found"], [Str.ofString "sort", Str.ofString "first", Str.ofString "second"], x__law_told⟩
def r_law : Fn := ⟨29, ⟨(Str.ofString "law", none), Str.ofString "law", Str.ofString "law", defArgs (top 60), defBody (top 60), defScope (top 60), [], []⟩, [Str.ofString "script", Str.ofString "pen", Str.ofString "turn", Str.ofString "edges", Str.ofString "full", Str.ofString "row", Str.ofString "found", Str.ofString "family", Str.ofString "wrong", Str.ofString "bad", Str.ofString "odd", Str.ofString "none", Str.ofString "case", Str.ofString "names", Str.ofString "own", Str.ofString "name"], [Str.ofString "script"], x_law⟩
def T : List Fn := [r_is_name, r_is_name_set, r_names_of, r_is_family, r_is_log, r_is_view, r_family_of, r_is_case, r_require_names, r_require_log, r_require_case, r_restrict_log, r_fits_case, r_restrict, r_fits, r__law_spread, r__law_open, r__law_anew, r__law_take, r__law_one, r__law_drawn, r__law_pool, r__law_family, r__law_names, r__law_row, r__law_seen, r__law_case, r__law_refusal, r__law_told, r_law]
def tab : Tab := ⟨[Str.ofString "ValueError", Str.ofString "all", Str.ofString "enumerate", Str.ofString "isinstance", Str.ofString "len", Str.ofString "list", Str.ofString "range", Str.ofString "repr", Str.ofString "set", Str.ofString "sorted", Str.ofString "str", Str.ofString "tuple", Str.ofString "zip"], [(Str.ofString "LONGEST_LOG", .int 120), (Str.ofString "LONGEST_NAME", .int 8), (Str.ofString "LONGEST_VIEW", .int 20), (Str.ofString "MOST_IN_SET", .int 6), (Str.ofString "MOST_NAMES", .int 8), (Str.ofString "MOST_OBSERVERS", .int 6), (Str.ofString "SMALL", .str [97, 98, 99, 100, 101, 102, 103, 104, 105, 106, 107, 108, 109, 110, 111, 112, 113, 114, 115, 116, 117, 118, 119, 120, 121, 122])], [(Str.ofString "ViewError", 0), (Str.ofString "InvalidNames", 1), (Str.ofString "InvalidFamily", 2), (Str.ofString "InvalidLog", 3), (Str.ofString "InvalidCase", 4), (Str.ofString "InvalidNumber", 5), (Str.ofString "InvalidRing", 6), (Str.ofString "CountConflict", 7), (Str.ofString "Impossible", 8), (Str.ofString "NotUndecided", 9), (Str.ofString "Contradiction", 10), (Str.ofString "NothingSeen", 11), (Str.ofString "TooLong", 12), (Str.ofString "TooMany", 13), (Str.ofString "NotACertificate", 14), (Str.ofString "UnknownEvent", 15), (Str.ofString "InvalidObserver", 16), (Str.ofString "NotSeen", 17), (Str.ofString "Full", 18), (Str.ofString "InvalidMark", 19)], [1, 3, 4]⟩
def loose : List PStr := [Str.ofString "__name__", Str.ofString "ViewError", Str.ofString "InvalidNames", Str.ofString "InvalidFamily", Str.ofString "InvalidLog", Str.ofString "InvalidCase", Str.ofString "InvalidNumber", Str.ofString "InvalidRing", Str.ofString "CountConflict", Str.ofString "Impossible", Str.ofString "NotUndecided", Str.ofString "Contradiction", Str.ofString "NothingSeen", Str.ofString "TooLong", Str.ofString "TooMany", Str.ofString "NotACertificate", Str.ofString "UnknownEvent", Str.ofString "InvalidObserver", Str.ofString "NotSeen", Str.ofString "Full", Str.ofString "InvalidMark", Str.ofString "SMALL", Str.ofString "LONGEST_NAME", Str.ofString "MOST_IN_SET", Str.ofString "MOST_OBSERVERS", Str.ofString "MOST_NAMES", Str.ofString "LONGEST_LOG", Str.ofString "LONGEST_VIEW", Str.ofString "is_name", Str.ofString "is_name_set", Str.ofString "names_of", Str.ofString "is_family", Str.ofString "is_log", Str.ofString "is_view", Str.ofString "family_of", Str.ofString "is_case", Str.ofString "require_names", Str.ofString "require_log", Str.ofString "require_case", Str.ofString "restrict_log", Str.ofString "fits_case", Str.ofString "restrict", Str.ofString "fits", Str.ofString "_law_spread", Str.ofString "_law_open", Str.ofString "_law_anew", Str.ofString "_law_take", Str.ofString "_law_one", Str.ofString "_law_drawn", Str.ofString "_law_pool", Str.ofString "_law_family", Str.ofString "_law_names", Str.ofString "_law_row", Str.ofString "_law_seen", Str.ofString "_law_case", Str.ofString "_law_least", Str.ofString "_law_refusal", Str.ofString "_law_told"]
abbrev R : PySem.W.OpenRow := PySem.W.OpenLaw.row PySem.Challenge.rw_partviews_k03_logs_and_families_refused
theorem c_is_name : fnChk (fnsOf T) tab r_is_name = true := by decide +kernel
theorem c_is_name_set : fnChk (fnsOf T) tab r_is_name_set = true := by decide +kernel
theorem c_names_of : fnChk (fnsOf T) tab r_names_of = true := by decide +kernel
theorem c_is_family : fnChk (fnsOf T) tab r_is_family = true := by decide +kernel
theorem c_is_log : fnChk (fnsOf T) tab r_is_log = true := by decide +kernel
theorem c_is_view : fnChk (fnsOf T) tab r_is_view = true := by decide +kernel
theorem c_family_of : fnChk (fnsOf T) tab r_family_of = true := by decide +kernel
theorem c_is_case : fnChk (fnsOf T) tab r_is_case = true := by decide +kernel
theorem c_require_names : fnChk (fnsOf T) tab r_require_names = true := by decide +kernel
theorem c_require_log : fnChk (fnsOf T) tab r_require_log = true := by decide +kernel
theorem c_require_case : fnChk (fnsOf T) tab r_require_case = true := by decide +kernel
theorem c_restrict_log : fnChk (fnsOf T) tab r_restrict_log = true := by decide +kernel
theorem c_fits_case : fnChk (fnsOf T) tab r_fits_case = true := by decide +kernel
theorem c_restrict : fnChk (fnsOf T) tab r_restrict = true := by decide +kernel
theorem c_fits : fnChk (fnsOf T) tab r_fits = true := by decide +kernel
theorem c__law_spread : fnChk (fnsOf T) tab r__law_spread = true := by decide +kernel
theorem c__law_open : fnChk (fnsOf T) tab r__law_open = true := by decide +kernel
theorem c__law_anew : fnChk (fnsOf T) tab r__law_anew = true := by decide +kernel
theorem c__law_take : fnChk (fnsOf T) tab r__law_take = true := by decide +kernel
theorem c__law_one : fnChk (fnsOf T) tab r__law_one = true := by decide +kernel
theorem c__law_drawn : fnChk (fnsOf T) tab r__law_drawn = true := by decide +kernel
theorem c__law_pool : fnChk (fnsOf T) tab r__law_pool = true := by decide +kernel
theorem c__law_family : fnChk (fnsOf T) tab r__law_family = true := by decide +kernel
theorem c__law_names : fnChk (fnsOf T) tab r__law_names = true := by decide +kernel
theorem c__law_row : fnChk (fnsOf T) tab r__law_row = true := by decide +kernel
theorem c__law_seen : fnChk (fnsOf T) tab r__law_seen = true := by decide +kernel
theorem c__law_case : fnChk (fnsOf T) tab r__law_case = true := by decide +kernel
theorem c__law_refusal : fnChk (fnsOf T) tab r__law_refusal = true := by decide +kernel
theorem c__law_told : fnChk (fnsOf T) tab r__law_told = true := by decide +kernel
theorem c_law : fnChk (fnsOf T) tab r_law = true := by decide +kernel
theorem hc : ∀ r ∈ T, fnChk (fnsOf T) tab r = true := by
  show ∀ r ∈ [r_is_name, r_is_name_set, r_names_of, r_is_family, r_is_log, r_is_view, r_family_of, r_is_case, r_require_names, r_require_log, r_require_case, r_restrict_log, r_fits_case, r_restrict, r_fits, r__law_spread, r__law_open, r__law_anew, r__law_take, r__law_one, r__law_drawn, r__law_pool, r__law_family, r__law_names, r__law_row, r__law_seen, r__law_case, r__law_refusal, r__law_told, r_law], fnChk (fnsOf T) tab r = true
  exact List.forall_mem_cons.mpr ⟨c_is_name, List.forall_mem_cons.mpr ⟨c_is_name_set, List.forall_mem_cons.mpr ⟨c_names_of, List.forall_mem_cons.mpr ⟨c_is_family, List.forall_mem_cons.mpr ⟨c_is_log, List.forall_mem_cons.mpr ⟨c_is_view, List.forall_mem_cons.mpr ⟨c_family_of, List.forall_mem_cons.mpr ⟨c_is_case, List.forall_mem_cons.mpr ⟨c_require_names, List.forall_mem_cons.mpr ⟨c_require_log, List.forall_mem_cons.mpr ⟨c_require_case, List.forall_mem_cons.mpr ⟨c_restrict_log, List.forall_mem_cons.mpr ⟨c_fits_case, List.forall_mem_cons.mpr ⟨c_restrict, List.forall_mem_cons.mpr ⟨c_fits, List.forall_mem_cons.mpr ⟨c__law_spread, List.forall_mem_cons.mpr ⟨c__law_open, List.forall_mem_cons.mpr ⟨c__law_anew, List.forall_mem_cons.mpr ⟨c__law_take, List.forall_mem_cons.mpr ⟨c__law_one, List.forall_mem_cons.mpr ⟨c__law_drawn, List.forall_mem_cons.mpr ⟨c__law_pool, List.forall_mem_cons.mpr ⟨c__law_family, List.forall_mem_cons.mpr ⟨c__law_names, List.forall_mem_cons.mpr ⟨c__law_row, List.forall_mem_cons.mpr ⟨c__law_seen, List.forall_mem_cons.mpr ⟨c__law_case, List.forall_mem_cons.mpr ⟨c__law_refusal, List.forall_mem_cons.mpr ⟨c__law_told, List.forall_mem_cons.mpr ⟨c_law, fun _ h => by cases h⟩⟩⟩⟩⟩⟩⟩⟩⟩⟩⟩⟩⟩⟩⟩⟩⟩⟩⟩⟩⟩⟩⟩⟩⟩⟩⟩⟩⟩⟩
theorem b_is_name : Bd r_is_name := fun _ _ _ _ _ _ us hl => match us, hl with | [_], _ => rfl
theorem b_is_name_set : Bd r_is_name_set := fun _ _ _ _ _ _ us hl => match us, hl with | [_], _ => rfl
theorem b_names_of : Bd r_names_of := fun _ _ _ _ _ _ us hl => match us, hl with | [_], _ => rfl
theorem b_is_family : Bd r_is_family := fun _ _ _ _ _ _ us hl => match us, hl with | [_], _ => rfl
theorem b_is_log : Bd r_is_log := fun _ _ _ _ _ _ us hl => match us, hl with | [_], _ => rfl
theorem b_is_view : Bd r_is_view := fun _ _ _ _ _ _ us hl => match us, hl with | [_, _], _ => rfl
theorem b_family_of : Bd r_family_of := fun _ _ _ _ _ _ us hl => match us, hl with | [_], _ => rfl
theorem b_is_case : Bd r_is_case := fun _ _ _ _ _ _ us hl => match us, hl with | [_], _ => rfl
theorem b_require_names : Bd r_require_names := fun _ _ _ _ _ _ us hl => match us, hl with | [_], _ => rfl
theorem b_require_log : Bd r_require_log := fun _ _ _ _ _ _ us hl => match us, hl with | [_], _ => rfl
theorem b_require_case : Bd r_require_case := fun _ _ _ _ _ _ us hl => match us, hl with | [_], _ => rfl
theorem b_restrict_log : Bd r_restrict_log := fun _ _ _ _ _ _ us hl => match us, hl with | [_, _], _ => rfl
theorem b_fits_case : Bd r_fits_case := fun _ _ _ _ _ _ us hl => match us, hl with | [_, _], _ => rfl
theorem b_restrict : Bd r_restrict := fun _ _ _ _ _ _ us hl => match us, hl with | [_, _], _ => rfl
theorem b_fits : Bd r_fits := fun _ _ _ _ _ _ us hl => match us, hl with | [_, _], _ => rfl
theorem b__law_spread : Bd r__law_spread := fun _ _ _ _ _ _ us hl => match us, hl with | [_, _], _ => rfl
theorem b__law_open : Bd r__law_open := fun _ _ _ _ _ _ us hl => match us, hl with | [_], _ => rfl
theorem b__law_anew : Bd r__law_anew := fun _ _ _ _ _ _ us hl => match us, hl with | [_], _ => rfl
theorem b__law_take : Bd r__law_take := fun _ _ _ _ _ _ us hl => match us, hl with | [_, _], _ => rfl
theorem b__law_one : Bd r__law_one := fun _ _ _ _ _ _ us hl => match us, hl with | [_, _], _ => rfl
theorem b__law_drawn : Bd r__law_drawn := fun _ _ _ _ _ _ us hl => match us, hl with | [_, _], _ => rfl
theorem b__law_pool : Bd r__law_pool := fun _ _ _ _ _ _ us hl => match us, hl with | [_, _], _ => rfl
theorem b__law_family : Bd r__law_family := fun _ _ _ _ _ _ us hl => match us, hl with | [_, _, _, _], _ => rfl
theorem b__law_names : Bd r__law_names := fun _ _ _ _ _ _ us hl => match us, hl with | [_], _ => rfl
theorem b__law_row : Bd r__law_row := fun _ _ _ _ _ _ us hl => match us, hl with | [_, _, _], _ => rfl
theorem b__law_seen : Bd r__law_seen := fun _ _ _ _ _ _ us hl => match us, hl with | [_, _], _ => rfl
theorem b__law_case : Bd r__law_case := fun _ _ _ _ _ _ us hl => match us, hl with | [_, _, _], _ => rfl
theorem b__law_refusal : Bd r__law_refusal := fun _ _ _ _ _ _ us hl => match us, hl with | [_], _ => rfl
theorem b__law_told : Bd r__law_told := fun _ _ _ _ _ _ us hl => match us, hl with | [_, _, _], _ => rfl
theorem b_law : Bd r_law := fun _ _ _ _ _ _ us hl => match us, hl with | [_], _ => rfl
theorem hb : BdAll T := ⟨b_is_name, b_is_name_set, b_names_of, b_is_family, b_is_log, b_is_view, b_family_of, b_is_case, b_require_names, b_require_log, b_require_case, b_restrict_log, b_fits_case, b_restrict, b_fits, b__law_spread, b__law_open, b__law_anew, b__law_take, b__law_one, b__law_drawn, b__law_pool, b__law_family, b__law_names, b__law_row, b__law_seen, b__law_case, b__law_refusal, b__law_told, b_law, trivial⟩
theorem hat : ∀ r ∈ T, r.d.at_ = (r.d.name, none) := by
  show ∀ r ∈ [r_is_name, r_is_name_set, r_names_of, r_is_family, r_is_log, r_is_view, r_family_of, r_is_case, r_require_names, r_require_log, r_require_case, r_restrict_log, r_fits_case, r_restrict, r_fits, r__law_spread, r__law_open, r__law_anew, r__law_take, r__law_one, r__law_drawn, r__law_pool, r__law_family, r__law_names, r__law_row, r__law_seen, r__law_case, r__law_refusal, r__law_told, r_law], r.d.at_ = (r.d.name, none)
  exact List.forall_mem_cons.mpr ⟨rfl, List.forall_mem_cons.mpr ⟨rfl, List.forall_mem_cons.mpr ⟨rfl, List.forall_mem_cons.mpr ⟨rfl, List.forall_mem_cons.mpr ⟨rfl, List.forall_mem_cons.mpr ⟨rfl, List.forall_mem_cons.mpr ⟨rfl, List.forall_mem_cons.mpr ⟨rfl, List.forall_mem_cons.mpr ⟨rfl, List.forall_mem_cons.mpr ⟨rfl, List.forall_mem_cons.mpr ⟨rfl, List.forall_mem_cons.mpr ⟨rfl, List.forall_mem_cons.mpr ⟨rfl, List.forall_mem_cons.mpr ⟨rfl, List.forall_mem_cons.mpr ⟨rfl, List.forall_mem_cons.mpr ⟨rfl, List.forall_mem_cons.mpr ⟨rfl, List.forall_mem_cons.mpr ⟨rfl, List.forall_mem_cons.mpr ⟨rfl, List.forall_mem_cons.mpr ⟨rfl, List.forall_mem_cons.mpr ⟨rfl, List.forall_mem_cons.mpr ⟨rfl, List.forall_mem_cons.mpr ⟨rfl, List.forall_mem_cons.mpr ⟨rfl, List.forall_mem_cons.mpr ⟨rfl, List.forall_mem_cons.mpr ⟨rfl, List.forall_mem_cons.mpr ⟨rfl, List.forall_mem_cons.mpr ⟨rfl, List.forall_mem_cons.mpr ⟨rfl, List.forall_mem_cons.mpr ⟨rfl, fun _ h => by cases h⟩⟩⟩⟩⟩⟩⟩⟩⟩⟩⟩⟩⟩⟩⟩⟩⟩⟩⟩⟩⟩⟩⟩⟩⟩⟩⟩⟩⟩⟩
theorem hn : (T.map (·.id)).Nodup := by decide +kernel
theorem hcs : ∀ p ∈ tab.cst, cstB p = true := by decide +kernel
theorem law_mem : r_law ∈ T := by
  show r_law ∈ [r_is_name, r_is_name_set, r_names_of, r_is_family, r_is_log, r_is_view, r_family_of, r_is_case, r_require_names, r_require_log, r_require_case, r_restrict_log, r_fits_case, r_restrict, r_fits, r__law_spread, r__law_open, r__law_anew, r__law_take, r__law_one, r__law_drawn, r__law_pool, r__law_family, r__law_names, r__law_row, r__law_seen, r__law_case, r__law_refusal, r__law_told, r_law]
  simp only [List.mem_cons, true_or, or_true]
theorem hasL : HasK03 (prog T) where
  c := { d15 := rfl, d17 := rfl, d18 := rfl, d19 := rfl, d20 := rfl, d21 := rfl, d22 := rfl, d23 := rfl, d24 := rfl, d25 := rfl, d26 := rfl }
  f := { d0 := rfl, d1 := rfl, d2 := rfl, d3 := rfl, d4 := rfl, d5 := rfl, d6 := rfl, d7 := rfl, d8 := rfl, d9 := rfl, d10 := rfl, d11 := rfl, d12 := rfl, d13 := rfl, d14 := rfl }
  d16 := rfl
  d27 := rfl
  d28 := rfl
theorem says (ns : List Int) (_ : ns.length ≤ 63) : ∃ fr s', runD (prog T) 100 29 [.lv (ns.map PV.int)] [] = .ok (.bl true, fr) s' := law_run hasL rfl 92 ns

abbrev hk : PySem.W.Hook := hookN 4 (facts T tab) (T.map (·.d)) tab
def ob (s : PySem.W.SharedT) : AlP := obN 4 (facts T tab) (T.map (·.d)) tab s
theorem ob_eq (s : PySem.W.SharedT) : ob s = hk.obs s.abs := obN_eq s
theorem run (w : World) : HandSHeadRun.RunEq R (PySem.W.view R.prog [60]) hk ob 12000 loose w := by
  intro os
  kernel_rfl
end PuLaw
open PySem PySem.W PySem.Calls PyProof.Rows Pu
theorem PySem.Challenge.cw_partviews_k03_logs_and_families_refused_holds : PySem.Challenge.rw_partviews_k03_logs_and_families_refused.Holds := by
  w_on; o_law
  refine HandSHeadRun.head_any (r := OpenLaw.row PySem.Challenge.rw_partviews_k03_logs_and_families_refused) (q := view (OpenLaw.row PySem.Challenge.rw_partviews_k03_logs_and_families_refused).prog [60]) (H := PuLaw.hk) (ob := PuLaw.ob) (M := 12000) (loose := PuLaw.loose) (d := HandSHeadRun.topDef (OpenLaw.row PySem.Challenge.rw_partviews_k03_logs_and_families_refused).prog 60) (kwd := []) PuLaw.ob_eq
    (by kernel_rfl) (fun s => by kernel_rfl) PuLaw.run (by kernel_rfl) (by kernel_rfl) (by kernel_rfl) (by rfl) (by first | assumption | decide +kernel) (by decide +kernel) ⟨rfl, rfl, rfl, rfl, rfl, by decide +kernel⟩ ?hw ?hc
  case hw => w_witness2
  case hc =>
    refine walkG (l := PySem.Challenge.rw_partviews_k03_logs_and_families_refused) (n := 63) (k := 100) (x := Str.ofString "script") rfl (by decide) (by kernel_rfl) ⟨rfl, by decide, by decide⟩ ?F
    intro w mg fa h Y G hmg0
    have hmg : mg PuLaw.r_law.d.name = some (.ref fa) := by
      have e : (HandSHeadRun.topDef (OpenLaw.row PySem.Challenge.rw_partviews_k03_logs_and_families_refused).prog 60).name = PuLaw.r_law.d.name := by kernel_rfl
      rw [← e]
      exact hmg0
    exact law_of G (r := PuLaw.r_law) (K0 := 100) PuLaw.law_mem rfl hmg PuLaw.hb PuLaw.hc PuLaw.hat PuLaw.hn PuLaw.hcs Y PuLaw.says


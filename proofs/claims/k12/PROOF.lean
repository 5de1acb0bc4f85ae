import PyProof.Rows.All
import Wide.All
import OpenK.AllK
import Wide.FinOn
import KE.KStateDown
import HandS.SetFor
import HandS.SortInts
import HandS.TupSets
import HandS.Zip
import HandS.ForMost
import HandS.ForExc
import HandS.IsInst
import HandS.Flow
import HandS.TupAny
import HandS.RaiseMore
import HandS.FStr
import HandS.Deep
import PyProof.StrBlock2
import HandS.More
import HandS.Defaults
import HandS.ExcIs
import KE.KExcIs
import HandS.ExcField
import KE.KExcSuper
import HandS.Exc
import HandS.CallSlots
import HandS.ExcOwn
import HandS.Comp
import HandS.HeadHook4
import HandS.HeadEnd
import HandS.Style
import KE.GoesMore
import KE.GoesEnum
import KE.KOpsOwn
import KE.KCallOwn
import HandS.OwnEq
import OpenK.KMeth
import OpenK.KOps
import PyProof.InstNe
import HandS.MakeKwOnly
import HandS.Words
import HandS.WordsExc
import HandS.Ends
import HandS.Head0
import HandS.Head1
import HandS.Head2
import HandS.HeadHook1
import HandS.HeadHook2
import PySem.Challenge.RW_samealone_k12_whole_sizes_are_sets
set_option Elab.async false
set_option linter.all false
set_option maxRecDepth 100000
set_option maxHeartbeats 4000000
/-! # sets of ints, of texts, made of a list or a tuple; their number; sorted -/
namespace Ks
open PySem PySem.Spec PyProof.Rows L2
section
variable {P : Program} {w : World} {K : Type} [DecidableEq K]
/-- an entry is a key of the kind -/
structure Ent (knd : KeyKind P w K) (kf : Value → K) (e : Int × Value) : Prop where
  is : knd.is (kf e.2) e.2 = true
  h : e.1 = knd.hash (kf e.2)
  sc : e.2.scannable = true
/-- at a stands a set of the keys ks -/
def SetL (knd : KeyKind P w K) (kf : Value → K) (h : Heap) (a : Addr) (ks : List K) : Prop := ∃ o es ep t, h.get? a = some o ∧ o.ExactSet ∧ o.data = .set es ep t ∧
  (∀ e ∈ es.toList, Ent knd kf e) ∧ (es.toList.map fun e => kf e.2).Perm ks ∧ ks.Nodup ∧ es.size < scanBound ∧ t.fits es.size = true ∧ Ris t.place.toList ∧ (w.params.followText "set-order" = true ∨ t.led = true)
/-- the keys, each once, as they come -/
def put1 (ks : List K) (k : K) : List K := if k ∈ ks then ks else ks ++ [k]
def dd (xs : List K) : List K := xs.foldl put1 []
theorem put1_nodup {ks : List K} {k : K} (h : ks.Nodup) : (put1 ks k).Nodup := by
  unfold put1
  split
  · exact h
  · rename_i hk
    rw [List.nodup_append]
    exact ⟨h, by simp, fun x hx y hy => by simp at hy; subst hy; exact fun e => hk (e ▸ hx)⟩
theorem put1_len {ks : List K} {k : K} : (put1 ks k).length ≤ ks.length + 1 := by
  unfold put1
  split <;> simp
theorem fold_len : ∀ (xs acc : List K), (xs.foldl put1 acc).length ≤ acc.length + xs.length
  | [], acc => by simp
  | x :: xs, acc => by
    have := fold_len xs (put1 acc x)
    have := put1_len (ks := acc) (k := x)
    simp only [List.foldl_cons, List.length_cons]
    omega
theorem dd_len (xs : List K) : (dd xs).length ≤ xs.length := by have := fold_len xs []; simpa [dd] using this
theorem fold_nodup : ∀ (xs acc : List K), acc.Nodup → (xs.foldl put1 acc).Nodup
  | [], _, h => h
  | x :: xs, acc, h => fold_nodup xs _ (put1_nodup h)
theorem dd_nodup (xs : List K) : (dd xs).Nodup := fold_nodup xs [] (by simp)
theorem put1_mem {ks : List K} {k x : K} : x ∈ put1 ks k ↔ x ∈ ks ∨ x = k := by
  unfold put1
  split
  · rename_i h
    exact ⟨.inl, fun z => z.elim id fun e => e ▸ h⟩
  · simp
theorem fold_mem {x : K} : ∀ (xs acc : List K), x ∈ xs.foldl put1 acc ↔ x ∈ acc ∨ x ∈ xs
  | [], acc => by simp
  | y :: xs, acc => by
    rw [List.foldl_cons, fold_mem xs, put1_mem, List.mem_cons]
    exact ⟨fun z => z.elim (fun z => z.elim .inl fun z => .inr (.inl z)) fun z => .inr (.inr z), fun z => z.elim (fun z => .inl (.inl z)) fun z => z.elim (fun z => .inl (.inr z)) .inr⟩
theorem dd_mem {xs : List K} {x : K} : x ∈ dd xs ↔ x ∈ xs := by unfold dd; rw [fold_mem]; simp
theorem dd_take {xs : List K} {i : Nat} {k : K} (h : xs[i]? = some k) : dd (xs.take (i + 1)) = put1 (dd (xs.take i)) k := by
  unfold dd
  rw [List.take_add_one, h]
  simp
theorem eq_of_kf {knd : KeyKind P w K} {kf : Value → K} {e : Int × Value} (g : Ent knd kf e) (k : K) : knd.is k e.2 = true ↔ kf e.2 = k :=
  ⟨fun z => knd.inj _ _ _ g.is z, fun z => z ▸ g.is⟩
theorem elems {knd : KeyKind P w K} {kf : Value → K} {l : List (Int × Value)} (g : ∀ e ∈ l, Ent knd kf e) : ElemsOf knd l := fun e he => ⟨⟨_, (g e he).is, (g e he).h⟩, (g e he).sc⟩
theorem SetL.at {knd : KeyKind P w K} {kf : Value → K} {h h' : Heap} {a : Addr} {ks : List K} (R : SetL knd kf h a ks) (k : ∀ o, h.get? a = some o → h'.get? a = some o) : SetL knd kf h' a ks := by
  obtain ⟨o, es, ep, t, ho, r⟩ := R
  exact ⟨o, es, ep, t, k o ho, r⟩
variable {A : Around} {E : Value → Shared → Prop} {s : Shared} {knd : KeyKind P w K} {kf : Value → K} {a : Addr}
theorem tail_put {g : Bool → Sem Unit} (hg : ∀ (b : Bool) (s1 : Shared) (Q1 : Unit → Shared → Prop), Q1 () s1 → wpAny (model P w) A (g b) Q1 E s1)
    {o : Obj} {es : Array (Int × Value)} {ep : Nat} {t : SetTable} (ho : s.heap.get? a = some o) (hex : o.ExactSet) (hd : o.data = .set es ep t)
    {es1 : Array (Int × Value)} {t2 : SetTable} {ks : List K} (g1 : ∀ e ∈ es1.toList, Ent knd kf e) (pm1 : (es1.toList.map fun e => kf e.2).Perm ks) (nd : ks.Nodup)
    (hb1 : es1.size < scanBound) (hf2 : t2.fits es1.size = true) (hr : Ris t2.place.toList) (hl : w.params.followText "set-order" = true ∨ t2.led = true) {dum : Bool} {R : Option Bool → Shared → Prop}
    (hR : ∀ h', Heap.SameBut a s.heap h' → SetL knd kf h' a ks → R (some true) { s with heap := h' }) :
    wpAny (model P w) A (do
        storeSet a es1 t2
        if (!dum && t2.tooFull) = true then do
            g (relayAll t2 es1 (SetTable.grown es1.size)).2.2
            storeSet a (relayAll t2 es1 (SetTable.grown es1.size)).1 (relayAll t2 es1 (SetTable.grown es1.size)).2.1
            pure (some true)
          else pure (some true)) R E s := by
  have ho1 := store_at (es' := es1) (t' := t2) ho hd
  have sb1 := Heap.SameBut.update s.heap a (Obj.putSet es1 t2)
  refine wpAny_bind (wpAny_storeSet_of ho hd ?_ (fits_of_scanBound hb1))
  split
  · have pm := relayAll_perm t2 es1 (SetTable.grown es1.size)
    have hf3 := relayAll_fits t2 es1 (SetTable.grown es1.size)
    have hr3 := relayAll_ris t2 es1 (SetTable.grown es1.size)
    have hl3 := relayAll_led t2 es1 (SetTable.grown es1.size)
    generalize relayAll t2 es1 (SetTable.grown es1.size) = Z at pm hf3 hr3 hl3 ⊢
    obtain ⟨es2, t3, gv⟩ := Z
    dsimp only at pm hf3 hr3 hl3 ⊢
    have hsz : es2.size = es1.size := by rw [← Array.length_toList, pm.length_eq, Array.length_toList]
    refine wpAny_bind (hg _ _ _ (wpAny_bind (wpAny_storeSet_of ho1 rfl ?_ (fits_of_scanBound (by rw [hsz]; exact hb1)))))
    have ho2 := store_at (es' := es2) (t' := t3) ho1 rfl
    exact wpAny_pure (hR _ (sb1.trans (Heap.SameBut.update _ a _)) ⟨_, es2, _, t3, ho2, hex, rfl, fun e he => g1 e (pm.mem_iff.mp he), (pm.map _).trans pm1, nd, (by rw [hsz]; exact hb1), hf3, hr3, hl.imp id fun z => hl3.trans z⟩)
  · exact wpAny_pure (hR _ sb1 ⟨_, es1, _, t2, ho1, hex, rfl, g1, pm1, nd, hb1, hf2, hr, hl⟩)
theorem add_hashed {ks : List K} {x : Value} {Q : Bool → Shared → Prop} (hx : knd.is (kf x) x = true) (hsc : x.scannable = true) (R : SetL knd kf s.heap a ks) (room : ks.length + 1 < scanBound)
    (hQ : ∀ (b : Bool) h', Heap.SameBut a s.heap h' → SetL knd kf h' a (put1 ks (kf x)) → Q b { s with heap := h' }) :
    wpAny (model P w) A (setAddHashed a x (knd.hash (kf x))) Q E s := by
  obtain ⟨o, es, ep, t, ho, hex, hd, g, pm0, nd, hb, hf, hr, hl⟩ := R
  have hel : ElemsOf knd es.toList := elems g
  have memI : kf x ∈ ks ↔ ∃ e ∈ es.toList, knd.is (kf x) e.2 = true := by
    rw [← pm0.mem_iff, List.mem_map]
    exact ⟨fun ⟨e, he, q⟩ => ⟨e, he, (eq_of_kf (g e he) _).2 q⟩, fun ⟨e, he, q⟩ => ⟨e, he, (eq_of_kf (g e he) _).1 q⟩⟩
  unfold setAddHashed setAddHashedIn
  refine wpAny_holding (wpAny_bind (wpAny_setState_of ho hd hf ?_))
  dsimp only; rw [byScan_of hsc hb hel]
  simp only [↓reduceIte]
  unfold setAddByScan
  refine wpAny_bind (wpAny_bind (wpAny_rule (wpAny_bind (wpAny_setScan_of hx ho hd hf hel ?_))))
  cases hfi : List.findIdx? (fun e => knd.is (kf x) e.2) es.toList with
  | some j =>
    dsimp only
    obtain ⟨hj, pj, _⟩ := List.findIdx?_eq_some_iff_getElem.mp hfi
    have hk : kf x ∈ ks := memI.2 ⟨es.toList[j], List.getElem_mem hj, pj⟩
    refine wpAny_pure (wpAny_pure (hQ _ s.heap (Heap.SameBut.refl a s.heap) ?_))
    unfold put1
    rw [if_pos hk]
    exact ⟨o, es, ep, t, ho, hex, hd, g, pm0, nd, hb, hf, hr, hl⟩
  | none =>
    dsimp only
    have hk : kf x ∉ ks := fun z => by
      obtain ⟨e, he, q⟩ := memI.1 z
      have c := List.findIdx?_eq_none_iff.mp hfi e he
      rw [q] at c; cases c
    have hgw : ∀ (b : Bool) {s1 : Shared} {Q1 : Unit → Shared → Prop}, Q1 () s1 → wpAny (model P w) A (match b with | true => rule "set.scan.the-table-gave-way" | false => pure ()) Q1 E s1 := by
      intro b s1 Q1 q
      cases b <;> first | exact wpAny_pure q | exact wpAny_rule q
    have pm := layNew_perm t es (knd.hash (kf x)) x
    have hf1 := layNew_fits t es (knd.hash (kf x)) x
    have hr1 := layNew_ris t es (knd.hash (kf x)) x hr
    have hl1 := layNew_led t es (knd.hash (kf x)) x
    generalize layNew t es (knd.hash (kf x)) x = Z at pm hf1 hr1 hl1 ⊢
    obtain ⟨es1, t1, dum, gv⟩ := Z
    dsimp only at pm hf1 hr1 hl1 ⊢
    rw [Array.toList_push] at pm
    have g1 : ∀ e ∈ es1.toList, Ent knd kf e := fun e he => by
      rcases List.mem_append.mp (pm.mem_iff.mp he) with z | z
      · exact g e z
      · cases List.mem_singleton.mp z; exact ⟨hx, rfl, hsc⟩
    have pm1 : (es1.toList.map fun e => kf e.2).Perm (put1 ks (kf x)) := by
      unfold put1
      rw [if_neg hk]
      refine (pm.map _).trans ?_
      rw [List.map_append]
      exact List.Perm.append pm0 (List.Perm.refl _)
    have nd1 : (put1 ks (kf x)).Nodup := put1_nodup nd
    have hb1 : es1.size < scanBound := by
      have e1 := pm.length_eq
      have e2 := pm0.length_eq
      simp only [Array.length_toList, List.length_append, List.length_singleton, List.length_map] at e1 e2
      omega
    have hled : w.params.followText "set-order" = true ∨ t1.led = true := hl.imp id fun z => hl1.trans z
    refine wpAny_bind (hgw _ ?_)
    split
    · refine wpAny_bind ?_
      rw [hashByValue_scannable 8 hsc]
      refine wpAny_pure (tail_put ?_ ho hex hd g1 pm1 nd1 hb1 ?_ ?_ ?_ ?_)
      · intro b s1 Q1 q; cases b <;> first | exact wpAny_pure q | exact wpAny_rule q
      · first | (split <;> first | exact hf1 | exact SetTable.fits_plain_off hf1) | exact hf1
      · first | (split <;> exact hr1) | exact hr1
      · first | (split <;> exact hled) | exact hled
      · intro h' sb r; dsimp only; exact wpAny_pure (hQ _ h' sb r)
    · refine wpAny_bind (wpAny_pure ?_)
      simp only [↓reduceIte]
      refine tail_put ?_ ho hex hd g1 pm1 nd1 hb1 hf1 hr1 hled ?_
      · intro b s1 Q1 q; cases b <;> first | exact wpAny_pure q | exact wpAny_rule q
      · intro h' sb r; dsimp only; exact wpAny_pure (hQ _ h' sb r)
end
end Ks

set_option Elab.async false
set_option linter.all false
set_option maxRecDepth 100000
set_option maxHeartbeats 4000000
/-! # set(xs) of a list, of a tuple -/
namespace Ks
open PySem PySem.Spec PyProof.Rows L2
section
variable {P : Program} {w : World} {K : Type} [DecidableEq K] {A : Around} {E : Value → Shared → Prop} {s : Shared} {knd : KeyKind P w K} {kf : Value → K}
abbrev frs (w : World) : Obj := ⟨.type "set", none, .set #[] 0 (.fresh 0 0 (!w.params.followText "set-order")), #[]⟩
/-- what stands in the list -/
def KeysAt (knd : KeyKind P w K) (kf : Value → K) (xs : List K) (items : Array Value) : Prop := (items.size = xs.length ∧ xs.length < 4000) ∧ ∀ (i : Nat) (v : Value), items[i]? = some v → xs[i]? = some (kf v) ∧ knd.is (kf v) v = true ∧ v.scannable = true
theorem set_loop {I : Addr} {fp wr : List Addr} {G : Array GenState → Array GenState → Prop} {n : Nat} {Pv : Nat → Value → Prop} {St : Nat → Shared → Prop} {R : Result → Shared → Prop}
    (W : WalksS P w A.in1 I fp wr G n Pv St) (S : Addr) (hSf : S ∉ fp) (xs : List K) (hn : n = xs.length) (hb : xs.length < 4000) (hval : ∀ i v, Pv i v → xs[i]? = some (kf v) ∧ knd.is (kf v) v = true ∧ v.scannable = true) :
    ∀ (k i : Nat) (s : Shared), n - i = k → i ≤ n → St i s → SetL knd kf s.heap S (dd (xs.take i)) →
      (∀ s', Moved (S :: wr) G s s' → SetL knd kf s'.heap S (dd xs) → R (.ok (.ret .none)) s') →
      codeAny (model P w) A (.builtin "set.update.loop" ⟨[.ref S, .ref I], []⟩) R s := by
  have hSw : S ∉ wr := fun z => hSf (W.sub _ z)
  have hsub : ∀ b ∈ wr, b ∈ S :: wr := fun b z => List.mem_cons_of_mem _ z
  intro k
  induction k with
  | zero =>
    intro i s hk hi hst hS hR
    have hin : i = n := by omega
    subst hin
    refine codeAny_builtin F.entry_set_update_loop ?_
    rw [Around.under_plainId F.plain_set_update_loop _]
    show wpAny _ A.in1 (pyNext (.ref I) >>= _) _ _ s
    refine wpAny_bind (W.done s _ _ hst fun s' hm => ?_)
    rw [hn, List.take_length] at hS
    show wpAny _ A.in1 (ret Value.none) _ _ s'
    exact wpAny_pure (hR s' (hm.mono hsub) (hS.at fun o e => hm.heap S o hSw e))
  | succ k ih =>
    intro i s hk hi hst hS hR
    have hlt : i < n := by omega
    refine codeAny_builtin F.entry_set_update_loop ?_
    rw [Around.under_plainId F.plain_set_update_loop _]
    show wpAny _ A.in1 (pyNext (.ref I) >>= _) _ _ s
    refine wpAny_bind (W.item i s _ _ hlt hst fun v s' hP hst' hm => ?_)
    obtain ⟨hx, hv, hsc⟩ := hval i v hP
    have hS' : SetL knd kf s'.heap S (dd (xs.take i)) := hS.at fun o e => hm.heap S o hSw e
    show wpAny _ A.in1 (holding [v] (setAdd S v) >>= _) _ _ s'
    refine wpAny_bind (wpAny_holding ?_)
    unfold setAdd
    refine wpAny_holding (wpAny_bind (knd.pyHash hv ?_))
    have hl : (dd (xs.take i)).length + 1 < scanBound := by
      have := dd_len (xs.take i)
      rw [List.length_take] at this
      unfold scanBound; omega
    refine add_hashed (s := { s' with toks := s'.toks + 1 }) hv hsc hS' hl fun b h' hsb hS2 => ?_
    rw [← dd_take hx] at hS2
    refine wpAny_pure ⟨plainId_quiet F.plain_set_update_loop _, ih (i + 1) _ (by omega) hlt (W.frame _ s' _ _ hst' (Nat.le_succ _) fun b hb o e => ?_) hS2 fun s2 hm2 hS3 => ?_⟩
    · rw [hsb.2 b (fun z => hSf (z ▸ hb))]; exact e
    · refine hR s2 (Moved.trans W.gtrans ((hm.mono hsub).then_heap (Nat.le_succ _) fun b o hb e => ?_) hm2) hS3
      rw [hsb.2 b (fun z => hb (by rw [z]; simp))]; exact e

set_option maxHeartbeats 6400000 in
theorem set_of_list {l : Addr} {items : Array Value} {xs : List K} {Q : Value → Shared → Prop} (hh : A.handled = none) (hl : s.heap.IsList l items) (hi : KeysAt knd kf xs items)
    (h : ∀ (h' : Heap) (tk : Nat), SetL knd kf h' s.heap.objs.size (dd xs) → (∀ b o, s.heap.get? b = some o → h'.get? b = some o) → Q (.ref s.heap.objs.size) { s with heap := h', toks := tk }) :
    wpAny (model P w) A (call (.type "set") [.ref l]) Q E s := by
  generalize hF : s.heap.push (frs w) = hF0
  obtain ⟨c0, tl0, hmro⟩ := F.called_set.mro
  have ⟨hmade, hsub⟩ := And.intro F.called_set.made F.called_set.sub
  refine wpAny_call (codeAny_of_tree ?_)
  show wpAny _ _ (callAny (.type "set") _) _ _ _
  refine wpAny_pure ⟨Code.quiet_builtin _ (by decide +kernel), codeAny_builtin F.entry_type_call ?_⟩
  rw [Around.under_plain (weight_type_call_type "set" [.ref l] []) rfl]
  have ⟨h1, h2⟩ := And.intro F.called_set.notType F.called_set.canCreate
  have hct := F.typeCall_set_1 (.ref l)
  repeat (any_goals (first | assumption | (first
          | with_reducible (first | refine wpAny_pure ?_ | refine wpAny_bind ?_ | refine wpAny_holding ?_ | refine wpAny_rule ?_ | refine wpAny_point ?_ | refine wpAny_of_eq (by assumption) ?_ | refine wpAny_typeOf (by assumption) ?_ | refine wpAny_specialOf_val (by assumption) (by assumption) ?_ | refine wpAny_specialOf (by assumption) (by assumption) ?_ | refine wpAny_isInstance_val (by assumption) (by assumption) ?_ | refine wpAny_isInstance (by assumption) (by assumption) ?_ | refine wpAny_call ?_ | refine wpAny_runValue ?_ | refine wpAny_run ?_)
          | ((with_reducible apply wpAny_load'); focus (heap_get; done))
          | ((with_reducible apply wpAny_loadPart'); focus (heap_get; done))
          | ((with_reducible apply wpAny_ite_false); focus (first | rfl | assumption | simp only [h2]; done))
          | ((with_reducible apply wpAny_ite_true); focus (first | rfl | assumption; done))
          | wp_delta
          | with_reducible_and_instances (first | refine wpAny_pure ?_ | refine wpAny_bind ?_))))

  refine codeAny_mono (code_set_led1 (.ref l) (E := E) (Q₁ := fun obj s1 => obj = .ref s.heap.objs.size ∧ s1 = { s with heap := hF0 }) ⟨rfl, by rw [hF]⟩) fun r s1 hr => ?_
  cases r with
  | error e => exact hr
  | ok fl =>
    cases fl with
    | ret obj =>
      obtain ⟨rfl, rfl⟩ := hr
      subst hF
      have hS : (s.heap.push (frs w)).get? s.heap.objs.size = some (frs w) := Heap.get?_push_size _ rfl
      have hT : Shared.TypeIs { s with heap := s.heap.push (frs w) } (.ref s.heap.objs.size) "set" := ⟨_, hS, rfl⟩
      have ⟨hli, hbi⟩ := And.intro F.called_set.init.lookup (F.called_set.init.bind (.ref s.heap.objs.size))
      repeat (any_goals (first | assumption | (first
          | with_reducible (first | refine wpAny_pure ?_ | refine wpAny_bind ?_ | refine wpAny_holding ?_ | refine wpAny_rule ?_ | refine wpAny_point ?_ | refine wpAny_of_eq (by assumption) ?_ | refine wpAny_typeOf (by assumption) ?_ | refine wpAny_specialOf_val (by assumption) (by assumption) ?_ | refine wpAny_specialOf (by assumption) (by assumption) ?_ | refine wpAny_isInstance_val (by assumption) (by assumption) ?_ | refine wpAny_isInstance (by assumption) (by assumption) ?_ | refine wpAny_call ?_ | refine wpAny_runValue ?_ | refine wpAny_run ?_)
          | ((with_reducible apply wpAny_load'); focus (heap_get; done))
          | ((with_reducible apply wpAny_loadPart'); focus (heap_get; done))
          | ((with_reducible apply wpAny_ite_false); focus (first | rfl | assumption | simp only [h2]; done))
          | ((with_reducible apply wpAny_ite_true); focus (first | rfl | assumption; done))
          | wp_delta
          | with_reducible_and_instances (first | refine wpAny_pure ?_ | refine wpAny_bind ?_))))

      refine codeAny_mono (codeAny_call_builtin (R := wants (fun r s2 => r = .none ∧ ∃ h' tk, s2 = { s with heap := h', toks := tk } ∧ SetL knd kf h' s.heap.objs.size (dd xs) ∧ (∀ b o, s.heap.get? b = some o → h'.get? b = some o)) E) F.called_set.init.plain F.entry_set_init (check_set_init_1 hT ?_)) fun r2 s2 hr2 => ?_
      · obtain ⟨ol, hol, hcl, nl, hdl⟩ := hl
        obtain ⟨ocls, odict, odata, oslots⟩ := ol
        simp only at hcl hdl; subst hcl hdl
        have hol1 : (s.heap.push (frs w)).get? l = some { cls := .type "list", dict := odict, data := .seq items nl, slots := oslots } := Heap.get?_push_of_some _ hol
        have ⟨hsls, hslf⟩ := And.intro F.sub_list_set F.sub_list_frozenset
        have hnd : (Value.type "list" == Value.type "dict") = false := by decide
        have hl1 : (s.heap.push (frs w)).IsList l items := ⟨_, hol1, rfl, nl, rfl⟩
        clear h1 h2 hct hmade hsub hmro hli hbi
        unfold Builtin.«set.__init__» noKeywords Builtin.Frozenset.updateFrom
        generalize hPI : pyIter = PI; repeat (first
          | with_reducible (first | refine wpAny_pure ?_ | refine wpAny_bind ?_ | refine wpAny_holding ?_ | refine wpAny_rule ?_ | refine wpAny_point ?_ | refine wpAny_of_eq (by assumption) ?_ | refine wpAny_typeOf (by assumption) ?_ | refine wpAny_specialOf_val (by assumption) (by assumption) ?_ | refine wpAny_specialOf (by assumption) (by assumption) ?_ | refine wpAny_isInstance_val (by assumption) (by assumption) ?_ | refine wpAny_isInstance (by assumption) (by assumption) ?_ | refine wpAny_call ?_ | refine wpAny_runValue ?_ | refine wpAny_run ?_)
          | ((with_reducible apply wpAny_load'); focus (heap_get; done))
          | ((with_reducible apply wpAny_loadPart'); focus (heap_get; done))
          | ((with_reducible apply wpAny_ite_false); focus (first | rfl | assumption | simp only [h2]; done))
          | ((with_reducible apply wpAny_ite_true); focus (first | rfl | assumption; done))
          | wp_delta
          | with_reducible_and_instances (first | refine wpAny_pure ?_ | refine wpAny_bind ?_))
        subst hPI
        refine wpAny_pyIter_list hl1 (wpAny_bind (wpAny_runValue ?_))
        have hz : (s.heap.push (frs w)).objs.size = s.heap.objs.size + 1 := Heap.size_push ..
        have hlS : l < s.heap.objs.size := Heap.lt_size hol
        have hh3 : A.in1.in1.in1.handled = none := by simp [hh]
        have hneI : l ≠ (s.heap.push (frs w)).objs.size := by rw [hz]; exact Nat.ne_of_lt (Nat.lt_succ_of_lt hlS)
        refine set_loop ((Walks.list hh3 _ l hneI items).toS) s.heap.objs.size (by rw [hz]; simp only [List.mem_cons, List.not_mem_nil, or_false]; exact not_or.mpr ⟨Nat.ne_of_lt (Nat.lt_succ_self _), Nat.ne_of_gt hlS⟩) xs hi.1.1 hi.1.2 hi.2 (items.size - 0) 0 _ (by omega) (Nat.zero_le _) ⟨⟨_, Heap.get?_push_size _ rfl, rfl, rfl⟩, (hl1.push _)⟩ ?hS0 ?hR
        case hS0 =>
          refine ⟨_, #[], 0, _, Heap.get?_push_of_some _ hS, ⟨rfl, rfl, rfl⟩, rfl, (fun e he => by simp at he), (by simp [dd]), (by simp [dd]), (by decide), (by rfl), List.Pairwise.nil, ?_⟩
          show _ ∨ (!w.params.followText "set-order") = true
          cases w.params.followText "set-order"
          · exact .inr rfl
          · exact .inl rfl
        case hR =>
          intro s3 hm hS3
          obtain ⟨h3, g3, d3, tk3, os3⟩ := s3
          cases (hm.gens : g3 = s.gens); cases (hm.drawn : d3 = s.drawn); cases (hm.os : os3 = s.os)
          show wpAny _ _ _ _ _ _
          refine wpAny_pure ?_
          show wpAny _ _ (ret Value.none) _ _ _
          refine wpAny_pure ⟨rfl, h3, tk3, rfl, hS3, fun b o e => ?_⟩
          have hlt := Heap.lt_size e
          exact hm.heap b o (by rw [hz]; simp only [List.mem_cons, List.not_mem_nil, or_false]; exact not_or.mpr ⟨Nat.ne_of_lt hlt, Nat.ne_of_lt (Nat.lt_succ_of_lt hlt)⟩) (Heap.get?_push_of_some _ (Heap.get?_push_of_some _ e))
      · cases r2 with
        | error e => exact hr2
        | ok fl2 =>
          cases fl2 with
          | ret r =>
            obtain ⟨rfl, h', tk, rfl, hS', hk'⟩ := hr2
            repeat (any_goals (first | assumption | (first
          | with_reducible (first | refine wpAny_pure ?_ | refine wpAny_bind ?_ | refine wpAny_holding ?_ | refine wpAny_rule ?_ | refine wpAny_point ?_ | refine wpAny_of_eq (by assumption) ?_ | refine wpAny_typeOf (by assumption) ?_ | refine wpAny_specialOf_val (by assumption) (by assumption) ?_ | refine wpAny_specialOf (by assumption) (by assumption) ?_ | refine wpAny_isInstance_val (by assumption) (by assumption) ?_ | refine wpAny_isInstance (by assumption) (by assumption) ?_ | refine wpAny_call ?_ | refine wpAny_runValue ?_ | refine wpAny_run ?_)
          | ((with_reducible apply wpAny_load'); focus (heap_get; done))
          | ((with_reducible apply wpAny_loadPart'); focus (heap_get; done))
          | ((with_reducible apply wpAny_ite_false); focus (first | rfl | assumption | simp only [h2]; done))
          | ((with_reducible apply wpAny_ite_true); focus (first | rfl | assumption; done))
          | wp_delta
          | with_reducible_and_instances (first | refine wpAny_pure ?_ | refine wpAny_bind ?_))))
            exact h _ _ hS' hk'
          | _ => exact hr2.elim
    | _ => exact hr.elim

set_option maxHeartbeats 6400000 in
theorem set_of_tuple {l : Addr} {items : Array Value} {xs : List K} {Q : Value → Shared → Prop} (hh : A.handled = none) (hl : s.heap.IsTuple l items) (hi : KeysAt knd kf xs items)
    (h : ∀ (h' : Heap) (tk : Nat), SetL knd kf h' s.heap.objs.size (dd xs) → (∀ b o, s.heap.get? b = some o → h'.get? b = some o) → Q (.ref s.heap.objs.size) { s with heap := h', toks := tk }) :
    wpAny (model P w) A (call (.type "set") [.ref l]) Q E s := by
  generalize hF : s.heap.push (frs w) = hF0
  obtain ⟨c0, tl0, hmro⟩ := F.called_set.mro
  have ⟨hmade, hsub⟩ := And.intro F.called_set.made F.called_set.sub
  refine wpAny_call (codeAny_of_tree ?_)
  show wpAny _ _ (callAny (.type "set") _) _ _ _
  refine wpAny_pure ⟨Code.quiet_builtin _ (by decide +kernel), codeAny_builtin F.entry_type_call ?_⟩
  rw [Around.under_plain (weight_type_call_type "set" [.ref l] []) rfl]
  have ⟨h1, h2⟩ := And.intro F.called_set.notType F.called_set.canCreate
  have hct := F.typeCall_set_1 (.ref l)
  repeat (any_goals (first | assumption | (first
          | with_reducible (first | refine wpAny_pure ?_ | refine wpAny_bind ?_ | refine wpAny_holding ?_ | refine wpAny_rule ?_ | refine wpAny_point ?_ | refine wpAny_of_eq (by assumption) ?_ | refine wpAny_typeOf (by assumption) ?_ | refine wpAny_specialOf_val (by assumption) (by assumption) ?_ | refine wpAny_specialOf (by assumption) (by assumption) ?_ | refine wpAny_isInstance_val (by assumption) (by assumption) ?_ | refine wpAny_isInstance (by assumption) (by assumption) ?_ | refine wpAny_call ?_ | refine wpAny_runValue ?_ | refine wpAny_run ?_)
          | ((with_reducible apply wpAny_load'); focus (heap_get; done))
          | ((with_reducible apply wpAny_loadPart'); focus (heap_get; done))
          | ((with_reducible apply wpAny_ite_false); focus (first | rfl | assumption | simp only [h2]; done))
          | ((with_reducible apply wpAny_ite_true); focus (first | rfl | assumption; done))
          | wp_delta
          | with_reducible_and_instances (first | refine wpAny_pure ?_ | refine wpAny_bind ?_))))

  refine codeAny_mono (code_set_led1 (.ref l) (E := E) (Q₁ := fun obj s1 => obj = .ref s.heap.objs.size ∧ s1 = { s with heap := hF0 }) ⟨rfl, by rw [hF]⟩) fun r s1 hr => ?_
  cases r with
  | error e => exact hr
  | ok fl =>
    cases fl with
    | ret obj =>
      obtain ⟨rfl, rfl⟩ := hr
      subst hF
      have hS : (s.heap.push (frs w)).get? s.heap.objs.size = some (frs w) := Heap.get?_push_size _ rfl
      have hT : Shared.TypeIs { s with heap := s.heap.push (frs w) } (.ref s.heap.objs.size) "set" := ⟨_, hS, rfl⟩
      have ⟨hli, hbi⟩ := And.intro F.called_set.init.lookup (F.called_set.init.bind (.ref s.heap.objs.size))
      repeat (any_goals (first | assumption | (first
          | with_reducible (first | refine wpAny_pure ?_ | refine wpAny_bind ?_ | refine wpAny_holding ?_ | refine wpAny_rule ?_ | refine wpAny_point ?_ | refine wpAny_of_eq (by assumption) ?_ | refine wpAny_typeOf (by assumption) ?_ | refine wpAny_specialOf_val (by assumption) (by assumption) ?_ | refine wpAny_specialOf (by assumption) (by assumption) ?_ | refine wpAny_isInstance_val (by assumption) (by assumption) ?_ | refine wpAny_isInstance (by assumption) (by assumption) ?_ | refine wpAny_call ?_ | refine wpAny_runValue ?_ | refine wpAny_run ?_)
          | ((with_reducible apply wpAny_load'); focus (heap_get; done))
          | ((with_reducible apply wpAny_loadPart'); focus (heap_get; done))
          | ((with_reducible apply wpAny_ite_false); focus (first | rfl | assumption | simp only [h2]; done))
          | ((with_reducible apply wpAny_ite_true); focus (first | rfl | assumption; done))
          | wp_delta
          | with_reducible_and_instances (first | refine wpAny_pure ?_ | refine wpAny_bind ?_))))

      refine codeAny_mono (codeAny_call_builtin (R := wants (fun r s2 => r = .none ∧ ∃ h' tk, s2 = { s with heap := h', toks := tk } ∧ SetL knd kf h' s.heap.objs.size (dd xs) ∧ (∀ b o, s.heap.get? b = some o → h'.get? b = some o)) E) F.called_set.init.plain F.entry_set_init (check_set_init_1 hT ?_)) fun r2 s2 hr2 => ?_
      · obtain ⟨ol, hol, hcl, nl, hdl⟩ := hl
        obtain ⟨ocls, odict, odata, oslots⟩ := ol
        simp only at hcl hdl; subst hcl hdl
        have hol1 : (s.heap.push (frs w)).get? l = some { cls := .type "tuple", dict := odict, data := .seq items nl, slots := oslots } := Heap.get?_push_of_some _ hol
        have ⟨hsls, hslf⟩ := And.intro F.sub_tuple_set F.sub_tuple_frozenset
        have hnd : (Value.type "tuple" == Value.type "dict") = false := by decide
        have hl1 : (s.heap.push (frs w)).IsTuple l items := ⟨_, hol1, rfl, nl, rfl⟩
        clear h1 h2 hct hmade hsub hmro hli hbi
        unfold Builtin.«set.__init__» noKeywords Builtin.Frozenset.updateFrom
        generalize hPI : pyIter = PI; repeat (first
          | with_reducible (first | refine wpAny_pure ?_ | refine wpAny_bind ?_ | refine wpAny_holding ?_ | refine wpAny_rule ?_ | refine wpAny_point ?_ | refine wpAny_of_eq (by assumption) ?_ | refine wpAny_typeOf (by assumption) ?_ | refine wpAny_specialOf_val (by assumption) (by assumption) ?_ | refine wpAny_specialOf (by assumption) (by assumption) ?_ | refine wpAny_isInstance_val (by assumption) (by assumption) ?_ | refine wpAny_isInstance (by assumption) (by assumption) ?_ | refine wpAny_call ?_ | refine wpAny_runValue ?_ | refine wpAny_run ?_)
          | ((with_reducible apply wpAny_load'); focus (heap_get; done))
          | ((with_reducible apply wpAny_loadPart'); focus (heap_get; done))
          | ((with_reducible apply wpAny_ite_false); focus (first | rfl | assumption | simp only [h2]; done))
          | ((with_reducible apply wpAny_ite_true); focus (first | rfl | assumption; done))
          | wp_delta
          | with_reducible_and_instances (first | refine wpAny_pure ?_ | refine wpAny_bind ?_))
        subst hPI
        refine wpAny_pyIter_tuple hl1 (wpAny_bind (wpAny_runValue ?_))
        have hz : (s.heap.push (frs w)).objs.size = s.heap.objs.size + 1 := Heap.size_push ..
        have hlS : l < s.heap.objs.size := Heap.lt_size hol
        have hh3 : A.in1.in1.in1.handled = none := by simp [hh]
        have hneI : l ≠ (s.heap.push (frs w)).objs.size := by rw [hz]; exact Nat.ne_of_lt (Nat.lt_succ_of_lt hlS)
        refine set_loop ((Walks.tuple hh3 _ l hneI items).toS) s.heap.objs.size (by rw [hz]; simp only [List.mem_cons, List.not_mem_nil, or_false]; exact not_or.mpr ⟨Nat.ne_of_lt (Nat.lt_succ_self _), Nat.ne_of_gt hlS⟩) xs hi.1.1 hi.1.2 hi.2 (items.size - 0) 0 _ (by omega) (Nat.zero_le _) ⟨⟨_, Heap.get?_push_size _ rfl, rfl, rfl⟩, (hl1.push _)⟩ ?hS0 ?hR
        case hS0 =>
          refine ⟨_, #[], 0, _, Heap.get?_push_of_some _ hS, ⟨rfl, rfl, rfl⟩, rfl, (fun e he => by simp at he), (by simp [dd]), (by simp [dd]), (by decide), (by rfl), List.Pairwise.nil, ?_⟩
          show _ ∨ (!w.params.followText "set-order") = true
          cases w.params.followText "set-order"
          · exact .inr rfl
          · exact .inl rfl
        case hR =>
          intro s3 hm hS3
          obtain ⟨h3, g3, d3, tk3, os3⟩ := s3
          cases (hm.gens : g3 = s.gens); cases (hm.drawn : d3 = s.drawn); cases (hm.os : os3 = s.os)
          show wpAny _ _ _ _ _ _
          refine wpAny_pure ?_
          show wpAny _ _ (ret Value.none) _ _ _
          refine wpAny_pure ⟨rfl, h3, tk3, rfl, hS3, fun b o e => ?_⟩
          have hlt := Heap.lt_size e
          exact hm.heap b o (by rw [hz]; simp only [List.mem_cons, List.not_mem_nil, or_false]; exact not_or.mpr ⟨Nat.ne_of_lt hlt, Nat.ne_of_lt (Nat.lt_succ_of_lt hlt)⟩) (Heap.get?_push_of_some _ (Heap.get?_push_of_some _ e))
      · cases r2 with
        | error e => exact hr2
        | ok fl2 =>
          cases fl2 with
          | ret r =>
            obtain ⟨rfl, h', tk, rfl, hS', hk'⟩ := hr2
            repeat (any_goals (first | assumption | (first
          | with_reducible (first | refine wpAny_pure ?_ | refine wpAny_bind ?_ | refine wpAny_holding ?_ | refine wpAny_rule ?_ | refine wpAny_point ?_ | refine wpAny_of_eq (by assumption) ?_ | refine wpAny_typeOf (by assumption) ?_ | refine wpAny_specialOf_val (by assumption) (by assumption) ?_ | refine wpAny_specialOf (by assumption) (by assumption) ?_ | refine wpAny_isInstance_val (by assumption) (by assumption) ?_ | refine wpAny_isInstance (by assumption) (by assumption) ?_ | refine wpAny_call ?_ | refine wpAny_runValue ?_ | refine wpAny_run ?_)
          | ((with_reducible apply wpAny_load'); focus (heap_get; done))
          | ((with_reducible apply wpAny_loadPart'); focus (heap_get; done))
          | ((with_reducible apply wpAny_ite_false); focus (first | rfl | assumption | simp only [h2]; done))
          | ((with_reducible apply wpAny_ite_true); focus (first | rfl | assumption; done))
          | wp_delta
          | with_reducible_and_instances (first | refine wpAny_pure ?_ | refine wpAny_bind ?_))))
            exact h _ _ hS' hk'
          | _ => exact hr2.elim
    | _ => exact hr.elim
end
end Ks

set_option Elab.async false
set_option linter.all false
set_option maxRecDepth 100000
set_option maxHeartbeats 4000000
/-! # sorted(set(xs)), len(set(xs)), sorted(texts) -/
namespace Ks
open PySem PySem.Spec PyProof.Rows L2
/-! ### texts in order -/
def ltS (x y : Str) : Bool := decide (x.cps.toList < y.cps.toList)
def ltSv (v u : Value) : Bool := ltS (strOf v) (strOf u)
theorem ltS_tot {x y : Str} (h1 : ltS x y = false) (h2 : ltS y x = false) : x = y := by
  have a := of_decide_eq_false h1
  have b := of_decide_eq_false h2
  have e := List.le_antisymm (List.not_lt.mp b) (List.not_lt.mp a)
  obtain ⟨⟨x⟩⟩ := x; obtain ⟨⟨y⟩⟩ := y
  simp only at e; subst e; rfl
theorem ltS_irr (x : Str) : ltS x x = false := decide_eq_false (List.lt_irrefl _)
theorem ltS_tr {x y z : Str} (h1 : ltS x y = true) (h2 : ltS y z = true) : ltS x z = true := decide_eq_true (List.lt_trans (of_decide_eq_true h1) (of_decide_eq_true h2))
theorem ltS_as {x y : Str} (h : ltS x y = true) : ltS y x = false := by
  cases e : ltS y x with
  | false => rfl
  | true => have := ltS_tr h e; rw [ltS_irr] at this; cases this
theorem ltS_nt {x y z : Str} (h1 : ltS y x = false) (h2 : ltS z y = false) : ltS z x = false := by
  have a := List.not_lt.mp (of_decide_eq_false h1)
  have b := List.not_lt.mp (of_decide_eq_false h2)
  exact decide_eq_false (List.not_lt.mpr (List.le_trans a b))
theorem swoS : SrtO.Swo ltSv := ⟨fun x y h => ltS_as h, fun x y z h1 h2 => ltS_nt h1 h2⟩
section
variable {P : Program} {w : World} {A : Around} {E : Value → Shared → Prop} {s : Shared}
theorem cmpS {vs : List Value} {xs : List Str} (hI : StrsAre vs xs) : SrtO.Cmp P w A s oneType' (fun p => p.1 ∈ vs) (SrtO.lt2 ltSv) := by
  intro p q hm hm'
  obtain ⟨a, t, e⟩ := hI.all _ hm
  obtain ⟨b, u, e'⟩ := hI.all _ hm'
  show wpAny (model P w) A (keyLt' oneType' p.1 q.1) (fun r s' => s' = s ∧ r = ltSv p.1 q.1) (fun _ _ => False) s
  rw [e, e', keyLt'_oneType]
  exact oneLt_str ⟨rfl, rfl⟩
theorem sortableS {a : Addr} {vs : List Value} {xs : List Str} (hI : StrsAre vs xs) (h2 : 2 ≤ vs.length) : SrtO.SortableO P w A s a vs ltSv := by
  intro h' _
  refine ⟨oneType', fun Q E hq => ?_, cmpS hI⟩
  match vs, hI, h2 with
  | v1 :: v2 :: rest, hI, _ => rw [keyKind_strs hI]; exact wpAny_pure hq
  | [], _, h => exact absurd h (by decide)
  | [v], _, h => exact absurd h (by simp)
end
/-! ### a list in order, by insertion -/
section
variable {α : Type} (lt : α → α → Bool)
def ins1 (x : α) : List α → List α
  | [] => [x]
  | y :: ys => if lt y x = true then y :: ins1 x ys else x :: y :: ys
def isort : List α → List α
  | [] => []
  | x :: xs => ins1 lt x (isort xs)
variable {lt}
theorem ins1_perm (x : α) : ∀ l, (ins1 lt x l).Perm (x :: l)
  | [] => List.Perm.refl _
  | y :: ys => by
    unfold ins1
    split
    · exact ((ins1_perm x ys).cons y).trans (List.Perm.swap x y ys)
    · exact List.Perm.refl _
theorem isort_perm : ∀ l : List α, (isort lt l).Perm l
  | [] => List.Perm.refl _
  | x :: xs => (ins1_perm x _).trans ((isort_perm xs).cons x)
structure Ord (lt : α → α → Bool) : Prop where
  tot : ∀ x y, lt x y = false → lt y x = false → x = y
  irr : ∀ x, lt x x = false
  tr : ∀ x y z, lt x y = true → lt y z = true → lt x z = true
theorem Ord.as (O : Ord lt) {x y : α} (h : lt x y = true) : lt y x = false := by
  cases e : lt y x with
  | false => rfl
  | true => have := O.tr _ _ _ h e; rw [O.irr] at this; cases this
theorem ins1_srt (O : Ord lt) (x : α) : ∀ l : List α, l.Pairwise (fun a b => lt b a = false) → (ins1 lt x l).Pairwise (fun a b => lt b a = false)
  | [], _ => List.pairwise_singleton _ _
  | y :: ys, h => by
    obtain ⟨h1, h2⟩ := List.pairwise_cons.mp h
    unfold ins1
    split
    · rename_i hl
      refine List.pairwise_cons.mpr ⟨fun z hz => ?_, ins1_srt O x ys h2⟩
      rcases List.mem_cons.mp ((ins1_perm x ys).mem_iff.mp hz) with e | e
      · subst e; exact O.as hl
      · exact h1 z e
    · rename_i hl
      have hl : lt y x = false := by simpa using hl
      refine List.pairwise_cons.mpr ⟨fun z hz => ?_, h⟩
      rcases List.mem_cons.mp hz with e | e
      · subst e; exact hl
      · cases e2 : lt z x with
        | false => rfl
        | true =>
          have hz := h1 z e
          cases e3 : lt x y with
          | true => rw [O.tr _ _ _ e2 e3] at hz; cases hz
          | false => have := O.tot _ _ hl e3; subst this; rw [e2] at hz; cases hz
theorem isort_srt (O : Ord lt) : ∀ l : List α, (isort lt l).Pairwise (fun a b => lt b a = false)
  | [] => List.Pairwise.nil
  | x :: xs => ins1_srt O x _ (isort_srt O xs)
theorem srt_uniq (O : Ord lt) : ∀ {a b : List α}, a.Perm b → a.Pairwise (fun x y => lt y x = false) → b.Pairwise (fun x y => lt y x = false) → a = b
  | [], b, p, _, _ => (List.Perm.nil_eq p)
  | x :: a, [], p, _, _ => absurd p.length_eq (by simp)
  | x :: a, y :: b, p, h1, h2 => by
    obtain ⟨p1, p2⟩ := List.pairwise_cons.mp h1
    obtain ⟨q1, q2⟩ := List.pairwise_cons.mp h2
    have e : x = y := by
      rcases List.mem_cons.mp (p.mem_iff.mp (List.mem_cons_self (a := x) (l := a))) with z | z
      · exact z
      · rcases List.mem_cons.mp (p.mem_iff.mpr (List.mem_cons_self (a := y) (l := b))) with z2 | z2
        · exact z2.symm
        · exact O.tot _ _ (q1 x z) (p1 y z2)
    subst e
    rw [srt_uniq O p.cons_inv p2 q2]
theorem isort_of (O : Ord lt) {a b : List α} (p : a.Perm b) (h : a.Pairwise fun x y => lt y x = false) : a = isort lt b := srt_uniq O (p.trans (isort_perm b).symm) h (isort_srt O b)
end
def ltI (x y : Int) : Bool := decide (x < y)
theorem ordI : Ord ltI := ⟨fun x y h1 h2 => by have a := of_decide_eq_false h1; have b := of_decide_eq_false h2; omega, fun x => decide_eq_false (by omega), fun x y z h1 h2 => decide_eq_true (by have a := of_decide_eq_true h1; have b := of_decide_eq_true h2; omega)⟩
theorem ordS : Ord ltS := ⟨fun _ _ => ltS_tot, ltS_irr, fun _ _ _ => ltS_tr⟩
/-! ### sorted of a set -/
section
variable {P : Program} {w : World} {A : Around} {E : Value → Shared → Prop} {s : Shared} {K : Type} [DecidableEq K] {knd : KeyKind P w K} {kf : Value → K} {a : Addr}
theorem sorted_setL {ks : List K} {lt : K → K → Bool} {Q : Value → Shared → Prop} (O : SrtO.Swo fun v u => lt (kf v) (kf u)) (R : SetL knd kf s.heap a ks) (hh : A.handled = none)
    (hS : ∀ (s' : Shared) (b : Addr) (A' : Around) (vs : List Value), (∀ v ∈ vs, knd.is (kf v) v = true) → 2 ≤ vs.length → SrtO.SortableO P w A' s' b vs fun v u => lt (kf v) (kf u))
    (hQ : ∀ s' p (out : List Value) (c : Nat), (∀ b o, s.heap.get? b = some o → s'.heap.get? b = some o) → s'.gens = s.gens → s'.os = s.os → s.heap.objs.size ≤ p → s'.heap.get? p = some (seqObj "list" out.toArray c) →
      (∀ v ∈ out, knd.is (kf v) v = true) → (out.map kf).Perm ks → (out.map kf).Pairwise (fun x y => lt y x = false) → Q (.ref p) s') :
    wpAny (model P w) A (call (.builtin "sorted") [.ref a]) Q E s := by
  obtain ⟨o, es, ep, t, ho, hex, hd, g, pm0, nd, hb, hf, hr, hl⟩ := R
  refine Calls.call_function_entry kind_sorted plain_sorted entry_sorted (args_sorted1 _) ?_
  unfold Builtin.«sorted»
  refine wpAny_bind (m := checkCount "sorted" 1 1 _) (wpAny_pure (wpAny_bind (collect_set (A := A.in1) hh ⟨o, ho, hex.1, hd⟩ hf hb hr hl fun s1 vs k1 hz g1 o1 pm => ?_)))
  have hvl : vs.length ≤ sizeLine := by
    rw [pm.length_eq, List.length_map, Array.length_toList]
    exact fits_of_scanBound hb
  have hv : ∀ v ∈ vs, knd.is (kf v) v = true := fun v hv => by
    obtain ⟨e, he, q⟩ := List.mem_map.mp (pm.mem_iff.mp hv)
    subst q; exact (g e he).is
  have pk : (vs.map kf).Perm ks := by
    have q := pm.map kf
    rw [List.map_map] at q
    exact q.trans pm0
  refine wpAny_bind (wpAny_newList ?_ hvl)
  have hoL : (s1.heap.push (seqObj "list" vs.toArray 0)).get? s1.heap.objs.size = some (seqObj "list" vs.toArray 0) := Heap.get?_push_size _ rfl
  refine wpAny_bind (wpAny_holding (wpAny_call_entry slot_list_sort ⟨_, hoL, rfl⟩ entry_list_sort (SrtO.list_sort_ord O hoL hvl (fun h2 => hS _ _ _ vs hv h2) fun out a1 a2 => ⟨_, rfl, ?_⟩) (args_list_sort _)))
  obtain ⟨c, hc⟩ := sortedHeap_at (vs := vs) (out := out.toArray) hoL
  refine wpAny_pure ⟨_, rfl, hQ _ s1.heap.objs.size out c (fun b u e => ?_) g1 o1 hz hc (fun v z => hv v (a2.perm.mem_iff.mp z)) ((a2.perm.map kf).trans pk) (List.pairwise_map.mpr a1)⟩
  have q := k1 b u e
  have hlt := Heap.lt_size q
  show (sortedHeap (s1.heap.push (seqObj "list" vs.toArray 0)) s1.heap.objs.size vs out.toArray).get? b = some u
  rw [sortedHeap_old (Nat.ne_of_lt hlt) (by rw [size_push']; exact Nat.lt_succ_of_lt hlt)]
  exact Heap.get?_push_of_some _ q
end
/-! ### keys in a list of values -/
theorem str_is {P : Program} {w : World} {v : Value} (h : (PySem.strKind P w).is (strOf v) v = true) : ∃ x t, v = .str x t := by
  obtain ⟨t, e⟩ := Value.isStrOf_shape h
  exact ⟨_, t, e⟩
theorem int_is {P : Program} {w : World} {v : Value} (h : (intKind P w).is (SrtO.iv v) v = true) : ∃ x t, v = .int x t := by
  obtain ⟨t, e⟩ := Value.isInt_shape h
  exact ⟨_, t, e⟩
theorem keys_strs {P : Program} {w : World} {xs : List Str} {its : List Value} (r : Vals (xs.map V.str) its) (hl : xs.length < 4000) : KeysAt (PySem.strKind P w) strOf xs its.toArray := by
  have e := r.length
  rw [List.length_map] at e
  refine ⟨⟨by simpa using e.symm, hl⟩, fun i v hv => ?_⟩
  have hv : its[i]? = some v := by simpa using hv
  have z := r.strs
  obtain ⟨x, t, rfl⟩ := z.all v (List.mem_of_getElem? hv)
  refine ⟨?_, strKind_is _ _ _ _, rfl⟩
  rw [← z.strs, List.getElem?_map, hv]; rfl
theorem keys_ints {P : Program} {w : World} {ns : List Int} {its : List Value} (r : Vals (ns.map V.int) its) (hl : ns.length < 4000) : KeysAt (intKind P w) SrtO.iv ns its.toArray := by
  have e := r.length
  rw [List.length_map] at e
  refine ⟨⟨by simpa using e.symm, hl⟩, fun i v hv => ?_⟩
  have hv : its[i]? = some v := by simpa using hv
  have z := r.ints
  obtain ⟨x, t, rfl⟩ := SrtO.ints_mem z v (List.mem_of_getElem? hv)
  refine ⟨?_, intKind_is _ _ _ _, rfl⟩
  rw [← SrtO.iv_ints z, List.getElem?_map, hv]; rfl
end Ks
namespace L2
open PySem PySem.Spec PyProof.Rows
def IsSq (K : PySem.W.Frag) (H : Hp) (l : Addr) (xs : List V) : Prop := SqL K H l xs ∨ SqT K H l xs
/-- the keys of a list or a tuple: ints, texts -/
def KeysV (K : PySem.W.Frag) (H : Hp) (l : Addr) (ks : List Int ⊕ List Str) : Prop := match ks with
  | .inl ns => IsSq K H l (ns.map V.int) ∧ ns.length < 4000
  | .inr xs => IsSq K H l (xs.map V.str) ∧ xs.length < 4000
def nKeys : List Int ⊕ List Str → Nat
  | .inl ns => (Ks.dd ns).length
  | .inr xs => (Ks.dd xs).length
def oKeys : List Int ⊕ List Str → List V
  | .inl ns => (Ks.isort Ks.ltI (Ks.dd ns)).map V.int
  | .inr xs => (Ks.isort Ks.ltS (Ks.dd xs)).map V.str
def tLenKeys (K : PySem.W.Frag) (ta : TE) : TE := fun σ H Q => ta σ H fun v H1 => ∃ l ks, v = .ref l ∧ KeysV K H1 l ks ∧ Q (.int (nKeys ks)) H1
def tSrtKeys (K : PySem.W.Frag) (ta : TE) : TE := fun σ H Q => ta σ H fun v H1 => ∃ l ks, v = .ref l ∧ KeysV K H1 l ks ∧ ∀ p, H1 p = none → Q (.ref p) (upd H1 p (.lst (oKeys ks)))
section
variable {X : Cx}
theorem set_seq {K : Type} [DecidableEq K] {knd : KeyKind X.prog X.w K} {kf : Value → K} {pins : List (Addr × Obj)} {σ : St} {H : Hp} {s : Shared} {l : Addr} {vs : List V} {xs : List K} {Q : Value → Shared → Prop} {E : Value → Shared → Prop} (hc : X.calm = true) (I : Inv X pins σ H s) (hq : IsSq X.K H l vs)
    (hk : ∀ its, Vals vs its → Ks.KeysAt knd kf xs its.toArray)
    (h : ∀ (h' : Heap) (tk : Nat), Inv X pins σ H { s with heap := h', toks := tk } → Ks.SetL knd kf h' s.heap.objs.size (Ks.dd xs) → Q (.ref s.heap.objs.size) { s with heap := h', toks := tk }) :
    wpAny (model X.prog X.w) X.A (call (.type "set") [.ref l]) Q E s := by
  rcases hq with hq | hq
  · obtain ⟨its, r, pl, hz⟩ := I.list hq
    exact Ks.set_of_list (I.ok.hd hc) pl.isList (hk its r) fun h' tk hS hk => h h' tk (I.kept hk) hS
  · obtain ⟨its, r, pl, hz⟩ := I.tuple hq
    exact Ks.set_of_tuple (I.ok.hd hc) pl (hk its r) fun h' tk hS hk => h h' tk (I.kept hk) hS
theorem pe_lnset {a : Expr} {ta : TE} {p p2 q pos : Pos} (hc : X.calm = true) (hg : Gl X "len") (hm : X.mg "len" = none) (hg2 : Gl X "set") (hm2 : X.mg "set" = none) (ha : PE X a ta)
    (na : starEach [a] X.env = (false, eval a X.env) :: starEach [] X.env) : PE X (.Call (.Name "len" p) [.Call (.Name "set" p2) [a] [] q] [] pos) (tLenKeys X.K ta) := by
  refine ⟨fun pins s σ H Q I h => ?_⟩
  refine Call_ (ld_blt I hg hm boot_len (callWith_builtin1 (args_cons (Call_ (ld_blt I hg2 hm2 boot_set (callWith_type1 (args_cons (thn (ha.run pins s σ H _ I h) fun v s1 ⟨x, H1, I1, r1, q1⟩ => args_nil ?_) na) na rfl))) rfl) rfl rfl))
  obtain ⟨l, ks, rfl, hk, q1⟩ := q1
  cases r1
  have fin : ∀ {K : Type} [DecidableEq K] {knd : KeyKind X.prog X.w K} {kf : Value → K} {xs : List K} {n : Nat}, xs.length < 4000 → n = (Ks.dd xs).length → Q (.int n) H1 → ∀ (h' : Heap) (tk : Nat), Inv X pins σ H1 { s1 with heap := h', toks := tk } → Ks.SetL knd kf h' s1.heap.objs.size (Ks.dd xs) →
      wpAny (model X.prog X.w) X.A (spliced (backTo pos (starEach [] X.env))) (fun vs s2 => wpAny (model X.prog X.w) X.A (call (.builtin "len") (Value.ref s1.heap.objs.size :: vs)) (EP X pins σ Q) X.xe s2) X.xe { s1 with heap := h', toks := tk } := fun {K} _ {knd kf xs n} hl hn q2 h' tk I2 hS => by
    refine args_nil ?_
    obtain ⟨o, es, ep, t, ho, hex, hd, g, pm0, nd, hb, hf, hr, hlq⟩ := hS
    have hsz : es.size = (Ks.dd xs).length := by have := pm0.length_eq; rw [List.length_map, Array.length_toList] at this; exact this
    have := Ks.dd_len xs
    refine call_len_set ho hex hd hf (by omega) ⟨.int n, H1, I2.tok _, ⟨_, by rw [hsz, hn]⟩, q2⟩
  cases ks with
  | inl ns => exact set_seq (knd := intKind X.prog X.w) (kf := SrtO.iv) hc I1 hk.1 (fun its r => Ks.keys_ints r hk.2) (fin hk.2 rfl q1)
  | inr xs => exact set_seq (knd := PySem.strKind X.prog X.w) (kf := strOf) hc I1 hk.1 (fun its r => Ks.keys_strs r hk.2) (fin hk.2 rfl q1)
theorem pe_srset {a : Expr} {ta : TE} {p p2 q pos : Pos} (hc : X.calm = true) (hg : Gl X "sorted") (hm : X.mg "sorted" = none) (hg2 : Gl X "set") (hm2 : X.mg "set" = none) (ha : PE X a ta)
    (na : starEach [a] X.env = (false, eval a X.env) :: starEach [] X.env) : PE X (.Call (.Name "sorted" p) [.Call (.Name "set" p2) [a] [] q] [] pos) (tSrtKeys X.K ta) := by
  refine ⟨fun pins s σ H Q I h => ?_⟩
  refine Call_ (ld_blt I hg hm boot_sorted (callWith_builtin1 (args_cons (Call_ (ld_blt I hg2 hm2 boot_set (callWith_type1 (args_cons (thn (ha.run pins s σ H _ I h) fun v s1 ⟨x, H1, I1, r1, q1⟩ => args_nil ?_) na) na rfl))) rfl) rfl rfl))
  obtain ⟨l, ks, rfl, hk, q1⟩ := q1
  cases r1
  have out : ∀ {h' : Heap} {tk : Nat} {s' : Shared} {p : Addr} {o : List Value} {c : Nat} {vs : List V}, Inv X pins σ H1 { s1 with heap := h', toks := tk } → (∀ b u, h'.get? b = some u → s'.heap.get? b = some u) → s'.gens = s1.gens → s'.os = s1.os → h'.objs.size ≤ p →
      s'.heap.get? p = some (seqObj "list" o.toArray c) → Vals vs o → vs.length ≤ sizeLine → (∀ p, H1 p = none → Q (.ref p) (upd H1 p (.lst vs))) → EP X pins σ Q (.ref p) s' := fun {h' tk s' p o c vs} I2 k g1 o1 hp hg hv hl q2 => by
    have hn : H1 p = none := I2.hok.fresh hp
    have J : Inv X pins σ (upd H1 p (.lst vs)) { ({ s1 with heap := h', toks := tk } : Shared) with heap := s'.heap, gens := s'.gens, drawn := s'.drawn, toks := s'.toks } :=
      I2.call (ch := []) (Un.laid k hp hn) (I2.hok.laid k hp ⟨hl, o, c, hv, hg⟩) (by rw [g1]; exact I2.bare) (fun _ z => nomatch z)
    have e : s' = { s1 with heap := s'.heap, gens := s'.gens, drawn := s'.drawn, toks := s'.toks } := by
      cases s'; cases s1; cases o1; rfl
    rw [e]
    exact ⟨.ref p, _, J, rfl, q2 p hn⟩
  have szl : ∀ {n : Nat}, n < 4000 → n ≤ sizeLine := fun {n} h => by rw [sizeLine_eq]; omega
  cases ks with
  | inl ns =>
    refine set_seq (knd := intKind X.prog X.w) (kf := SrtO.iv) hc I1 hk.1 (fun its r => Ks.keys_ints r hk.2) fun h' tk I2 hS => args_nil ?_
    refine Ks.sorted_setL (s := { s1 with heap := h', toks := tk }) (lt := Ks.ltI) SrtO.swo_int hS (I2.ok.hd hc) (fun s2 b A' vs hv h2 => SrtO.ints_sortable (SrtO.ints_iv fun v z => Ks.int_is (hv v z)) h2) fun s' p o c k g1 o1 hp hg hv pm sr => ?_
    refine out I2 k g1 o1 hp hg ?_ ?_ q1
    · show Vals ((Ks.isort Ks.ltI (Ks.dd ns)).map V.int) o
      rw [← Ks.isort_of Ks.ordI pm sr]
      exact vals_of_ints (SrtO.ints_iv fun v z => Ks.int_is (hv v z))
    · show ((Ks.isort Ks.ltI (Ks.dd ns)).map V.int).length ≤ _
      rw [List.length_map, (Ks.isort_perm _).length_eq]
      exact szl (Nat.lt_of_le_of_lt (Ks.dd_len ns) hk.2)
  | inr xs =>
    refine set_seq (knd := PySem.strKind X.prog X.w) (kf := strOf) hc I1 hk.1 (fun its r => Ks.keys_strs r hk.2) fun h' tk I2 hS => args_nil ?_
    refine Ks.sorted_setL (s := { s1 with heap := h', toks := tk }) (lt := Ks.ltS) Ks.swoS hS (I2.ok.hd hc) (fun s2 b A' vs hv h2 => Ks.sortableS (strsAre_map vs fun v z => Ks.str_is (hv v z)) h2) fun s' p o c k g1 o1 hp hg hv pm sr => ?_
    refine out I2 k g1 o1 hp hg ?_ ?_ q1
    · show Vals ((Ks.isort Ks.ltS (Ks.dd xs)).map V.str) o
      rw [← Ks.isort_of Ks.ordS pm sr]
      exact vals_of_strs (strsAre_map o fun v z => Ks.str_is (hv v z))
    · show ((Ks.isort Ks.ltS (Ks.dd xs)).map V.str).length ≤ _
      rw [List.length_map, (Ks.isort_perm _).length_eq]
      exact szl (Nat.lt_of_le_of_lt (Ks.dd_len xs) hk.2)
/-- sorted(xs), texts or ints, any number of them -/
def rSrtL (K : PySem.W.Frag) : List V → Hp → VK → Prop := fun vs H Q => ∃ (a : Addr) (ks : List Int ⊕ List Str), vs = [V.ref a] ∧ (match ks with
  | .inl ns => SqL K H a (ns.map V.int) ∧ ∀ p, H p = none → Q (.ref p) (upd H p (.lst ((Ks.isort Ks.ltI ns).map V.int)))
  | .inr xs => SqL K H a (xs.map V.str) ∧ ∀ p, H p = none → Q (.ref p) (upd H p (.lst ((Ks.isort Ks.ltS xs).map V.str))))
theorem cr_srtL : CallR X (.builtin "sorted") (rSrtL X.K) := by
  intro pins s σ H vs us Q I r h
  obtain ⟨a, ks, rfl, h⟩ := h
  cases ks with
  | inl ns =>
    refine cr_sortedI pins s σ H _ us Q I r ⟨a, ns, rfl, h.1, fun ns' p pm sr hp => ?_⟩
    rw [Ks.isort_of (lt := Ks.ltI) Ks.ordI pm (sr.imp fun {x y} z => decide_eq_false (by omega))]
    exact h.2 p hp
  | inr xs =>
    obtain ⟨its, rv, hl, hz⟩ := I.list h.1
    rw [Vals.ref1 r]
    have hi := rv.strs
    refine SrtO.sorted_ord Ks.swoS hl.isList (by rw [← rv.length]; exact hz) (fun h2 h₁ a' _ _ => Ks.sortableS hi h2) fun out h1 h2 => ?_
    obtain ⟨ep, he⟩ := sortedAll_at s.heap its out.toArray
    have ho : StrsAre out (out.map strOf) := strsAre_map out fun v z => hi.all v (h2.perm.mem_iff.mp z)
    have pm : (out.map strOf).Perm xs := by rw [← hi.strs]; exact h2.perm.map _
    have e := Ks.isort_of (lt := Ks.ltS) Ks.ordS pm (List.pairwise_map.mpr h1)
    have hlen : ((out.map strOf).map V.str).length ≤ sizeLine := by
      rw [List.length_map, pm.length_eq]
      rw [List.length_map] at hz
      exact hz
    refine ⟨.ref _, upd H (s.heap.objs.size + 1) (.lst ((out.map strOf).map V.str)), I.laid (t' := s.toks) (fun _ _ => sortedAll_old) (Nat.le_succ _) ⟨hlen, out, ep, vals_of_strs ho, he⟩, rfl, ?_⟩
    rw [e]
    exact h.2 _ (I.hok.fresh (Nat.le_succ _))
end
end L2

set_option Elab.async false
set_option linter.all false
set_option maxRecDepth 100000
set_option maxHeartbeats 2000000
/-! # Dn, part 1: plain data, what stands for it in the abstract heap, the world of frozen and live objects -/
namespace Dn
open PySem PySem.Spec PyProof.Rows L2

/-- plain data -/
inductive D where
  | non | bl (b : Bool) | int (i : Int) | str (s : Str)
  | tup (xs : List D) | lst (xs : List D)
  | ins (C : Str) (ks : List Str) (vs : List D)
  | scr (ns : List Int)
  | dic (lk : Bool) (ks : List Key) (vs : List D)
  /-- the error that is handled -/
  | exn (C : Str) (ks : List Str) (vs : List D)
  deriving Inhabited

mutual
def D.bq : D → D → Bool
  | .non, .non => true
  | .bl a, .bl b => a == b
  | .int a, .int b => decide (a = b)
  | .str a, .str b => decide (a.cps.toList = b.cps.toList)
  | .tup a, .tup b => D.bqs a b
  | .lst a, .lst b => D.bqs a b
  | .ins C ks vs, .ins C' ks' vs' => decide (C = C') && decide (ks = ks') && D.bqs vs vs'
  | .scr a, .scr b => decide (a = b)
  | .dic l ks vs, .dic l' ks' vs' => (l == l') && decide (ks = ks') && D.bqs vs vs'
  | .exn C ks vs, .exn C' ks' vs' => decide (C = C') && decide (ks = ks') && D.bqs vs vs'
  | _, _ => false
def D.bqs : List D → List D → Bool
  | [], [] => true
  | a :: as, b :: bs => D.bq a b && D.bqs as bs
  | _, _ => false
end
theorem str_toList {a b : Str} (h : a.cps.toList = b.cps.toList) : a = b := by
  obtain ⟨a⟩ := a
  obtain ⟨b⟩ := b
  congr 1
  exact Array.toList_inj.mp h
mutual
theorem D.bq_eq : ∀ {a b : D}, D.bq a b = true → a = b
  | .non, .non, _ => rfl
  | .bl a, .bl b, h => by simp only [D.bq, beq_iff_eq] at h; rw [h]
  | .int a, .int b, h => by simp only [D.bq, decide_eq_true_eq] at h; rw [h]
  | .str a, .str b, h => by simp only [D.bq, decide_eq_true_eq] at h; rw [str_toList h]
  | .tup a, .tup b, h => by simp only [D.bq] at h; rw [D.bqs_eq h]
  | .lst a, .lst b, h => by simp only [D.bq] at h; rw [D.bqs_eq h]
  | .ins C ks vs, .ins C' ks' vs', h => by simp only [D.bq, Bool.and_eq_true, decide_eq_true_eq] at h; rw [h.1.1, h.1.2, D.bqs_eq h.2]
  | .scr a, .scr b, h => by simp only [D.bq, decide_eq_true_eq] at h; rw [h]
  | .dic l ks vs, .dic l' ks' vs', h => by simp only [D.bq, Bool.and_eq_true, decide_eq_true_eq, beq_iff_eq] at h; rw [h.1.1, h.1.2, D.bqs_eq h.2]
  | .exn C ks vs, .exn C' ks' vs', h => by simp only [D.bq, Bool.and_eq_true, decide_eq_true_eq] at h; rw [h.1.1, h.1.2, D.bqs_eq h.2]
  | .non, .bl _, h => nomatch h | .non, .int _, h => nomatch h | .non, .str _, h => nomatch h | .non, .tup _, h => nomatch h | .non, .lst _, h => nomatch h | .non, .ins _ _ _, h => nomatch h | .non, .scr _, h => nomatch h | .non, .dic _ _ _, h => nomatch h | .non, .exn _ _ _, h => nomatch h
  | .bl _, .non, h => nomatch h | .bl _, .int _, h => nomatch h | .bl _, .str _, h => nomatch h | .bl _, .tup _, h => nomatch h | .bl _, .lst _, h => nomatch h | .bl _, .ins _ _ _, h => nomatch h | .bl _, .scr _, h => nomatch h | .bl _, .dic _ _ _, h => nomatch h | .bl _, .exn _ _ _, h => nomatch h
  | .int _, .non, h => nomatch h | .int _, .bl _, h => nomatch h | .int _, .str _, h => nomatch h | .int _, .tup _, h => nomatch h | .int _, .lst _, h => nomatch h | .int _, .ins _ _ _, h => nomatch h | .int _, .scr _, h => nomatch h | .int _, .dic _ _ _, h => nomatch h | .int _, .exn _ _ _, h => nomatch h
  | .str _, .non, h => nomatch h | .str _, .bl _, h => nomatch h | .str _, .int _, h => nomatch h | .str _, .tup _, h => nomatch h | .str _, .lst _, h => nomatch h | .str _, .ins _ _ _, h => nomatch h | .str _, .scr _, h => nomatch h | .str _, .dic _ _ _, h => nomatch h | .str _, .exn _ _ _, h => nomatch h
  | .tup _, .non, h => nomatch h | .tup _, .bl _, h => nomatch h | .tup _, .int _, h => nomatch h | .tup _, .str _, h => nomatch h | .tup _, .lst _, h => nomatch h | .tup _, .ins _ _ _, h => nomatch h | .tup _, .scr _, h => nomatch h | .tup _, .dic _ _ _, h => nomatch h | .tup _, .exn _ _ _, h => nomatch h
  | .lst _, .non, h => nomatch h | .lst _, .bl _, h => nomatch h | .lst _, .int _, h => nomatch h | .lst _, .str _, h => nomatch h | .lst _, .tup _, h => nomatch h | .lst _, .ins _ _ _, h => nomatch h | .lst _, .scr _, h => nomatch h | .lst _, .dic _ _ _, h => nomatch h | .lst _, .exn _ _ _, h => nomatch h
  | .ins _ _ _, .non, h => nomatch h | .ins _ _ _, .bl _, h => nomatch h | .ins _ _ _, .int _, h => nomatch h | .ins _ _ _, .str _, h => nomatch h | .ins _ _ _, .tup _, h => nomatch h | .ins _ _ _, .lst _, h => nomatch h | .ins _ _ _, .scr _, h => nomatch h | .ins _ _ _, .dic _ _ _, h => nomatch h | .ins _ _ _, .exn _ _ _, h => nomatch h
  | .scr _, .non, h => nomatch h | .scr _, .bl _, h => nomatch h | .scr _, .int _, h => nomatch h | .scr _, .str _, h => nomatch h | .scr _, .tup _, h => nomatch h | .scr _, .lst _, h => nomatch h | .scr _, .ins _ _ _, h => nomatch h | .scr _, .dic _ _ _, h => nomatch h | .scr _, .exn _ _ _, h => nomatch h
  | .dic _ _ _, .non, h => nomatch h | .dic _ _ _, .bl _, h => nomatch h | .dic _ _ _, .int _, h => nomatch h | .dic _ _ _, .str _, h => nomatch h | .dic _ _ _, .tup _, h => nomatch h | .dic _ _ _, .lst _, h => nomatch h | .dic _ _ _, .ins _ _ _, h => nomatch h | .dic _ _ _, .scr _, h => nomatch h | .dic _ _ _, .exn _ _ _, h => nomatch h
  | .exn _ _ _, .non, h => nomatch h | .exn _ _ _, .bl _, h => nomatch h | .exn _ _ _, .int _, h => nomatch h | .exn _ _ _, .str _, h => nomatch h | .exn _ _ _, .tup _, h => nomatch h | .exn _ _ _, .lst _, h => nomatch h | .exn _ _ _, .ins _ _ _, h => nomatch h | .exn _ _ _, .scr _, h => nomatch h | .exn _ _ _, .dic _ _ _, h => nomatch h
theorem D.bqs_eq : ∀ {a b : List D}, D.bqs a b = true → a = b
  | [], [], _ => rfl
  | a :: as, b :: bs, h => by simp only [D.bqs, Bool.and_eq_true] at h; rw [D.bq_eq h.1, D.bqs_eq h.2]
  | [], _ :: _, h => nomatch h
  | _ :: _, [], h => nomatch h
end
mutual
theorem D.bq_refl : ∀ a : D, D.bq a a = true
  | .non => by simp [D.bq]
  | .bl _ => by simp [D.bq]
  | .int _ => by simp [D.bq]
  | .str _ => by simp [D.bq]
  | .scr _ => by simp [D.bq]
  | .tup xs => by simp only [D.bq]; exact D.bqs_refl xs
  | .lst xs => by simp only [D.bq]; exact D.bqs_refl xs
  | .ins _ _ vs => by simp only [D.bq, decide_true, Bool.true_and]; exact D.bqs_refl vs
  | .dic _ _ vs => by simp only [D.bq, decide_true, Bool.true_and, beq_self_eq_true]; exact D.bqs_refl vs
  | .exn _ _ vs => by simp only [D.bq, decide_true, Bool.true_and]; exact D.bqs_refl vs
theorem D.bqs_refl : ∀ a : List D, D.bqs a a = true
  | [] => by simp [D.bqs]
  | a :: as => by simp only [D.bqs, D.bq_refl a, D.bqs_refl as, Bool.and_self]
end
/-- the module's part that data lean on: the written part, the classes by name -/
structure CA where
  f : Str → Addr
  /-- the error that is handled: its place, its class, its dict -/
  x : Option (Addr × Value × Option Addr) := none
structure RC where
  K : PySem.W.Frag
  ca : CA

/-- a text that data may hold -/
def okS (s : Str) : Prop := s.cps.all (· < 0x110000) = true ∧ s.length ≤ sizeLine
/-- a dict at a; lk: it is locked -/
def DAt (F : Hp) (lk : Bool) (a : Addr) (kvs : List (Key × V)) : Prop := (lk = false ∧ F a = some (.dK kvs)) ∨ (lk = true ∧ ∃ ob, F a = some (.frz ob (.dK kvs)))
mutual
/-- v stands for the data; F: what is frozen -/
def Rep (G : RC) (F : Hp) : D → V → Prop
  | .non, v => v = .non
  | .bl b, v => v = .bl b
  | .int i, v => v = .int i
  | .str s, v => v = .str s ∧ okS s
  | .tup xs, v => ∃ a ws, v = .ref a ∧ SqT G.K F a ws ∧ Reps G F xs ws
  | .lst xs, v => ∃ a ws, v = .ref a ∧ F a = some (.lst ws) ∧ Reps G F xs ws
  | .ins C ks vs, v => ∃ a dx ws, v = .ref a ∧ F a = some (.ins (G.ca.f C) dx (ks.zip ws)) ∧ Reps G F vs ws
  | .scr ns, v => ∃ a, v = .ref a ∧ SqL G.K F a (ns.map V.int)
  | .dic lk ks vs, v => ∃ a ws, v = .ref a ∧ DAt F lk a (ks.zip ws) ∧ ks.length = vs.length ∧ Reps G F vs ws
  | .exn C ks vs, v => ∃ a cls d ws, G.ca.x = some (a, cls, d) ∧ v = .ref a ∧ cls = .ref (G.ca.f C) ∧ ((ks = [] ∧ d = none) ∨ ∃ dd, d = some dd ∧ F dd = some (.xd (ks.zip ws))) ∧ Reps G F vs ws
def Reps (G : RC) (F : Hp) : List D → List V → Prop
  | [], ws => ws = []
  | x :: xs, ws => ∃ v vs, ws = v :: vs ∧ Rep G F x v ∧ Reps G F xs vs
end

def Sub (F F' : Hp) : Prop := ∀ a o, F a = some o → F' a = some o
theorem Sub.refl (F : Hp) : Sub F F := fun _ _ h => h
theorem Sub.trans {F F' F'' : Hp} (a : Sub F F') (b : Sub F' F'') : Sub F F'' := fun x o h => b x o (a x o h)
theorem Sub.sqT {K : PySem.W.Frag} {F F' : Hp} {a : Addr} {xs : List V} (e : Sub F F') (h : SqT K F a xs) : SqT K F' a xs := by
  rcases h with (h | ⟨o, h⟩) | h
  · exact .inl (.inl (e _ _ h))
  · exact .inl (.inr ⟨o, e _ _ h⟩)
  · exact .inr h
theorem Sub.dAt {F F' : Hp} {lk : Bool} {a : Addr} {kvs : List (Key × V)} (e : Sub F F') (h : DAt F lk a kvs) : DAt F' lk a kvs := h.imp (fun h => ⟨h.1, e _ _ h.2⟩) fun h => ⟨h.1, h.2.choose, e _ _ h.2.choose_spec⟩
theorem DAt.rd {F : Hp} {lk : Bool} {a : Addr} {kvs : List (Key × V)} (h : DAt F lk a kvs) : Rd F a (.dK kvs) := h.elim (fun h => .inl h.2) fun h => .inr h.2
theorem Sub.sqL {K : PySem.W.Frag} {F F' : Hp} {a : Addr} {xs : List V} (e : Sub F F') (h : SqL K F a xs) : SqL K F' a xs := by
  rcases h with (h | ⟨o, h⟩) | h
  · exact .inl (.inl (e _ _ h))
  · exact .inl (.inr ⟨o, e _ _ h⟩)
  · exact .inr h

section
variable {G : RC} {F F' : Hp}
mutual
theorem Rep.mono (e : Sub F F') : ∀ (d : D) (v : V), Rep G F d v → Rep G F' d v
  | .non, _, h => h
  | .bl _, _, h => h
  | .int _, _, h => h
  | .str _, _, h => h
  | .tup xs, _, h => by
    simp only [Rep] at h ⊢
    obtain ⟨a, ws, h1, h2, h3⟩ := h
    exact ⟨a, ws, h1, e.sqT h2, Reps.mono e xs ws h3⟩
  | .lst xs, _, h => by
    simp only [Rep] at h ⊢
    obtain ⟨a, ws, h1, h2, h3⟩ := h
    exact ⟨a, ws, h1, e _ _ h2, Reps.mono e xs ws h3⟩
  | .ins C ks vs, _, h => by
    simp only [Rep] at h ⊢
    obtain ⟨a, dx, ws, h1, h2, h3⟩ := h
    exact ⟨a, dx, ws, h1, e _ _ h2, Reps.mono e vs ws h3⟩
  | .scr ns, _, h => by
    simp only [Rep] at h ⊢
    obtain ⟨a, h1, h2⟩ := h
    exact ⟨a, h1, e.sqL h2⟩
  | .dic lk ks vs, _, h => by
    simp only [Rep] at h ⊢
    obtain ⟨a, ws, h1, h2, h3, h4⟩ := h
    exact ⟨a, ws, h1, e.dAt h2, h3, Reps.mono e vs ws h4⟩
  | .exn C ks vs, _, h => by
    simp only [Rep] at h ⊢
    obtain ⟨a, cls, d, ws, h1, h2, h3, h4, h5⟩ := h
    exact ⟨a, cls, d, ws, h1, h2, h3, h4.imp id (fun ⟨dd, z1, z2⟩ => ⟨dd, z1, e _ _ z2⟩), Reps.mono e vs ws h5⟩
theorem Reps.mono (e : Sub F F') : ∀ (ds : List D) (vs : List V), Reps G F ds vs → Reps G F' ds vs
  | [], _, h => h
  | d :: ds, _, h => by
    simp only [Reps] at h ⊢
    obtain ⟨v, vs, h1, h2, h3⟩ := h
    exact ⟨v, vs, h1, Rep.mono e d v h2, Reps.mono e ds vs h3⟩
end
theorem Reps.length : ∀ {ds : List D} {vs : List V}, Reps G F ds vs → vs.length = ds.length
  | [], _, h => by simp only [Reps] at h; subst h; rfl
  | d :: ds, _, h => by
    simp only [Reps] at h
    obtain ⟨v, vs, rfl, _, h3⟩ := h
    simp [Reps.length h3]
theorem Reps.cons {d : D} {ds : List D} {v : V} {vs : List V} (h : Rep G F d v) (t : Reps G F ds vs) : Reps G F (d :: ds) (v :: vs) := by
  simp only [Reps]; exact ⟨v, vs, rfl, h, t⟩
theorem Reps.nil : Reps G F [] [] := by simp only [Reps]
theorem Reps.inv_cons {d : D} {ds : List D} {vs : List V} (h : Reps G F (d :: ds) vs) : ∃ v ws, vs = v :: ws ∧ Rep G F d v ∧ Reps G F ds ws := by
  simpa only [Reps] using h
theorem Reps.get : ∀ {ds : List D} {vs : List V} {i : Nat} {d : D}, Reps G F ds vs → ds[i]? = some d → ∃ v, vs[i]? = some v ∧ Rep G F d v
  | [], _, _, _, _, e => by simp at e
  | x :: xs, _, 0, d, h, e => by
    obtain ⟨v, ws, rfl, h1, _⟩ := h.inv_cons
    simp at e; subst e
    exact ⟨v, rfl, h1⟩
  | x :: xs, _, i + 1, d, h, e => by
    obtain ⟨v, ws, rfl, _, h2⟩ := h.inv_cons
    simpa using Reps.get (i := i) (d := d) h2 (by simpa using e)
theorem Reps.getV : ∀ {ds : List D} {vs : List V} {i : Nat} {v : V}, Reps G F ds vs → vs[i]? = some v → ∃ d, ds[i]? = some d ∧ Rep G F d v := fun {ds vs i v} h e => by
  have hl := h.length
  have hi : i < vs.length := (List.getElem?_eq_some_iff.mp e).1
  have hd : ds[i]? = some (ds[i]'(by omega)) := List.getElem?_eq_getElem (by omega)
  obtain ⟨v', e', r⟩ := h.get hd
  rw [e] at e'; cases e'
  exact ⟨_, hd, r⟩
theorem Reps.append : ∀ {ds es : List D} {vs ws : List V}, Reps G F ds vs → Reps G F es ws → Reps G F (ds ++ es) (vs ++ ws)
  | [], _, _, _, h, t => by simp only [Reps] at h; subst h; exact t
  | d :: ds, es, _, ws, h, t => by
    obtain ⟨v, vs, rfl, h1, h2⟩ := h.inv_cons
    exact Reps.cons h1 (Reps.append h2 t)
theorem Reps.set : ∀ {ds : List D} {vs : List V} {d : D} {v : V} (i : Nat), Reps G F ds vs → Rep G F d v → Reps G F (ds.set i d) (vs.set i v)
  | [], _, _, _, _, h, _ => by simp only [Reps] at h; subst h; exact Reps.nil
  | x :: xs, _, d, v, 0, h, r => by
    obtain ⟨w, ws, rfl, h1, h2⟩ := h.inv_cons
    exact Reps.cons r h2
  | x :: xs, _, d, v, i + 1, h, r => by
    obtain ⟨w, ws, rfl, h1, h2⟩ := h.inv_cons
    exact Reps.cons h1 (Reps.set i h2 r)
theorem Reps.take : ∀ {ds : List D} {vs : List V} (n : Nat), Reps G F ds vs → Reps G F (ds.take n) (vs.take n)
  | _, _, 0, _ => by simpa using Reps.nil
  | [], _, n + 1, h => by simp only [Reps] at h; subst h; exact Reps.nil
  | d :: ds, _, n + 1, h => by
    obtain ⟨v, vs, rfl, h1, h2⟩ := h.inv_cons
    exact Reps.cons h1 (Reps.take n h2)
theorem Reps.drop : ∀ {ds : List D} {vs : List V} (n : Nat), Reps G F ds vs → Reps G F (ds.drop n) (vs.drop n)
  | _, _, 0, h => h
  | [], _, n + 1, h => by simp only [Reps] at h; subst h; exact Reps.nil
  | d :: ds, _, n + 1, h => by
    obtain ⟨v, vs, rfl, h1, h2⟩ := h.inv_cons
    exact Reps.drop n h2
theorem Reps.eraseIdx : ∀ {ds : List D} {vs : List V} (n : Nat), Reps G F ds vs → Reps G F (ds.eraseIdx n) (vs.eraseIdx n)
  | [], _, n, h => by simp only [Reps] at h; subst h; exact Reps.nil
  | d :: ds, _, 0, h => by
    obtain ⟨v, vs, rfl, h1, h2⟩ := h.inv_cons
    exact h2
  | d :: ds, _, n + 1, h => by
    obtain ⟨v, vs, rfl, h1, h2⟩ := h.inv_cons
    exact Reps.cons h1 (Reps.eraseIdx n h2)
theorem Reps.reverse {ds : List D} {vs : List V} (h : Reps G F ds vs) : Reps G F ds.reverse vs.reverse := by
  induction ds generalizing vs with
  | nil => simp only [Reps] at h; subst h; exact Reps.nil
  | cons d ds ih =>
    obtain ⟨v, vs, rfl, h1, h2⟩ := h.inv_cons
    rw [List.reverse_cons, List.reverse_cons]
    exact Reps.append (ih h2) (Reps.cons h1 Reps.nil)
theorem Reps.ints {ns : List Int} : ∀ {vs : List V}, Reps G F (ns.map D.int) vs → vs = ns.map V.int := by
  induction ns with
  | nil => intro vs h; simpa only [List.map_nil, Reps] using h
  | cons n ns ih =>
    intro vs h
    obtain ⟨v, ws, rfl, h1, h2⟩ := h.inv_cons
    simp only [Rep] at h1
    rw [h1, ih h2]; rfl
theorem Reps.of_ints (ns : List Int) : Reps G F (ns.map D.int) (ns.map V.int) := by
  induction ns with
  | nil => exact Reps.nil
  | cons n ns ih => exact Reps.cons (by simp only [Rep]) ih
theorem Reps.strs {ns : List Str} : ∀ {vs : List V}, Reps G F (ns.map D.str) vs → vs = ns.map V.str ∧ ∀ n ∈ ns, okS n := by
  induction ns with
  | nil => intro vs h; exact ⟨by simpa only [List.map_nil, Reps] using h, by simp⟩
  | cons n ns ih =>
    intro vs h
    obtain ⟨v, ws, rfl, h1, h2⟩ := h.inv_cons
    simp only [Rep] at h1
    obtain ⟨e, k⟩ := ih h2
    refine ⟨by rw [h1.1, e]; rfl, fun m hm => ?_⟩
    rcases List.mem_cons.mp hm with rfl | hm
    · exact h1.2
    · exact k m hm
theorem Reps.of_strs : ∀ (ns : List Str), (∀ n ∈ ns, okS n) → Reps G F (ns.map D.str) (ns.map V.str)
  | [], _ => Reps.nil
  | n :: ns, h => Reps.cons (by unfold Rep; exact ⟨rfl, h n (by simp)⟩) (Reps.of_strs ns fun m hm => h m (by simp [hm]))
end

/-! ### live objects -/
inductive Cell where
  | lst (xs : List D) | ins (C : Str) (ks : List Str) (vs : List D) | dic (ks : List Key) (vs : List D) | dead
def Cell.toD : Cell → D
  | .lst xs => .lst xs
  | .ins C ks vs => .ins C ks vs
  | .dic ks vs => .dic false ks vs
  | .dead => .non
def Cell.live : Cell → Bool
  | .dead => false
  | _ => true
abbrev Store := List Cell
/-- what a name holds: data, or a live object by its place in the store -/
inductive W where
  | d (x : D) | loc (n : Nat)
/-- what an expression gives: also an object that nobody else holds -/
inductive RW where
  | d (x : D) | loc (n : Nat) | own (c : Cell)
structure Exn where
  C : Str
  ks : List Str
  vs : List D
inductive Res (α : Type) where
  | ok (a : α) (S : Store) | err (e : Exn) (S : Store) | stuck
abbrev Env := List (Option W)

structure Wd where
  F : Hp
  mu : List Addr
  S : Store

def CellAt (G : RC) (F H : Hp) (a : Addr) : Cell → Prop
  | .lst xs => ∃ ws, H a = some (.lst ws) ∧ Reps G F xs ws
  | .ins C ks vs => ∃ dx ws, H a = some (.ins (G.ca.f C) dx (ks.zip ws)) ∧ Reps G F vs ws
  | .dic ks vs => ∃ ws, H a = some (.dK (ks.zip ws)) ∧ ks.length = vs.length ∧ Reps G F vs ws
  | .dead => False
def Live (ω : Wd) (a : Addr) : Prop := ∃ (n : Nat) (c : Cell), ω.S[n]? = some c ∧ c.live = true ∧ ω.mu[n]? = some a
structure Wd.Ok (G : RC) (ω : Wd) (H : Hp) : Prop where
  sub : Sub ω.F H
  len : ω.mu.length = ω.S.length
  cell : ∀ (n : Nat) (c : Cell) (a : Addr), ω.S[n]? = some c → c.live = true → ω.mu[n]? = some a → ω.F a = none ∧ CellAt G ω.F H a c
  inj : ∀ (n m : Nat) (c c' : Cell) (a : Addr), ω.S[n]? = some c → c.live = true → ω.S[m]? = some c' → c'.live = true → ω.mu[n]? = some a → ω.mu[m]? = some a → n = m
/-- a run from the one to the other -/
structure Le (ω : Wd) (H : Hp) (ω' : Wd) (H' : Hp) : Prop where
  ext : Sub ω.F ω'.F
  pre : ω.mu <+: ω'.mu
  frame : ∀ a o, H a = some o → ¬ Live ω a → H' a = some o
  newl : ∀ (n : Nat) (c : Cell) (a : Addr), ω.mu.length ≤ n → ω'.S[n]? = some c → c.live = true → ω'.mu[n]? = some a → H a = none
  old : ∀ (n : Nat) (c' : Cell), n < ω.mu.length → ω'.S[n]? = some c' → c'.live = true → ∃ c : Cell, ω.S[n]? = some c ∧ c.live = true
  ff : ∀ a o, ω'.F a = some o → ω.F a = some o ∨ H a = none ∨ Live ω a
  dom : ∀ a, H' a = none → H a = none

theorem CellAt.mono {G : RC} {F F' H : Hp} {a : Addr} {c : Cell} (e : Sub F F') (h : CellAt G F H a c) : CellAt G F' H a c := by
  cases c with
  | lst xs => obtain ⟨ws, h1, h2⟩ := h; exact ⟨ws, h1, h2.mono e⟩
  | ins C ks vs => obtain ⟨dx, ws, h1, h2⟩ := h; exact ⟨dx, ws, h1, h2.mono e⟩
  | dic ks vs => obtain ⟨ws, h1, h2, h3⟩ := h; exact ⟨ws, h1, h2, h3.mono e⟩
  | dead => exact h
theorem CellAt.at {G : RC} {F H H' : Hp} {a : Addr} {c : Cell} (h : CellAt G F H a c) (e : ∀ o, H a = some o → H' a = some o) : CellAt G F H' a c := by
  cases c with
  | lst xs => obtain ⟨ws, h1, h2⟩ := h; exact ⟨ws, e _ h1, h2⟩
  | ins C ks vs => obtain ⟨dx, ws, h1, h2⟩ := h; exact ⟨dx, ws, e _ h1, h2⟩
  | dic ks vs => obtain ⟨ws, h1, h2⟩ := h; exact ⟨ws, e _ h1, h2⟩
  | dead => exact h
theorem CellAt.some {G : RC} {F H : Hp} {a : Addr} {c : Cell} (h : CellAt G F H a c) : ∃ o, H a = some o := by
  cases c with
  | lst xs => obtain ⟨ws, h1, h2⟩ := h; exact ⟨_, h1⟩
  | ins C ks vs => obtain ⟨dx, ws, h1, h2⟩ := h; exact ⟨_, h1⟩
  | dic ks vs => obtain ⟨ws, h1, h2⟩ := h; exact ⟨_, h1⟩
  | dead => exact h.elim

theorem pre_get {α : Type} {l l' : List α} (h : l <+: l') {n : Nat} {a : α} (e : l[n]? = some a) : l'[n]? = some a := by
  obtain ⟨t, rfl⟩ := h
  rw [List.getElem?_append_left (List.getElem?_eq_some_iff.mp e).1]; exact e
theorem pre_back {α : Type} {l l' : List α} (h : l <+: l') {n : Nat} {a : α} (hn : n < l.length) (e : l'[n]? = some a) : l[n]? = some a := by
  obtain ⟨t, rfl⟩ := h
  rw [List.getElem?_append_left hn] at e; exact e

section
variable {G : RC} {ω ω1 ω2 : Wd} {H H1 H2 : Hp}
theorem Le.refl (ω : Wd) (H : Hp) (ok : ω.Ok G H) : Le ω H ω H :=
  ⟨Sub.refl _, List.prefix_refl _, fun _ _ h _ => h, fun n c a hn hc _ ha => absurd (List.getElem?_eq_some_iff.mp ha).1 (by omega), fun n c' _ h1 h2 => ⟨c', h1, h2⟩, fun _ _ h => .inl h, fun _ h => h⟩
theorem Le.back (a : Le ω H ω1 H1) {x : Addr} {o : HO} (h : H x = some o) (hn : ¬ Live ω x) : ¬ Live ω1 x := by
  rintro ⟨n, c, h1, h2, h3⟩
  by_cases hl : n < ω.mu.length
  · obtain ⟨c0, e1, e2⟩ := a.old n c hl h1 h2
    exact hn ⟨n, c0, e1, e2, pre_back a.pre hl h3⟩
  · have z := a.newl n c x (by omega) h1 h2 h3
    rw [z] at h; cases h
theorem Le.trans (a : Le ω H ω1 H1) (b : Le ω1 H1 ω2 H2) : Le ω H ω2 H2 where
  ext := a.ext.trans b.ext
  pre := a.pre.trans b.pre
  frame := fun x o h hn => b.frame x o (a.frame x o h hn) (a.back h hn)
  newl := fun n c x hn hc hl hx => by
    by_cases h1 : n < ω1.mu.length
    · obtain ⟨c0, e1, e2⟩ := b.old n c h1 hc hl
      exact a.newl n c0 x hn e1 e2 (pre_back b.pre h1 hx)
    · exact a.dom x (b.newl n c x (by omega) hc hl hx)
  old := fun n c' hn hc hl => by
    have h1 : n < ω1.mu.length := Nat.lt_of_lt_of_le hn a.pre.length_le
    obtain ⟨c0, e1, e2⟩ := b.old n c' h1 hc hl
    exact a.old n c0 hn e1 e2
  ff := fun x o h => by
    rcases b.ff x o h with h | h | ⟨n, c, h1, h2, h3⟩
    · exact a.ff x o h
    · exact .inr (.inl (a.dom x h))
    · by_cases hl : n < ω.mu.length
      · obtain ⟨c0, e1, e2⟩ := a.old n c hl h1 h2
        exact .inr (.inr ⟨n, c0, e1, e2, pre_back a.pre hl h3⟩)
      · exact .inr (.inl (a.newl n c x (by omega) h1 h2 h3))
  dom := fun x h => a.dom x (b.dom x h)

/-- what a name's content stands for -/
def RepW (G : RC) (ω : Wd) : W → V → Prop
  | .d x, v => Rep G ω.F x v
  | .loc n, v => ∃ a, v = .ref a ∧ ω.mu[n]? = some a
/-- what an expression's value stands for; H: ahead of it -/
def RepRW (G : RC) (ω : Wd) (H0 H : Hp) : RW → V → Prop
  | .d x, v => Rep G ω.F x v
  | .loc n, v => ∃ a, v = .ref a ∧ ω.mu[n]? = some a
  | .own c, v => ∃ a, v = .ref a ∧ H0 a = none ∧ ω.F a = none ∧ ¬ Live ω a ∧ CellAt G ω.F H a c
def RepWs (G : RC) (ω : Wd) : List W → List V → Prop
  | [], vs => vs = []
  | w :: ws, vs => ∃ u us, vs = u :: us ∧ RepW G ω w u ∧ RepWs G ω ws us
def RepX (G : RC) (ω : Wd) (e : Exn) (cls : Value) (d : Option Addr) : Prop :=
  cls = .ref (G.ca.f e.C) ∧ ∃ ws, ((e.ks = [] ∧ d = none) ∨ ∃ dd, d = some dd ∧ ω.F dd = some (.xd (e.ks.zip ws))) ∧ Reps G ω.F e.vs ws
theorem RepW.mono (a : Le ω H ω1 H1) {w : W} {v : V} (h : RepW G ω w v) : RepW G ω1 w v := by
  cases w with
  | d x => exact Rep.mono a.ext _ _ h
  | loc n => obtain ⟨p, h1, h2⟩ := h; exact ⟨p, h1, pre_get a.pre h2⟩
theorem RepWs.mono (a : Le ω H ω1 H1) : ∀ {ws : List W} {vs : List V}, RepWs G ω ws vs → RepWs G ω1 ws vs
  | [], _, h => h
  | w :: ws, _, h => by
    obtain ⟨u, us, rfl, h1, h2⟩ := h
    exact ⟨u, us, rfl, h1.mono a, RepWs.mono a h2⟩
theorem RepWs.length : ∀ {ws : List W} {vs : List V}, RepWs G ω ws vs → vs.length = ws.length
  | [], _, h => by cases h; rfl
  | w :: ws, _, h => by
    obtain ⟨u, us, rfl, h1, h2⟩ := h
    simp [RepWs.length h2]
theorem RepWs.get : ∀ {ws : List W} {vs : List V} {i : Nat} {w : W}, RepWs G ω ws vs → ws[i]? = some w → ∃ v, vs[i]? = some v ∧ RepW G ω w v
  | [], _, _, _, _, e => by simp at e
  | x :: xs, _, 0, w, ⟨u, us, rfl, h1, _⟩, e => by
    simp at e; subst e; exact ⟨u, rfl, h1⟩
  | x :: xs, _, i + 1, w, ⟨u, us, rfl, _, h2⟩, e => by
    simpa using RepWs.get (i := i) (w := w) h2 (by simpa using e)
/-- the value is kept: an own object becomes frozen data -/
def RW.toW : RW → W
  | .d x => .d x
  | .loc n => .loc n
  | .own c => .d c.toD
def freezeAt (ω : Wd) (a : Addr) (o : HO) : Wd := { ω with F := upd ω.F a o }
theorem freeze_own (ok : ω1.Ok G H1) (le : Le ω H ω1 H1) {c : Cell} {v : V} (r : RepRW G ω1 H H1 (.own c) v) :
    ∃ ω2, ω2.S = ω1.S ∧ Le ω H ω2 H1 ∧ Le ω1 H1 ω1 H1 ∧ ω2.Ok G H1 ∧ RepW G ω2 (.d c.toD) v ∧ Sub ω1.F ω2.F ∧ ω2.mu = ω1.mu := by
  obtain ⟨a, rfl, h0, hf, hl, hc⟩ := r
  obtain ⟨o, ho⟩ := hc.some
  have sb : Sub ω1.F (upd ω1.F a o) := fun x u h => by
    rw [upd_ne (by intro z; rw [z, hf] at h; cases h)]; exact h
  have lv : ∀ x, Live (freezeAt ω1 a o) x ↔ Live ω1 x := fun x => Iff.rfl
  refine ⟨freezeAt ω1 a o, rfl, ⟨le.ext.trans sb, le.pre, le.frame, le.newl, le.old, fun x u h => ?_, le.dom⟩, Le.refl _ _ ok, ⟨fun x u h => ?_, ok.len, fun n c' x h1 h2 h3 => ?_, ok.inj⟩, ?_, sb, rfl⟩
  · by_cases hx : x = a
    · subst hx; exact .inr (.inl h0)
    · have h : upd ω1.F a o x = some u := h
      rw [upd_ne hx] at h; exact le.ff x u h
  · by_cases hx : x = a
    · subst hx
      have h : upd ω1.F x o x = some u := h
      rw [upd_same] at h; cases h; exact ho
    · have h : upd ω1.F a o x = some u := h
      rw [upd_ne hx] at h; exact ok.sub x u h
  · obtain ⟨z1, z2⟩ := ok.cell n c' x h1 h2 h3
    refine ⟨?_, z2.mono sb⟩
    have hx : x ≠ a := fun z => hl (by subst z; exact ⟨n, c', h1, h2, h3⟩)
    show upd ω1.F a o x = none
    rw [upd_ne hx]; exact z1
  · cases c with
    | lst xs =>
      obtain ⟨ws, e1, e2⟩ := hc
      rw [ho] at e1; cases e1
      show Rep G (upd ω1.F a _) (.lst xs) _
      simp only [Rep]
      exact ⟨a, ws, rfl, upd_same, e2.mono sb⟩
    | ins C ks vs =>
      obtain ⟨dx, ws, e1, e2⟩ := hc
      rw [ho] at e1; cases e1
      show Rep G (upd ω1.F a _) (.ins C ks vs) _
      simp only [Rep]
      exact ⟨a, dx, ws, rfl, upd_same, e2.mono sb⟩
    | dic ks vs =>
      obtain ⟨ws, e1, e0, e2⟩ := hc
      rw [ho] at e1; cases e1
      show Rep G (upd ω1.F a _) (.dic false ks vs) _
      simp only [Rep]
      exact ⟨a, ws, rfl, .inl ⟨rfl, upd_same⟩, e0, e2.mono sb⟩
    | dead => exact hc.elim
/-- any value, kept -/
theorem keep_rw (ok : ω1.Ok G H1) (le : Le ω H ω1 H1) {w : RW} {v : V} (r : RepRW G ω1 H H1 w v) :
    ∃ ω2, ω2.S = ω1.S ∧ Le ω H ω2 H1 ∧ ω2.Ok G H1 ∧ RepW G ω2 w.toW v := by
  cases w with
  | d x => exact ⟨ω1, rfl, le, ok, r⟩
  | loc n => exact ⟨ω1, rfl, le, ok, r⟩
  | own c =>
    obtain ⟨ω2, h1, h2, _, h4, h5, _⟩ := freeze_own ok le r
    exact ⟨ω2, h1, h2, h4, h5⟩
/-- an own object becomes a live one, at the end of the store -/
def pushAt (ω : Wd) (a : Addr) (c : Cell) : Wd := { ω with mu := ω.mu ++ [a], S := ω.S ++ [c] }
theorem push_own (ok : ω1.Ok G H1) (le : Le ω H ω1 H1) {c : Cell} {v : V} (r : RepRW G ω1 H H1 (.own c) v) :
    ∃ ω2, ω2.S = ω1.S ++ [c] ∧ Le ω H ω2 H1 ∧ ω2.Ok G H1 ∧ RepW G ω2 (.loc ω1.S.length) v ∧ (∀ w u, RepW G ω1 w u → RepW G ω2 w u) := by
  obtain ⟨a, rfl, h0, hf, hl, hc⟩ := r
  have hlen := ok.len
  refine ⟨pushAt ω1 a c, rfl, ⟨le.ext, le.pre.trans (List.prefix_append _ _), le.frame, fun n c' x hn h1 h2 h3 => ?_, fun n c' hn h1 h2 => ?_, le.ff, le.dom⟩, ⟨ok.sub, ?_, fun n c' x h1 h2 h3 => ?_, fun n m c1 c2 x h1 h2 h3 h4 h5 h6 => ?_⟩, ⟨a, rfl, ?_⟩, fun w u h => ?_⟩
  · have h1 : (ω1.S ++ [c])[n]? = some c' := h1
    have h3 : (ω1.mu ++ [a])[n]? = some x := h3
    by_cases hlt : n < ω1.S.length
    · rw [List.getElem?_append_left hlt] at h1
      rw [List.getElem?_append_left (by omega)] at h3
      exact le.newl n c' x hn h1 h2 h3
    · have e : n = ω1.mu.length := by
        have := (List.getElem?_eq_some_iff.mp h3).1
        simp at this; omega
      subst e
      simp at h3; subst h3; exact h0
  · have h1 : (ω1.S ++ [c])[n]? = some c' := h1
    rw [List.getElem?_append_left (by have := le.pre.length_le; omega)] at h1
    exact le.old n c' hn h1 h2
  · simp [pushAt, hlen]
  · have h1 : (ω1.S ++ [c])[n]? = some c' := h1
    have h3 : (ω1.mu ++ [a])[n]? = some x := h3
    by_cases hlt : n < ω1.S.length
    · rw [List.getElem?_append_left hlt] at h1
      rw [List.getElem?_append_left (by omega)] at h3
      exact ok.cell n c' x h1 h2 h3
    · have e : n = ω1.mu.length := by
        have := (List.getElem?_eq_some_iff.mp h3).1
        simp at this; omega
      subst e
      rw [List.getElem?_append_right (by omega)] at h1
      simp at h3; subst h3
      rw [hlen] at h1; simp at h1; subst h1
      exact ⟨hf, hc⟩
  · have h1 : (ω1.S ++ [c])[n]? = some c1 := h1
    have h3 : (ω1.S ++ [c])[m]? = some c2 := h3
    have h5 : (ω1.mu ++ [a])[n]? = some x := h5
    have h6 : (ω1.mu ++ [a])[m]? = some x := h6
    by_cases hn : n < ω1.S.length
    · by_cases hm : m < ω1.S.length
      · rw [List.getElem?_append_left hn] at h1
        rw [List.getElem?_append_left hm] at h3
        rw [List.getElem?_append_left (by omega)] at h5 h6
        exact ok.inj n m c1 c2 x h1 h2 h3 h4 h5 h6
      · exfalso
        have e : m = ω1.mu.length := by
          have := (List.getElem?_eq_some_iff.mp h6).1
          simp at this; omega
        subst e
        simp at h6; subst h6
        rw [List.getElem?_append_left hn] at h1
        rw [List.getElem?_append_left (by omega)] at h5
        exact hl ⟨n, c1, h1, h2, h5⟩
    · have e : n = ω1.mu.length := by
        have := (List.getElem?_eq_some_iff.mp h5).1
        simp at this; omega
      by_cases hm : m < ω1.S.length
      · exfalso
        subst e
        simp at h5; subst h5
        rw [List.getElem?_append_left hm] at h3
        rw [List.getElem?_append_left (by omega)] at h6
        exact hl ⟨m, c2, h3, h4, h6⟩
      · have e2 : m = ω1.mu.length := by
          have := (List.getElem?_eq_some_iff.mp h6).1
          simp at this; omega
        omega
  · show (ω1.mu ++ [a])[ω1.S.length]? = some a
    rw [← hlen]; simp
  · cases w with
    | d y => exact h
    | loc n =>
      obtain ⟨p, e1, e2⟩ := h
      exact ⟨p, e1, pre_get (List.prefix_append _ _) e2⟩
end
end Dn

set_option Elab.async false
set_option linter.all false
set_option maxRecDepth 100000
set_option maxHeartbeats 2000000
/-! # Dn, part 2: readings made of functions on data -/
namespace Dn
open PySem PySem.Spec L2

abbrev M (α : Type) : Type := Store → Res α
def M.bind {α β : Type} (m : M α) (f : α → M β) : M β := fun S => match m S with
  | .ok a S' => f a S'
  | .err e S' => .err e S'
  | .stuck => .stuck
def M.ret {α : Type} (a : α) : M α := fun S => .ok a S
abbrev ES := Env → M RW
abbrev AS := Env → M (List W)
abbrev BS := Env → M Bool
/-- what an operation on values does: it raises nothing -/
abbrev Prim := List W → Store → Option (RW × Store)
def liftP (p : Prim) (ws : List W) : M RW := fun S => match p ws S with
  | some (r, S') => .ok r S'
  | none => .stuck
abbrev Sem := List W → M RW

section
variable (G : RC)
def Post {α β : Type} (R : Wd → Hp → α → β → Prop) (ω : Wd) (H : Hp) (Q : β → Hp → Prop) (E : XK) : Res α → Prop
  | .ok a S' => ∀ ω' H' b, ω'.S = S' → Le ω H ω' H' → ω'.Ok G H' → R ω' H' a b → Q b H'
  | .err e S' => ∀ ω' H' cls d, ω'.S = S' → Le ω H ω' H' → ω'.Ok G H' → RepX G ω' e cls d → E cls d H'
  | .stuck => False
abbrev PostE (ω : Wd) (H : Hp) (Q : VK) (E : XK) : Res RW → Prop := Post G (fun ω' H' w v => RepRW G ω' H H' w v) ω H Q E
abbrev PostB (ω : Wd) (H : Hp) (Q : Bool → Hp → Prop) (E : XK) : Res Bool → Prop := Post G (fun _ _ a b => b = a) ω H Q E
abbrev PostA (ω : Wd) (H : Hp) (Q : List V → Hp → Prop) (E : XK) : Res (List W) → Prop := Post G (fun ω' _ ws vs => RepWs G ω' ws vs) ω H Q E
def EnvR (ω : Wd) (env : Env) (σ : St) : Prop := env.length = σ.length ∧ ∀ (i : Nat) (w : W), env[i]? = some (some w) → ∃ v, σ[i]? = some (some v) ∧ RepW G ω w v
/-- the readings -/
def tE (Wx : WX) (f : ES) : TE := fun σ H Q => ∃ ω env, ω.Ok G H ∧ EnvR G ω env σ ∧ PostE G ω H Q (fun c d H' => Wx c d σ H') (f env ω.S)
def tB (Wx : WX) (f : BS) : TT := fun σ H Q => ∃ ω env, ω.Ok G H ∧ EnvR G ω env σ ∧ PostB G ω H Q (fun c d H' => Wx c d σ H') (f env ω.S)
def tA (Wx : WX) (f : AS) : TA := fun σ H Q => ∃ ω env, ω.Ok G H ∧ EnvR G ω env σ ∧ PostA G ω H Q (fun c d H' => Wx c d σ H') (f env ω.S)
/-- an operation's reading, by values -/
def tP (p : Prim) : List V → Hp → VK → Prop := fun vs H Q => ∃ ω ws, ω.Ok G H ∧ RepWs G ω ws vs ∧ PostE G ω H Q (fun _ _ _ => False) (liftP p ws ω.S)
/-- a def's promise -/
def spOf (n : Nat) (g : Sem) : Sp := fun vs H Q E => vs.length = n ∧ ∃ ω ws, ω.Ok G H ∧ RepWs G ω ws vs ∧ PostE G ω H Q E (g ws ω.S)
end

section
variable {G : RC} {ω ω1 ω2 : Wd} {H H1 H2 : Hp} {σ : St} {env : Env} {Wx : WX}
theorem EnvR.mono (a : Le ω H ω1 H1) (h : EnvR G ω env σ) : EnvR G ω1 env σ :=
  ⟨h.1, fun i w e => let ⟨v, h1, h2⟩ := h.2 i w e; ⟨v, h1, h2.mono a⟩⟩
theorem EnvR.set {i : Nat} {w : W} {v : V} (h : EnvR G ω env σ) (r : RepW G ω w v) : EnvR G ω (env.set i (some w)) (σ.set i (some v)) := by
  refine ⟨by simp [h.1], fun j w' e => ?_⟩
  by_cases hj : i = j
  · subst hj
    by_cases hi : i < env.length
    · rw [List.getElem?_set_self hi] at e
      rw [List.getElem?_set_self (by rw [← h.1]; exact hi)]
      cases e; exact ⟨v, rfl, r⟩
    · rw [List.getElem?_eq_none (by simpa using hi)] at e; cases e
  · rw [List.getElem?_set_ne hj] at e ⊢
    exact h.2 j w' e
theorem EnvR.setNone {i : Nat} (h : EnvR G ω env σ) : EnvR G ω (env.set i none) (σ.set i none) := by
  refine ⟨by simp [h.1], fun j w' e => ?_⟩
  by_cases hj : i = j
  · subst hj
    by_cases hi : i < env.length
    · rw [List.getElem?_set_self hi] at e; cases e
    · rw [List.getElem?_eq_none (by simpa using hi)] at e; cases e
  · rw [List.getElem?_set_ne hj] at e ⊢
    exact h.2 j w' e
theorem RepRW.after (a : Le ω H ω1 H1) {ω' : Wd} {H' : Hp} {w : RW} {v : V} (h : RepRW G ω' H1 H' w v) : RepRW G ω' H H' w v := by
  cases w with
  | d x => exact h
  | loc n => exact h
  | own c =>
    obtain ⟨p, h1, h2, h3⟩ := h
    exact ⟨p, h1, a.dom p h2, h3⟩
theorem Post.step {α β : Type} {R R' : Wd → Hp → α → β → Prop} {Q : β → Hp → Prop} {E : XK} {r : Res α} (a : Le ω H ω1 H1) (hR : ∀ ω' H' x b, R' ω' H' x b → R ω' H' x b)
    (h : Post G R ω H Q E r) : Post G R' ω1 H1 Q E r := by
  cases r with
  | ok x S' => exact fun ω' H' b e le ok rr => h ω' H' b e (a.trans le) ok (hR _ _ _ _ rr)
  | err e S' => exact fun ω' H' cls d e le ok rr => h ω' H' cls d e (a.trans le) ok rr
  | stuck => exact h
theorem PostE.step {Q : VK} {E : XK} {r : Res RW} (a : Le ω H ω1 H1) (h : PostE G ω H Q E r) : PostE G ω1 H1 Q E r :=
  Post.step a (fun _ _ _ _ rr => RepRW.after a rr) h
theorem Post.same {α β : Type} {R : Wd → Hp → α → β → Prop} {Q : β → Hp → Prop} {E : XK} {r : Res α} (a : Le ω H ω1 H1) (h : Post G R ω H Q E r) : Post G R ω1 H1 Q E r :=
  Post.step a (fun _ _ _ _ rr => rr) h
/-- an expression first, then the rest -/
theorem bindE {α β : Type} {R : Wd → Hp → α → β → Prop} {Q : β → Hp → Prop} {E : XK} {f : ES} {k : RW → M α} (ok : ω.Ok G H) (er : EnvR G ω env σ)
    (h : Post G R ω H Q (fun c d H' => Wx c d σ H') ((f env).bind k ω.S)) :
    tE G Wx f σ H (fun v H1 => ∃ ω1 w, Le ω H ω1 H1 ∧ ω1.Ok G H1 ∧ RepRW G ω1 H H1 w v ∧ EnvR G ω1 env σ ∧ Post G R ω H Q (fun c d H' => Wx c d σ H') (k w ω1.S)) := by
  refine ⟨ω, env, ok, er, ?_⟩
  unfold M.bind at h
  cases e : f env ω.S with
  | ok w S' =>
    rw [e] at h
    intro ω' H' v e1 le ok' r
    exact ⟨ω', w, le, ok', r, er.mono le, by rw [e1]; exact h⟩
  | err x S' =>
    rw [e] at h
    exact h
  | stuck => rw [e] at h; exact h
/-- .. its value kept -/
theorem bindW {α β : Type} {R : Wd → Hp → α → β → Prop} {Q : β → Hp → Prop} {f : ES} {k : RW → M α} (ok : ω.Ok G H) (er : EnvR G ω env σ)
    (h : Post G R ω H Q (fun c d H' => Wx c d σ H') ((f env).bind k ω.S)) :
    tE G Wx f σ H (fun v H1 => ∃ ω1 w, Le ω H ω1 H1 ∧ ω1.Ok G H1 ∧ RepW G ω1 w.toW v ∧ EnvR G ω1 env σ ∧ Post G R ω H Q (fun c d H' => Wx c d σ H') (k w ω1.S)) := by
  obtain ⟨ω0, env0, a1, a2, a3⟩ := bindE (E := fun c d H' => Wx c d σ H') ok er h
  refine ⟨ω0, env0, a1, a2, ?_⟩
  cases e : f env0 ω0.S with
  | ok w S' =>
    rw [e] at a3
    intro ω' H' v e1 le ok' r
    obtain ⟨ω1, w1, le1, ok1, r1, er1, p1⟩ := a3 ω' H' v e1 le ok' r
    obtain ⟨ω2, b1, b2, b3, b4⟩ := keep_rw ok1 le1 r1
    exact ⟨ω2, w1, b2, b3, b4, er.mono b2, by rw [b1]; exact p1⟩
  | err x S' => rw [e] at a3; exact a3
  | stuck => rw [e] at a3; exact a3
theorem bindB {α β : Type} {R : Wd → Hp → α → β → Prop} {Q : β → Hp → Prop} {f : BS} {k : Bool → M α} (ok : ω.Ok G H) (er : EnvR G ω env σ)
    (h : Post G R ω H Q (fun c d H' => Wx c d σ H') ((f env).bind k ω.S)) :
    tB G Wx f σ H (fun b H1 => ∃ ω1, Le ω H ω1 H1 ∧ ω1.Ok G H1 ∧ EnvR G ω1 env σ ∧ Post G R ω H Q (fun c d H' => Wx c d σ H') (k b ω1.S)) := by
  refine ⟨ω, env, ok, er, ?_⟩
  unfold M.bind at h
  cases e : f env ω.S with
  | ok w S' =>
    rw [e] at h
    intro ω' H' b e1 le ok' r
    subst r
    exact ⟨ω', le, ok', er.mono le, by rw [e1]; exact h⟩
  | err x S' => rw [e] at h; exact h
  | stuck => rw [e] at h; exact h
theorem bindA {α β : Type} {R : Wd → Hp → α → β → Prop} {Q : β → Hp → Prop} {f : AS} {k : List W → M α} (ok : ω.Ok G H) (er : EnvR G ω env σ)
    (h : Post G R ω H Q (fun c d H' => Wx c d σ H') ((f env).bind k ω.S)) :
    tA G Wx f σ H (fun vs H1 => ∃ ω1 ws, Le ω H ω1 H1 ∧ ω1.Ok G H1 ∧ RepWs G ω1 ws vs ∧ EnvR G ω1 env σ ∧ Post G R ω H Q (fun c d H' => Wx c d σ H') (k ws ω1.S)) := by
  refine ⟨ω, env, ok, er, ?_⟩
  unfold M.bind at h
  cases e : f env ω.S with
  | ok ws S' =>
    rw [e] at h
    intro ω' H' vs e1 le ok' r
    exact ⟨ω', ws, le, ok', r, er.mono le, by rw [e1]; exact h⟩
  | err x S' => rw [e] at h; exact h
  | stuck => rw [e] at h; exact h
/-- an end that is reached: the value as it stands -/
theorem Post.at {α β : Type} {R : Wd → Hp → α → β → Prop} {Q : β → Hp → Prop} {E : XK} {a : α} {b : β} {S' : Store} (h : Post G R ω H Q E (.ok a S')) (le : Le ω H ω1 H1) (ok : ω1.Ok G H1) (e : ω1.S = S')
    (r : R ω1 H1 a b) : Q b H1 := h ω1 H1 b e le ok r
/-- an operation on kept values -/
theorem prim_of {p : Prim} {ws : List W} {vs : List V} {Q : VK} {E : XK} (ok : ω1.Ok G H1) (le : Le ω H ω1 H1) (r : RepWs G ω1 ws vs) (h : PostE G ω H Q E (liftP p ws ω1.S)) : tP G p vs H1 Q := by
  refine ⟨ω1, ws, ok, r, ?_⟩
  have h' := h.step le
  unfold liftP at h' ⊢
  cases e : p ws ω1.S with
  | none => rw [e] at h'; exact h'
  | some z => rw [e] at h'; exact h'
end

/-! ### tE is monotone in what follows -/
theorem peImp {X : Cx} {e : Expr} {t t' : TE} (h : PE X e t) (hi : ∀ σ H Q, t' σ H Q → t σ H Q) : PE X e t' := ⟨fun pins s σ H Q I hw => h.run pins s σ H Q I (hi σ H Q hw)⟩
theorem ptImp {X : Cx} {e : Expr} {t t' : TT} (h : PT X e t) (hi : ∀ σ H Q, t' σ H Q → t σ H Q) : PT X e t' := ⟨fun pins s σ H Q I hw => h.run pins s σ H Q I (hi σ H Q hw)⟩
theorem paImp {X : Cx} {e : List Expr} {t t' : TA} (h : PA X e t) (hi : ∀ σ H Q, t' σ H Q → t σ H Q) : PA X e t' := ⟨fun pos pins s σ H Q I hw => h.run pos pins s σ H Q I (hi σ H Q hw)⟩
theorem psImp {X : Cx} {e : Stmt} {t t' : TS} (h : PS X e t) (hi : ∀ D σ H, t' D σ H → t D σ H) : PS X e t' := ⟨fun pins s σ H D I hw => h.run pins s σ H D I (hi D σ H hw)⟩
theorem pssImp {X : Cx} {e : List Stmt} {t t' : TS} (h : PSs X e t) (hi : ∀ D σ H, t' D σ H → t D σ H) : PSs X e t' := ⟨fun pins s σ H D I hw => h.run pins s σ H D I (hi D σ H hw)⟩
end Dn

set_option Elab.async false
set_option linter.all false
set_option maxRecDepth 100000
set_option maxHeartbeats 2000000
/-! # Dn, part 3: what is seen of a value now; new objects; operations on data -/
namespace Dn
open PySem PySem.Spec L2

/-- a name's content as data, as it stands -/
def view (S : Store) : W → Option D
  | .d x => some x
  | .loc n => match S[n]? with
    | some c => if c.live = true then some c.toD else none
    | none => none
def Now (G : RC) (ω : Wd) (H : Hp) : D → V → Prop
  | .lst xs, v => ∃ a ws, v = .ref a ∧ H a = some (.lst ws) ∧ Reps G ω.F xs ws
  | .ins C ks vs, v => ∃ a dx ws, v = .ref a ∧ H a = some (.ins (G.ca.f C) dx (ks.zip ws)) ∧ Reps G ω.F vs ws
  | .dic lk ks vs, v => ∃ a ws, v = .ref a ∧ DAt H lk a (ks.zip ws) ∧ ks.length = vs.length ∧ Reps G ω.F vs ws
  | d, v => Rep G ω.F d v
section
variable {G : RC} {ω ω1 : Wd} {H H1 : Hp}
theorem now_of_rep (ok : ω.Ok G H) : ∀ {d : D} {v : V}, Rep G ω.F d v → Now G ω H d v
  | .non, _, h => h
  | .bl _, _, h => h
  | .int _, _, h => h
  | .str _, _, h => h
  | .tup _, _, h => h
  | .scr _, _, h => h
  | .exn _ _ _, _, h => h
  | .lst xs, _, h => by
    unfold Rep at h
    obtain ⟨a, ws, h1, h2, h3⟩ := h
    exact ⟨a, ws, h1, ok.sub _ _ h2, h3⟩
  | .ins C ks vs, _, h => by
    unfold Rep at h
    obtain ⟨a, dx, ws, h1, h2, h3⟩ := h
    exact ⟨a, dx, ws, h1, ok.sub _ _ h2, h3⟩
  | .dic lk ks vs, _, h => by
    unfold Rep at h
    obtain ⟨a, ws, h1, h2, h3⟩ := h
    exact ⟨a, ws, h1, ok.sub.dAt h2, h3⟩
theorem now_of (ok : ω.Ok G H) {w : W} {v : V} {d : D} (r : RepW G ω w v) (e : view ω.S w = some d) : Now G ω H d v := by
  cases w with
  | d x =>
    have e : some x = some d := e
    cases e
    exact now_of_rep ok r
  | loc n =>
    obtain ⟨a, rfl, hm⟩ := r
    unfold view at e
    cases hs : ω.S[n]? with
    | none => simp only [hs] at e; cases e
    | some c =>
      simp only [hs] at e
      split at e
      · rename_i hl
        cases e
        obtain ⟨_, q⟩ := ok.cell n c a hs hl hm
        cases c with
        | lst xs => obtain ⟨ws, h1, h2⟩ := q; exact ⟨a, ws, rfl, h1, h2⟩
        | ins C ks vs => obtain ⟨dx, ws, h1, h2⟩ := q; exact ⟨a, dx, ws, rfl, h1, h2⟩
        | dic ks vs => obtain ⟨ws, h1, h2⟩ := q; exact ⟨a, ws, rfl, .inl ⟨rfl, h1⟩, h2⟩
        | dead => cases hl
      · cases e

/-- an object laid at a fresh place -/
theorem Live.ne (ok : ω.Ok G H) {a p : Addr} (h : Live ω a) (hp : H p = none) : a ≠ p := by
  obtain ⟨n, c, h1, h2, h3⟩ := h
  intro z; subst z
  obtain ⟨_, q⟩ := ok.cell n c a h1 h2 h3
  obtain ⟨o, e⟩ := q.some
  rw [hp] at e; cases e
theorem Sub.fresh (s : Sub ω.F H) {p : Addr} (hp : H p = none) : ω.F p = none := by
  cases e : ω.F p with
  | none => rfl
  | some o => rw [s _ _ e] at hp; cases hp
theorem Wd.Ok.laid (ok : ω.Ok G H) {p : Addr} {o : HO} (hp : H p = none) : ω.Ok G (upd H p o) :=
  ⟨fun a u h => by rw [upd_ne (by intro z; subst z; rw [Sub.fresh ok.sub hp] at h; cases h)]; exact ok.sub a u h, ok.len,
   fun n c a h1 h2 h3 => by
    obtain ⟨z1, z2⟩ := ok.cell n c a h1 h2 h3
    exact ⟨z1, z2.at fun u hu => by rw [upd_ne (Live.ne ok ⟨n, c, h1, h2, h3⟩ hp)]; exact hu⟩, ok.inj⟩
theorem Le.laid (ok : ω.Ok G H) {p : Addr} {o : HO} (hp : H p = none) : Le ω H ω (upd H p o) :=
  ⟨Sub.refl _, List.prefix_refl _, fun a u h _ => by rw [upd_ne (ne_of_none h hp)]; exact h, fun n c a hn _ _ ha => absurd (List.getElem?_eq_some_iff.mp ha).1 (by omega),
   fun n c' _ h1 h2 => ⟨c', h1, h2⟩, fun _ _ h => .inl h, fun a h => by
    by_cases e : a = p
    · subst e; rw [upd_same] at h; cases h
    · rw [upd_ne e] at h; exact h⟩
/-- .. it belongs to nobody -/
theorem own_new (ok : ω.Ok G H) {p : Addr} {o : HO} {c : Cell} (hp : H p = none) (hc : CellAt G ω.F (upd H p o) p c) : RepRW G ω H (upd H p o) (.own c) (.ref p) :=
  ⟨p, rfl, hp, Sub.fresh ok.sub hp, fun l => Live.ne ok l hp rfl, hc⟩
/-- .. it is frozen at once -/
theorem froz_ok (ok : ω.Ok G H) {p : Addr} {o : HO} (hp : H p = none) : (freezeAt ω p o).Ok G (upd H p o) ∧ Le ω H (freezeAt ω p o) (upd H p o) ∧ Sub ω.F (freezeAt ω p o).F ∧ (freezeAt ω p o).F p = some o := by
  have hf := Sub.fresh ok.sub hp
  have sb : Sub ω.F (upd ω.F p o) := fun x u h => by rw [upd_ne (by intro z; rw [z, hf] at h; cases h)]; exact h
  refine ⟨⟨fun a u h => ?_, ok.len, fun n c a h1 h2 h3 => ?_, ok.inj⟩, ⟨sb, List.prefix_refl _, (Le.laid ok hp).frame, (Le.laid (o := o) ok hp).newl, (Le.laid (o := o) ok hp).old, fun a u h => ?_, (Le.laid ok hp).dom⟩, sb, upd_same⟩
  · have h : upd ω.F p o a = some u := h
    by_cases e : a = p
    · subst e; rw [upd_same] at h ⊢; exact h
    · rw [upd_ne e] at h ⊢; exact ok.sub a u h
  · obtain ⟨z1, z2⟩ := ok.cell n c a h1 h2 h3
    have hne := Live.ne ok ⟨n, c, h1, h2, h3⟩ hp
    refine ⟨?_, (z2.mono sb).at fun u hu => by rw [upd_ne hne]; exact hu⟩
    show upd ω.F p o a = none
    rw [upd_ne hne]; exact z1
  · have h : upd ω.F p o a = some u := h
    by_cases e : a = p
    · subst e; exact .inr (.inl hp)
    · rw [upd_ne e] at h; exact .inl h
theorem end_own {Q : VK} {E : XK} {p : Addr} {o : HO} {c : Cell} (ok : ω.Ok G H) (h : PostE G ω H Q E (.ok (.own c) ω.S)) (hp : H p = none) (hc : CellAt G ω.F (upd H p o) p c) : Q (.ref p) (upd H p o) :=
  h ω (upd H p o) _ rfl (Le.laid ok hp) (ok.laid hp) (own_new ok hp hc)
theorem end_lst {Q : VK} {E : XK} {p : Addr} {ds : List D} {ws : List V} (ok : ω.Ok G H) (h : PostE G ω H Q E (.ok (.own (.lst ds)) ω.S)) (r : Reps G ω.F ds ws) (hp : H p = none) : Q (.ref p) (upd H p (.lst ws)) :=
  end_own ok h hp ⟨ws, upd_same, r⟩
theorem end_tup {Q : VK} {E : XK} {p : Addr} {ds : List D} {ws : List V} (ok : ω.Ok G H) (h : PostE G ω H Q E (.ok (.d (.tup ds)) ω.S)) (r : Reps G ω.F ds ws) (hp : H p = none) : Q (.ref p) (upd H p (.tup ws)) := by
  obtain ⟨h1, h2, h3, h4⟩ := froz_ok (o := .tup ws) ok hp
  refine h (freezeAt ω p (.tup ws)) _ _ rfl h2 h1 ?_
  show Rep G (freezeAt ω p (.tup ws)).F (.tup ds) (.ref p)
  unfold Rep
  exact ⟨p, ws, rfl, .inl (.inl h4), r.mono h3⟩
theorem end_d {Q : VK} {E : XK} {d : D} {v : V} (ok : ω.Ok G H) (h : PostE G ω H Q E (.ok (.d d) ω.S)) (r : Rep G ω.F d v) : Q v H :=
  h ω H v rfl (Le.refl _ _ ok) ok r
theorem end_w {Q : VK} {E : XK} {w : W} {v : V} (ok : ω.Ok G H) (h : PostE G ω H Q E (.ok (match w with | .d x => RW.d x | .loc n => RW.loc n) ω.S)) (r : RepW G ω w v) : Q v H := by
  cases w with
  | d x => exact h ω H v rfl (Le.refl _ _ ok) ok r
  | loc n => exact h ω H v rfl (Le.refl _ _ ok) ok r
end

/-! ### equality -/
mutual
def deq : D → D → Bool
  | .non, .non => true
  | .bl a, .bl b => a == b
  | .bl a, .int j => (if a then 1 else 0) == j
  | .int i, .bl b => i == (if b then 1 else 0)
  | .int i, .int j => i == j
  | .str x, .str y => x == y
  | .lst xs, .lst ys => deqs xs ys
  | .tup xs, .tup ys => deqs xs ys
  | _, _ => false
def deqs : List D → List D → Bool
  | [], [] => true
  | x :: xs, y :: ys => deq x y && deqs xs ys
  | _, _ => false
end
/-- plain values at most n deep -/
def shal : Nat → D → Bool
  | _, .non => true
  | _, .bl _ => true
  | _, .int _ => true
  | _, .str _ => true
  | n + 1, .tup xs => xs.all (shal n)
  | n + 1, .lst xs => xs.all (shal n)
  | _, _ => false
mutual
def toPy : D → PyData
  | .non => .none
  | .bl b => .bool b
  | .int i => .int i
  | .str s => .str s
  | .tup xs => .tuple (toPys xs)
  | .lst xs => .list (toPys xs)
  | .ins _ _ _ => .none
  | .dic _ _ _ => .none
  | .scr _ => .none
  | .exn _ _ _ => .none
def toPys : List D → List PyData
  | [] => []
  | x :: xs => toPy x :: toPys xs
end
theorem toPys_map : ∀ xs : List D, toPys xs = xs.map toPy
  | [] => by simp [toPys]
  | x :: xs => by simp [toPys, toPys_map xs]
theorem deqs_eqv {n : Nat} (ih : ∀ d e, shal n d = true → shal n e = true → PyData.eqv (toPy d) (toPy e) = deq d e) : ∀ xs ys : List D, xs.all (shal n) = true → ys.all (shal n) = true → PyData.eqvAll (toPys xs) (toPys ys) = deqs xs ys
  | [], [], _, _ => by simp [toPys, PyData.eqvAll, deqs]
  | [], y :: ys, _, _ => by simp [toPys, PyData.eqvAll, deqs]
  | x :: xs, [], _, _ => by simp [toPys, PyData.eqvAll, deqs]
  | x :: xs, y :: ys, hx, hy => by
    rw [List.all_cons, Bool.and_eq_true] at hx hy
    simp only [toPys, PyData.eqvAll, deqs]
    rw [ih x y hx.1 hy.1, deqs_eqv ih xs ys hx.2 hy.2]
theorem deq_eqv : ∀ (n : Nat) (d e : D), shal n d = true → shal n e = true → PyData.eqv (toPy d) (toPy e) = deq d e := by
  intro n
  induction n with
  | zero =>
    intro d e hd he
    cases d <;> first | (simp [shal] at hd; done) | skip
    all_goals (cases e <;> first | (simp [shal] at he; done) | simp [toPy, PyData.eqv, deq])
  | succ n ih =>
    intro d e hd he
    cases d <;> first | (simp [shal] at hd; done) | skip
    all_goals (cases e <;> first | (simp [shal] at he; done) | skip)
    all_goals first
      | (simp [toPy, PyData.eqv, deq]; done)
      | skip
    all_goals
      simp only [toPy, PyData.eqv, deq]
      exact deqs_eqv ih _ _ (by simpa only [shal] using hd) (by simpa only [shal] using he)
theorem dep_le : ∀ (n : Nat) (d : D), shal n d = true → (toPy d).depth ≤ n := by
  intro n
  induction n with
  | zero => intro d hd; cases d <;> first | (simp [shal] at hd; done) | simp [toPy, PyData.depth]
  | succ n ih =>
    have all : ∀ xs : List D, xs.all (shal n) = true → PyData.depthAll (toPys xs) ≤ n := by
      intro xs
      induction xs with
      | nil => intro _; simp [toPys, PyData.depthAll]
      | cons x xs ihx =>
        intro h
        rw [List.all_cons, Bool.and_eq_true] at h
        simp only [toPys, PyData.depthAll]
        exact Nat.max_le.mpr ⟨ih x h.1, ihx h.2⟩
    intro d hd
    cases d <;> first | (simp [shal] at hd; done) | (simp [toPy, PyData.depth]; done) | skip
    all_goals
      simp only [toPy, PyData.depth]
      have := all _ (by simpa only [shal] using hd)
      omega
section
variable {G : RC} {ω ω1 : Wd} {H H1 : Hp}
mutual
theorem lay_of {F : Hp} : ∀ (n : Nat) (d : D) (v : V), shal n d = true → Rep G F d v → (toPy d).canLay0 = true
  | _, .non, _, _, _ => by simp [toPy, PyData.canLay0]
  | _, .bl _, _, _, _ => by simp [toPy, PyData.canLay0]
  | _, .int _, _, _, _ => by simp [toPy, PyData.canLay0]
  | _, .str s, v, _, h => by
    unfold Rep at h
    simp only [toPy, PyData.canLay0]
    exact h.2.1
  | n + 1, .tup xs, v, hs, h => by
    unfold Rep at h
    obtain ⟨a, ws, _, _, h3⟩ := h
    simp only [toPy, PyData.canLay0]
    exact lays_of n xs ws (by simpa only [shal] using hs) h3
  | n + 1, .lst xs, v, hs, h => by
    unfold Rep at h
    obtain ⟨a, ws, _, _, h3⟩ := h
    simp only [toPy, PyData.canLay0]
    exact lays_of n xs ws (by simpa only [shal] using hs) h3
  | 0, .tup _, _, hs, _ => by simp [shal] at hs
  | 0, .lst _, _, hs, _ => by simp [shal] at hs
  | n, .ins _ _ _, _, hs, _ => by cases n <;> simp [shal] at hs
  | n, .dic _ _ _, _, hs, _ => by cases n <;> simp [shal] at hs
  | n, .scr _, _, hs, _ => by cases n <;> simp [shal] at hs
  | n, .exn _ _ _, _, hs, _ => by cases n <;> simp [shal] at hs
theorem lays_of {F : Hp} : ∀ (n : Nat) (ds : List D) (vs : List V), ds.all (shal n) = true → Reps G F ds vs → PyData.canLayAll0 (toPys ds) = true
  | _, [], _, _, _ => by simp [toPys, PyData.canLayAll0]
  | n, d :: ds, _, hs, h => by
    obtain ⟨v, vs, _, h1, h2⟩ := h.inv_cons
    rw [List.all_cons, Bool.and_eq_true] at hs
    simp only [toPys, PyData.canLayAll0, Bool.and_eq_true]
    exact ⟨lay_of n d v hs.1 h1, lays_of n ds vs hs.2 h2⟩
end
mutual
theorem dp_of {F : Hp} : ∀ (n : Nat) (d : D) (v : V), shal n d = true → Rep G F d v → Dp G.K F v (toPy d)
  | _, .non, _, _, h => by unfold Rep at h; subst h; simp only [toPy]; exact .non
  | _, .bl _, _, _, h => by unfold Rep at h; subst h; simp only [toPy]; exact .bl _
  | _, .int _, _, _, h => by unfold Rep at h; subst h; simp only [toPy]; exact .int _
  | _, .str s, v, _, h => by unfold Rep at h; obtain ⟨rfl, _⟩ := h; simp only [toPy]; exact .str _
  | n + 1, .tup xs, v, hs, h => by
    unfold Rep at h
    obtain ⟨a, ws, rfl, h2, h3⟩ := h
    simp only [toPy]
    exact .tup h2 (dps_of n xs ws (by simpa only [shal] using hs) h3)
  | n + 1, .lst xs, v, hs, h => by
    unfold Rep at h
    obtain ⟨a, ws, rfl, h2, h3⟩ := h
    simp only [toPy]
    exact .lst (.of h2) (dps_of n xs ws (by simpa only [shal] using hs) h3)
  | 0, .tup _, _, hs, _ => by simp [shal] at hs
  | 0, .lst _, _, hs, _ => by simp [shal] at hs
  | n, .ins _ _ _, _, hs, _ => by cases n <;> simp [shal] at hs
  | n, .dic _ _ _, _, hs, _ => by cases n <;> simp [shal] at hs
  | n, .scr _, _, hs, _ => by cases n <;> simp [shal] at hs
  | n, .exn _ _ _, _, hs, _ => by cases n <;> simp [shal] at hs
theorem dps_of {F : Hp} : ∀ (n : Nat) (ds : List D) (vs : List V), ds.all (shal n) = true → Reps G F ds vs → DpAll G.K F vs (toPys ds)
  | _, [], _, _, h => by unfold Reps at h; subst h; simp only [toPys]; exact .nil
  | n, d :: ds, _, hs, h => by
    obtain ⟨v, vs, rfl, h1, h2⟩ := h.inv_cons
    rw [List.all_cons, Bool.and_eq_true] at hs
    simp only [toPys]
    exact .cons (dp_of n d v hs.1 h1) (dps_of n ds vs hs.2 h2)
end
mutual
theorem dp_mono {K : PySem.W.Frag} {F F' : Hp} (e : Sub F F') : ∀ {v : V} {d : PyData}, Dp K F v d → Dp K F' v d
  | _, _, .non => .non
  | _, _, .bl b => .bl b
  | _, _, .int i => .int i
  | _, _, .str x => .str x
  | _, _, .lst h t => .lst (e.sqL h) (dps_mono e t)
  | _, _, .tup h t => .tup (e.sqT h) (dps_mono e t)
theorem dps_mono {K : PySem.W.Frag} {F F' : Hp} (e : Sub F F') : ∀ {vs : List V} {ds : List PyData}, DpAll K F vs ds → DpAll K F' vs ds
  | _, _, .nil => .nil
  | _, _, .cons h t => .cons (dp_mono e h) (dps_mono e t)
end
/-- data seen now, for == and in -/
theorem dp_now (ok : ω.Ok G H) {n : Nat} (hn : n ≤ 60) {d : D} {v : V} (hs : shal n d = true) (h : Now G ω H d v) : Dp G.K H v (toPy d) ∧ SeqAt.shaped (toPy d) = true := by
  have hd := dep_le n d hs
  have fin : (toPy d).canLay0 = true → SeqAt.shaped (toPy d) = true := fun hl => by
    unfold SeqAt.shaped
    rw [hl, Bool.true_and, decide_eq_true_eq]
    omega
  cases d with
  | lst xs =>
    obtain ⟨a, ws, rfl, h1, h2⟩ := h
    cases n with
    | zero => simp [shal] at hs
    | succ n =>
      have hs' : xs.all (shal n) = true := by simpa only [shal] using hs
      refine ⟨?_, fin ?_⟩
      · simp only [toPy]
        exact .lst (.of h1) (dps_mono ok.sub (dps_of n xs ws hs' h2))
      · simp only [toPy, PyData.canLay0]
        exact lays_of n xs ws hs' h2
  | ins C ks vs => cases n <;> simp [shal] at hs
  | dic lk ks vs => cases n <;> simp [shal] at hs
  | scr ns => cases n <;> simp [shal] at hs
  | exn _ _ _ => cases n <;> simp [shal] at hs
  | non => exact ⟨dp_mono ok.sub (dp_of (G := G) n _ _ hs h), fin (lay_of (G := G) (F := ω.F) n _ _ hs h)⟩
  | bl _ => exact ⟨dp_mono ok.sub (dp_of (G := G) n _ _ hs h), fin (lay_of (G := G) (F := ω.F) n _ _ hs h)⟩
  | int _ => exact ⟨dp_mono ok.sub (dp_of (G := G) n _ _ hs h), fin (lay_of (G := G) (F := ω.F) n _ _ hs h)⟩
  | str _ => exact ⟨dp_mono ok.sub (dp_of (G := G) n _ _ hs h), fin (lay_of (G := G) (F := ω.F) n _ _ hs h)⟩
  | tup _ => exact ⟨dp_mono ok.sub (dp_of (G := G) n _ _ hs h), fin (lay_of (G := G) (F := ω.F) n _ _ hs h)⟩
end
end Dn

set_option Elab.async false
set_option linter.all false
set_option maxRecDepth 100000
set_option maxHeartbeats 2000000
/-! # Dn, part 4: operators, comparisons, built-ins on data -/
namespace Dn
open PySem PySem.Spec L2

/-- an operation on data as they stand; it changes nothing -/
abbrev DPrim := List D → Option RW
def viewAll (S : Store) : List W → Option (List D)
  | [] => some []
  | w :: ws => match view S w, viewAll S ws with
    | some d, some ds => some (d :: ds)
    | _, _ => none
def liftD (q : DPrim) : Prim := fun ws S => match viewAll S ws with
  | some ds => (q ds).map fun r => (r, S)
  | none => none
def Nows (G : RC) (ω : Wd) (H : Hp) : List D → List V → Prop
  | [], vs => vs = []
  | d :: ds, vs => ∃ u us, vs = u :: us ∧ Now G ω H d u ∧ Nows G ω H ds us
section
variable {G : RC} {ω ω1 : Wd} {H H1 : Hp}
theorem nows_of (ok : ω.Ok G H) : ∀ {ws : List W} {vs : List V} {ds : List D}, RepWs G ω ws vs → viewAll ω.S ws = some ds → Nows G ω H ds vs
  | [], _, ds, h, e => by
    simp only [viewAll, Option.some.injEq] at e
    subst e
    exact h
  | w :: ws, _, ds, ⟨u, us, rfl, h1, h2⟩, e => by
    simp only [viewAll] at e
    cases e1 : view ω.S w with
    | none => simp [e1] at e
    | some d =>
      cases e2 : viewAll ω.S ws with
      | none => simp [e1, e2] at e
      | some es =>
        simp only [e1, e2, Option.some.injEq] at e
        subst e
        exact ⟨u, us, rfl, now_of ok h1 e1, nows_of ok h2 e2⟩
/-- what a data operation's rule has to show: for each answer, the model's own reading r -/
theorem liftD_ok {q : DPrim} {r : List V → Hp → VK → Prop} (rule : ∀ (ω : Wd) (H : Hp) (ds : List D) (vs : List V) (a : RW) (Q : VK), ω.Ok G H → Nows G ω H ds vs → q ds = some a → PostE G ω H Q (fun _ _ _ => False) (.ok a ω.S) → r vs H Q)
    {vs : List V} {Q : VK} (h : tP G (liftD q) vs H Q) : r vs H Q := by
  obtain ⟨ω, ws, ok, rw, p⟩ := h
  unfold liftP liftD at p
  cases e : viewAll ω.S ws with
  | none => simp only [e] at p; exact p.elim
  | some ds =>
    cases e2 : q ds with
    | none => simp only [e, e2, Option.map_none] at p; exact p.elim
    | some a =>
      simp only [e, e2, Option.map_some] at p
      exact rule ω H ds vs a Q ok (nows_of ok rw e) e2 p
theorem nows1 {x : D} {vs : List V} (h : Nows G ω H [x] vs) : ∃ v, vs = [v] ∧ Now G ω H x v := by
  obtain ⟨u, us, rfl, h1, h2⟩ := h; cases h2; exact ⟨u, rfl, h1⟩
theorem nows2 {x y : D} {vs : List V} (h : Nows G ω H [x, y] vs) : ∃ v u, vs = [v, u] ∧ Now G ω H x v ∧ Now G ω H y u := by
  obtain ⟨u, us, rfl, h1, u2, us2, rfl, h3, h4⟩ := h; cases h4; exact ⟨u, u2, rfl, h1, h3⟩
/-- data as it stands, frozen or not, as what stands in the heap -/
theorem now_tup {xs : List D} {v : V} (ok : ω.Ok G H) (h : Now G ω H (.tup xs) v) : ∃ a ws, v = .ref a ∧ SqT G.K H a ws ∧ Reps G ω.F xs ws := by
  have h : Rep G ω.F (.tup xs) v := h
  unfold Rep at h
  obtain ⟨a, ws, h1, h2, h3⟩ := h
  exact ⟨a, ws, h1, ok.sub.sqT h2, h3⟩
theorem now_str {s : Str} {v : V} (h : Now G ω H (.str s) v) : v = .str s ∧ okS s := by
  have h : Rep G ω.F (.str s) v := h
  unfold Rep at h; exact h
theorem now_int {i : Int} {v : V} (h : Now G ω H (.int i) v) : v = .int i := by
  have h : Rep G ω.F (.int i) v := h
  unfold Rep at h; exact h
theorem now_bl {i : Bool} {v : V} (h : Now G ω H (.bl i) v) : v = .bl i := by
  have h : Rep G ω.F (.bl i) v := h
  unfold Rep at h; exact h
theorem now_non {v : V} (h : Now G ω H .non v) : v = .non := by
  have h : Rep G ω.F .non v := h
  unfold Rep at h; exact h
theorem rep_int {F : Hp} (i : Int) : Rep G F (.int i) (.int i) := by unfold Rep; rfl
theorem rep_bl {F : Hp} (i : Bool) : Rep G F (.bl i) (.bl i) := by unfold Rep; rfl
theorem rep_non {F : Hp} : Rep G F .non .non := by unfold Rep; rfl
theorem rep_str {F : Hp} {s : Str} (h : okS s) : Rep G F (.str s) (.str s) := by unfold Rep; exact ⟨rfl, h⟩
end
/-- an operator's rule -/
def OpD (X : Cx) (ca : CA) (f : Value → Value → PySem.Sem Value) (q : DPrim) : Prop := OpR X f (fun x y H Q => tP ⟨X.K, ca⟩ (liftD q) [x, y] H Q)
theorem opD_of {X : Cx} {ca : CA} {f : Value → Value → PySem.Sem Value} {q : DPrim} {r : R2} (h : OpR X f r)
    (rule : ∀ (ω : Wd) (H : Hp) (x y : D) (v u : V) (a : RW) (Q : VK), ω.Ok ⟨X.K, ca⟩ H → Now ⟨X.K, ca⟩ ω H x v → Now ⟨X.K, ca⟩ ω H y u → q [x, y] = some a → PostE ⟨X.K, ca⟩ ω H Q (fun _ _ _ => False) (.ok a ω.S) → r v u H Q) : OpD X ca f q := by
  intro pins s σ H x y v u Q I rx ry hp
  refine h pins s σ H x y v u Q I rx ry ?_
  refine liftD_ok (G := ⟨X.K, ca⟩) (r := fun vs H Q => ∀ x y, vs = [x, y] → r x y H Q) (fun ω H ds vs a Q ok n e p => ?_) hp x y rfl
  rintro x y rfl
  match ds, n, e with
  | [d1, d2], n, e =>
    obtain ⟨v, u, e2, n1, n2⟩ := nows2 n
    simp only [List.cons.injEq, and_true] at e2
    obtain ⟨rfl, rfl⟩ := e2
    exact rule ω H d1 d2 _ _ a Q ok n1 n2 e p
  | [], n, _ => simp [Nows] at n
  | [d1], n, _ => simp [Nows] at n
  | d1 :: d2 :: d3 :: r, n, _ =>
    obtain ⟨_, _, e1, _, _, _, rfl, _, _, _, rfl, _⟩ := n
    simp at e1
/-- a built-in's rule -/
def CallD (X : Cx) (ca : CA) (f : Value) (q : DPrim) : Prop := CallR X f (tP ⟨X.K, ca⟩ (liftD q))
theorem callD_of {X : Cx} {ca : CA} {f : Value} {q : DPrim} {r : List V → Hp → VK → Prop} (h : CallR X f r)
    (rule : ∀ (ω : Wd) (H : Hp) (ds : List D) (vs : List V) (a : RW) (Q : VK), ω.Ok ⟨X.K, ca⟩ H → Nows ⟨X.K, ca⟩ ω H ds vs → q ds = some a → PostE ⟨X.K, ca⟩ ω H Q (fun _ _ _ => False) (.ok a ω.S) → r vs H Q) : CallD X ca f q := by
  intro pins s σ H xs us Q I r hp
  exact h pins s σ H xs us Q I r (liftD_ok (G := ⟨X.K, ca⟩) rule hp)

/-! ### texts: what is kept -/
theorem okS_append {a b : Str} (h1 : okS a) (h2 : okS b) (h : a.length + b.length ≤ sizeLine) : okS (a ++ b) := by
  refine ⟨?_, ?_⟩
  · show (a.cps ++ b.cps).all _ = true
    rw [Array.all_append, h1.1, h2.1]; rfl
  · show (a.cps ++ b.cps).size ≤ _
    rw [Array.size_append]; exact h
theorem okS_sub {a b : Str} (h : okS a) (hl : b.length ≤ a.length) (hm : ∀ c ∈ b.cps, c ∈ a.cps) : okS b := by
  refine ⟨?_, Nat.le_trans hl h.2⟩
  rw [Array.all_eq_true_iff_forall_mem]
  intro c hc
  exact (Array.all_eq_true_iff_forall_mem.mp h.1) c (hm c hc)
theorem okS_cut {z : Str} (h : okS z) (lo hi : Option Int) : okS (cutS z lo hi) :=
  okS_sub h (cutS_length z lo hi) fun c hc => by
    unfold cutS at hc
    have := List.mem_of_mem_drop (List.mem_of_mem_take (List.mem_toArray.mp hc))
    exact Array.mem_toList_iff.mp this
theorem okS_sign {z : Str} (h : okS z) {c : Nat} (hc : c ∈ z.cps) : okS ⟨#[c]⟩ :=
  okS_sub h (by
    show (1 : Nat) ≤ z.cps.size
    obtain ⟨i, hi, _⟩ := Array.getElem_of_mem hc
    omega) fun d hd => by simp at hd; subst hd; exact hc
/-- a written text -/
def okB (s : Str) : Bool := s.cps.all (· < 0x110000) && decide (s.length ≤ sizeLine)
theorem okS_of {s : Str} (h : okB s = true) : okS s := by
  unfold okB at h
  rw [Bool.and_eq_true, decide_eq_true_eq] at h
  exact h

/-! ### operators -/
inductive BO where
  | add | sub | mul | fdiv | mod | pow
  deriving DecidableEq
def BO.op : BO → Operator
  | .add => .Add | .sub => .Sub | .mul => .Mult | .fdiv => .FloorDiv | .mod => .Mod | .pow => .Pow
def addD : DPrim
  | [.int i, .int j] => some (.d (.int (i + j)))
  | [.str a, .str b] => if a.length + b.length ≤ sizeLine then some (.d (.str (a ++ b))) else none
  | [.lst xs, .lst ys] => if xs.length + ys.length ≤ sizeLine then some (.own (.lst (xs ++ ys))) else none
  | [.tup xs, .tup ys] => if xs.length + ys.length ≤ sizeLine then some (.d (.tup (xs ++ ys))) else none
  | _ => none
def subD : DPrim
  | [.int i, .int j] => some (.d (.int (i - j)))
  | _ => none
def mulD : DPrim
  | [.int i, .int j] => if (-(2 ^ 64) < i ∧ i < 2 ^ 64) ∨ (-(2 ^ 64) < j ∧ j < 2 ^ 64) then some (.d (.int (i * j))) else none
  | [.str a, .int k] => if 0 ≤ k ∧ k ≤ 10000 ∧ a.length ≤ 1000 then some (.d (.str (Txt.mul a k))) else none
  | [.lst xs, .int k] => if -(2 ^ 63) ≤ k ∧ k < 2 ^ 63 ∧ xs.length * k.toNat ≤ sizeLine then some (.own (.lst (List.replicate k.toNat xs).flatten)) else none
  | _ => none
def fdivD : DPrim
  | [.int i, .int j] => if 0 < j ∧ j < 1073741824 then some (.d (.int (i / j))) else none
  | _ => none
def modD : DPrim
  | [.int i, .int j] => if 0 < j then some (.d (.int (i % j))) else none
  | _ => none
def powD : DPrim
  | [.int i, .int j] => if 0 ≤ j ∧ j ≤ 1000000 ∧ i.natAbs < 2 ^ 64 then some (.d (.int (i ^ j.toNat))) else none
  | _ => none
def bopD : BO → DPrim
  | .add => addD | .sub => subD | .mul => mulD | .fdiv => fdivD | .mod => modD | .pow => powD

section
variable {X : Cx} {ca : CA}
theorem rep_flat {G : RC} {F : Hp} {xs : List D} {ws : List V} (h : Reps G F xs ws) : ∀ k : Nat, Reps G F (List.replicate k xs).flatten (List.replicate k ws).flatten
  | 0 => Reps.nil
  | k + 1 => by
    rw [List.replicate_succ, List.replicate_succ, List.flatten_cons, List.flatten_cons]
    exact Reps.append h (rep_flat h k)
theorem or_l {X : Cx} {f : Value → Value → PySem.Sem Value} {r r' : R2} (h : OpR X f r) : OpR X f r := h
theorem txt_mul_fold (x : Array Nat) : ∀ (k : Nat) (acc : Array Nat), ((List.replicate k x).foldl (· ++ ·) acc).size = acc.size + k * x.size ∧ ∀ c ∈ (List.replicate k x).foldl (· ++ ·) acc, c ∈ acc ∨ c ∈ x
  | 0, acc => ⟨by simp, fun c hc => .inl (by simpa using hc)⟩
  | k + 1, acc => by
    rw [List.replicate_succ, List.foldl_cons]
    obtain ⟨h1, h2⟩ := txt_mul_fold x k (acc ++ x)
    refine ⟨by rw [h1, Array.size_append, Nat.add_mul]; omega, fun c hc => ?_⟩
    rcases h2 c hc with h | h
    · rcases Array.mem_append.mp h with h | h
      · exact .inl h
      · exact .inr h
    · exact .inr h
theorem txt_mul_len (x : Str) (k : Int) (h0 : 0 ≤ k) : (Txt.mul x k).length = x.length * k.toNat := by
  unfold Txt.mul
  split
  · have : k = 0 := by omega
    subst this; simp [Str.empty, Str.length]
  · split
    · rename_i h
      simp only [Bool.or_eq_true, beq_iff_eq] at h
      rcases h with h | h
      · subst h; simp
      · rw [h]; simp
    · show ((List.replicate k.toNat x.cps).foldl (· ++ ·) #[]).size = _
      rw [(txt_mul_fold x.cps k.toNat #[]).1]
      simp [Str.length, Nat.mul_comm]
theorem okS_mul {x : Str} {k : Int} (h : okS x) (h0 : 0 ≤ k) (h1 : k ≤ 10000) (h2 : x.length ≤ 1000) : okS (Txt.mul x k) := by
  have hl := txt_mul_len x k h0
  refine ⟨?_, ?_⟩
  · rw [Array.all_eq_true_iff_forall_mem]
    intro c hc
    have hx := Array.all_eq_true_iff_forall_mem.mp h.1
    unfold Txt.mul at hc
    split at hc
    · simp [Str.empty] at hc
    · split at hc
      · exact hx c hc
      · rcases (txt_mul_fold x.cps k.toNat #[]).2 c hc with z | z
        · simp at z
        · exact hx c z
  · rw [hl, sizeLine_eq]
    have e1 : k.toNat ≤ 10000 := by omega
    exact Nat.le_trans (Nat.mul_le_mul h2 e1) (by decide)
theorem op_mul_str : OpR X (binaryOp .Mult) (fun x y H Q => ∃ a k, x = .str a ∧ y = .int k ∧ (0 ≤ k ∧ k ≤ 10000 ∧ a.length ≤ 1000) ∧ Q (.str (Txt.mul a k)) H) := by
  intro pins s σ H x y v u Q I rx ry h
  obtain ⟨a, k, rfl, rfl, ⟨h0, h1, h2⟩, q⟩ := h
  obtain ⟨t, rfl⟩ := rx
  obtain ⟨t', rfl⟩ := ry
  refine SB.mul ⟨?_, fun hk _ => ?_, fun _ _ => ?_⟩ fun t' k' => ⟨.str (Txt.mul a k), H, I.tok _, ⟨_, rfl⟩, q⟩
  · rw [Bool.or_eq_false_iff, decide_eq_false_iff_not, decide_eq_false_iff_not]
    constructor <;> omega
  · have hkp : 0 < k := by omega
    have e1 : (a.length : Int) ≤ 1000 := by omega
    have e2 : (1000 : Int) ≤ (2 ^ 63 - 1) / k := by
      rw [Int.le_ediv_iff_mul_le hkp]
      omega
    omega
  · have hz : a.length * k.toNat ≤ 10000000 := by
      have e1 : k.toNat ≤ 10000 := by omega
      exact Nat.mul_le_mul h2 e1
    unfold PySem.Builtin.Str.tooLong
    rw [decide_eq_false_iff_not, sizeLine_eq]
    omega
theorem op_addD : OpD X ca (binaryOp .Add) addD := by
  refine opD_of (((op_add.or op_add_str).or op_cat).or op_catA) fun ω H x y v u a Q ok n1 n2 e p => ?_
  unfold addD at e
  split at e
  · rename_i heq
    cases heq; cases e; cases (now_int n1); cases (now_int n2); exact .inl (.inl (.inl ⟨_, _, rfl, rfl, end_d ok p (rep_int _)⟩))
  · rename_i s1 s2 heq
    cases heq
    split at e <;> simp only [Option.some.injEq, reduceCtorEq] at e
    subst e
    rename_i hz
    obtain ⟨rfl, o1⟩ := now_str n1
    obtain ⟨rfl, o2⟩ := now_str n2
    exact .inl (.inl (.inr ⟨_, _, rfl, rfl, hz, end_d ok p (rep_str (okS_append o1 o2 hz))⟩))
  · rename_i xs ys heq
    cases heq
    split at e <;> simp only [Option.some.injEq, reduceCtorEq] at e
    subst e
    rename_i hz
    obtain ⟨a1, ws1, rfl, h1, r1⟩ := n1
    obtain ⟨a2, ws2, rfl, h2, r2⟩ := n2
    exact .inl (.inr ⟨a1, a2, ws1, ws2, rfl, rfl, h1, h2, by rw [r1.length, r2.length]; exact hz, fun p' hp => end_lst ok p (r1.append r2) hp⟩)
  · rename_i xs ys heq
    cases heq
    split at e <;> simp only [Option.some.injEq, reduceCtorEq] at e
    subst e
    rename_i hz
    obtain ⟨a1, ws1, rfl, h1, r1⟩ := now_tup ok n1
    obtain ⟨a2, ws2, rfl, h2, r2⟩ := now_tup ok n2
    have m1 : Rep _ ω.F _ (V.ref a1) := n1
    have m2 : Rep _ ω.F _ (V.ref a2) := n2
    refine .inr ⟨a1, a2, ws1, ws2, rfl, rfl, h1, h2, by rw [r1.length, r2.length]; exact hz, fun z => ?_, fun _ z => ?_, fun _ _ p' hp => end_tup ok p (r1.append r2) hp⟩
    · subst z
      have : xs = [] := List.eq_nil_of_length_eq_zero (r1.length.symm.trans rfl)
      subst this
      exact end_d ok p (by simpa using m2)
    · subst z
      have : ys = [] := List.eq_nil_of_length_eq_zero (r2.length.symm.trans rfl)
      subst this
      exact end_d ok p (by simpa using m1)
  · cases e
theorem op_subD : OpD X ca (binaryOp .Sub) subD := by
  refine opD_of op_sub fun ω H x y v u a Q ok n1 n2 e p => ?_
  unfold subD at e
  split at e
  · rename_i heq
    cases heq; cases e; cases (now_int n1); cases (now_int n2); exact ⟨_, _, rfl, rfl, end_d ok p (rep_int _)⟩
  · cases e
theorem op_mulD : OpD X ca (binaryOp .Mult) mulD := by
  refine opD_of ((op_mul.or op_mul_str).or op_rep) fun ω H x y v u a Q ok n1 n2 e p => ?_
  unfold mulD at e
  split at e
  · rename_i heq
    cases heq
    split at e <;> simp only [Option.some.injEq, reduceCtorEq] at e
    subst e
    rename_i hz
    cases (now_int n1); cases (now_int n2)
    exact .inl (.inl ⟨_, _, rfl, rfl, hz, end_d ok p (rep_int _)⟩)
  · rename_i s1 k heq
    cases heq
    split at e <;> simp only [Option.some.injEq, reduceCtorEq] at e
    subst e
    rename_i hz
    obtain ⟨rfl, o1⟩ := now_str n1
    cases (now_int n2)
    exact .inl (.inr ⟨_, _, rfl, rfl, hz, end_d ok p (rep_str (okS_mul o1 hz.1 hz.2.1 hz.2.2))⟩)
  · rename_i xs k heq
    cases heq
    split at e <;> simp only [Option.some.injEq, reduceCtorEq] at e
    subst e
    rename_i hz
    obtain ⟨a1, ws1, rfl, h1, r1⟩ := n1
    cases (now_int n2)
    exact .inr ⟨a1, _, ws1, rfl, rfl, h1, hz.1, hz.2.1, by rw [r1.length]; exact hz.2.2, fun p' hp => end_lst ok p (rep_flat r1 _) hp⟩
  · cases e
theorem op_fdivD : OpD X ca (binaryOp .FloorDiv) fdivD := by
  refine opD_of op_fdiv fun ω H x y v u a Q ok n1 n2 e p => ?_
  unfold fdivD at e
  split at e
  · rename_i heq
    cases heq
    split at e <;> simp only [Option.some.injEq, reduceCtorEq] at e
    subst e
    rename_i hz
    cases (now_int n1); cases (now_int n2); exact ⟨_, _, rfl, rfl, hz, end_d ok p (rep_int _)⟩
  · cases e
theorem op_modD : OpD X ca (binaryOp .Mod) modD := by
  refine opD_of op_mod fun ω H x y v u a Q ok n1 n2 e p => ?_
  unfold modD at e
  split at e
  · rename_i heq
    cases heq
    split at e <;> simp only [Option.some.injEq, reduceCtorEq] at e
    subst e
    rename_i hz
    cases (now_int n1); cases (now_int n2); exact ⟨_, _, rfl, rfl, hz, end_d ok p (rep_int _)⟩
  · cases e
theorem op_powD : OpD X ca (binaryOp .Pow) powD := by
  refine opD_of op_pow fun ω H x y v u a Q ok n1 n2 e p => ?_
  unfold powD at e
  split at e
  · rename_i heq
    cases heq
    split at e <;> simp only [Option.some.injEq, reduceCtorEq] at e
    subst e
    rename_i hz
    cases (now_int n1); cases (now_int n2); exact ⟨_, _, rfl, rfl, hz, end_d ok p (rep_int _)⟩
  · cases e
theorem op_bop (o : BO) : OpD X ca (binaryOp o.op) (bopD o) := by
  cases o with
  | add => exact op_addD
  | sub => exact op_subD
  | mul => exact op_mulD
  | fdiv => exact op_fdivD
  | mod => exact op_modD
  | pow => exact op_powD
end
end Dn

set_option Elab.async false
set_option linter.all false
set_option maxRecDepth 100000
set_option maxHeartbeats 2000000
/-! # Dn, part 5: comparisons, built-ins -/
namespace Dn
open PySem PySem.Spec L2

inductive CO where
  | eq | ne | lt | le | gt | ge | isin | notin
  deriving DecidableEq
def CO.op : CO → CmpOp
  | .eq => .Eq | .ne => .NotEq | .lt => .Lt | .le => .LtE | .gt => .Gt | .ge => .GtE | .isin => .In | .notin => .NotIn
def blD (b : Bool) : Option RW := some (.d (.bl b))
def eqD : DPrim
  | [x, y] => if (shal 6 x && shal 6 y) = true then blD (deq x y) else none
  | _ => none
def neD : DPrim
  | [x, y] => if (shal 6 x && shal 6 y) = true then blD (!deq x y) else none
  | _ => none
def sLt (a b : Str) : Bool := decide (a.cps.toList < b.cps.toList)
def ltD : DPrim
  | [.int i, .int j] => blD (decide (i < j))
  | [.str a, .str b] => blD (sLt a b)
  | _ => none
def leD : DPrim
  | [.int i, .int j] => blD (decide (i ≤ j))
  | [.str a, .str b] => blD (!sLt b a)
  | _ => none
def gtD : DPrim
  | [.int i, .int j] => blD (decide (j < i))
  | [.str a, .str b] => blD (sLt b a)
  | _ => none
def geD : DPrim
  | [.int i, .int j] => blD (decide (j ≤ i))
  | [.str a, .str b] => blD (!sLt a b)
  | _ => none
/-- a text in a text -/
def strIn (a b : Str) : Bool := match a.cps.toList with
  | [c] => decide (c ∈ b.cps.toList)
  | _ => !(Builtin.Str.occurrences b a 0 b.length 1).isEmpty
def memD (x : D) (ys : List D) : Bool := ys.any fun y => deq y x
def inB : List D → Option Bool
  | [.str a, .str b] => some (strIn a b)
  | [x, .lst ys] => if (shal 6 x && ys.all (shal 6)) = true then some (memD x ys) else none
  | [x, .tup ys] => if (shal 0 x && ys.all (shal 0)) = true then some (memD x ys) else none
  | _ => none
def inN (neg : Bool) : DPrim := fun ds => (inB ds).bind fun b => blD (if neg = true then !b else b)
def inD : DPrim := inN false
def notinD : DPrim := inN true
def cmpD : CO → DPrim
  | .eq => eqD | .ne => neD | .lt => ltD | .le => leD | .gt => gtD | .ge => geD | .isin => inD | .notin => notinD

section
variable {X : Cx} {ca : CA}
theorem toPy_shaped_eq {G : RC} {ω : Wd} {H : Hp} (ok : ω.Ok G H) {x y : D} {v u : V} (n1 : Now G ω H x v) (n2 : Now G ω H y u) (h : (shal 6 x && shal 6 y) = true) :
    Dp G.K H v (toPy x) ∧ Dp G.K H u (toPy y) ∧ SeqAt.shaped (toPy x) = true ∧ SeqAt.shaped (toPy y) = true ∧ PyData.eqv (toPy x) (toPy y) = deq x y := by
  rw [Bool.and_eq_true] at h
  obtain ⟨a1, a2⟩ := dp_now ok (by omega) h.1 n1
  obtain ⟨b1, b2⟩ := dp_now ok (by omega) h.2 n2
  exact ⟨a1, b1, a2, b2, deq_eqv 6 x y h.1 h.2⟩
theorem op_eqDD (hu : X.A.units + 64 < cLine) : OpD X ca (compareOp .Eq) eqD := by
  refine opD_of (op_eqD hu) fun ω H x y v u a Q ok n1 n2 e p => ?_
  unfold eqD blD at e
  dsimp only at e
  split at e <;> simp only [Option.some.injEq, reduceCtorEq] at e
  subst e
  rename_i hz
  obtain ⟨h1, h2, h3, h4, h5⟩ := toPy_shaped_eq ok n1 n2 hz
  refine ⟨_, _, h1, h2, h3, h4, ?_⟩
  rw [h5]
  exact end_d ok p (rep_bl _)
theorem op_neDD (hu : X.A.units + 64 < cLine) : OpD X ca (compareOp .NotEq) neD := by
  refine opD_of (op_neD hu) fun ω H x y v u a Q ok n1 n2 e p => ?_
  unfold neD blD at e
  dsimp only at e
  split at e <;> simp only [Option.some.injEq, reduceCtorEq] at e
  subst e
  rename_i hz
  obtain ⟨h1, h2, h3, h4, h5⟩ := toPy_shaped_eq ok n1 n2 hz
  refine ⟨_, _, h1, h2, h3, h4, ?_⟩
  rw [h5]
  exact end_d ok p (rep_bl _)
theorem op_ltD : OpD X ca (compareOp .Lt) ltD := by
  refine opD_of (op_lt.or op_lt_str) fun ω H x y v u a Q ok n1 n2 e p => ?_
  unfold ltD blD at e
  split at e
  · rename_i heq
    cases heq; cases e; cases (now_int n1); cases (now_int n2); exact .inl ⟨_, _, rfl, rfl, end_d ok p (rep_bl _)⟩
  · rename_i heq
    cases heq; cases e
    obtain ⟨rfl, o1⟩ := now_str n1
    obtain ⟨rfl, o2⟩ := now_str n2
    exact .inr ⟨_, _, rfl, rfl, end_d ok p (rep_bl _)⟩
  · cases e
theorem op_leD : OpD X ca (compareOp .LtE) leD := by
  refine opD_of (op_le.or op_le_str) fun ω H x y v u a Q ok n1 n2 e p => ?_
  unfold leD blD at e
  split at e
  · rename_i heq
    cases heq; cases e; cases (now_int n1); cases (now_int n2); exact .inl ⟨_, _, rfl, rfl, end_d ok p (rep_bl _)⟩
  · rename_i heq
    cases heq; cases e
    obtain ⟨rfl, o1⟩ := now_str n1
    obtain ⟨rfl, o2⟩ := now_str n2
    exact .inr ⟨_, _, rfl, rfl, end_d ok p (rep_bl _)⟩
  · cases e
theorem op_gtD : OpD X ca (compareOp .Gt) gtD := by
  refine opD_of (op_gt.or op_gt_str) fun ω H x y v u a Q ok n1 n2 e p => ?_
  unfold gtD blD at e
  split at e
  · rename_i heq
    cases heq; cases e; cases (now_int n1); cases (now_int n2); exact .inl ⟨_, _, rfl, rfl, end_d ok p (rep_bl _)⟩
  · rename_i heq
    cases heq; cases e
    obtain ⟨rfl, o1⟩ := now_str n1
    obtain ⟨rfl, o2⟩ := now_str n2
    exact .inr ⟨_, _, rfl, rfl, end_d ok p (rep_bl _)⟩
  · cases e
theorem op_geD : OpD X ca (compareOp .GtE) geD := by
  refine opD_of (op_ge.or op_ge_str) fun ω H x y v u a Q ok n1 n2 e p => ?_
  unfold geD blD at e
  split at e
  · rename_i heq
    cases heq; cases e; cases (now_int n1); cases (now_int n2); exact .inl ⟨_, _, rfl, rfl, end_d ok p (rep_bl _)⟩
  · rename_i heq
    cases heq; cases e
    obtain ⟨rfl, o1⟩ := now_str n1
    obtain ⟨rfl, o2⟩ := now_str n2
    exact .inr ⟨_, _, rfl, rfl, end_d ok p (rep_bl _)⟩
  · cases e
theorem flat_now {G : RC} {ω : Wd} {H : Hp} {d : D} {v : V} (h : shal 0 d = true) (n : Now G ω H d v) : Rep G ω.F d v := by
  cases d <;> first | (simp [shal] at h; done) | exact n
theorem flat_v {G : RC} {F : Hp} {d e : D} {v u : V} (h1 : shal 0 d = true) (h2 : shal 0 e = true) (r1 : Rep G F d v) (r2 : Rep G F e u) : flatV v = true ∧ eqV u v = deq e d := by
  cases d <;> first | (simp [shal] at h1; done) | skip
  all_goals (cases e <;> first | (simp [shal] at h2; done) | skip)
  all_goals
    unfold Rep at r1 r2
    first | (obtain ⟨rfl, _⟩ := r1) | subst r1
    first | (obtain ⟨rfl, _⟩ := r2) | subst r2
    simp [flatV, eqV, deq]
theorem flat_vs {G : RC} {F : Hp} {x : D} {v : V} (hx : shal 0 x = true) (rx : Rep G F x v) : ∀ {ys : List D} {us : List V}, ys.all (shal 0) = true → Reps G F ys us → us.all flatV = true ∧ inV v us = memD x ys
  | [], _, _, r => by unfold Reps at r; subst r; simp [inV, memD]
  | y :: ys, _, h, r => by
    obtain ⟨u, us, rfl, r1, r2⟩ := r.inv_cons
    rw [List.all_cons, Bool.and_eq_true] at h
    obtain ⟨h3, h4⟩ := flat_vs hx rx h.2 r2
    obtain ⟨f1, f2⟩ := flat_v hx h.1 rx r1
    obtain ⟨f3, _⟩ := flat_v h.1 hx r1 rx
    refine ⟨by rw [List.all_cons, f3, h3]; rfl, ?_⟩
    unfold inV memD at h4 ⊢
    rw [List.any_cons, List.any_cons, f2, h4]
theorem any_eqv {n : Nat} {x : D} (hx : shal n x = true) : ∀ {ys : List D}, ys.all (shal n) = true → ((toPys ys).any fun z => PyData.eqv z (toPy x)) = memD x ys
  | [], _ => by simp [toPys, memD]
  | y :: ys, h => by
    rw [List.all_cons, Bool.and_eq_true] at h
    have ih := any_eqv hx h.2
    unfold memD at ih ⊢
    simp only [toPys, List.any_cons]
    rw [deq_eqv n y x h.1 hx, ih]
theorem inB_ok {neg : Bool} (hu : X.A.units + 65 < cLine) (op : CmpOp) (h1 : OpR X (compareOp op) (fun x y H Q => ∃ (c : Nat) (z : Str), x = .str ⟨#[c]⟩ ∧ y = .str z ∧ Q (.bl (if neg then !decide (c ∈ z.cps.toList) else decide (c ∈ z.cps.toList))) H))
    (h2 : OpR X (compareOp op) (fun x y H Q => ∃ i j, x = .str i ∧ y = .str j ∧ Q (.bl (if neg then !(!(Builtin.Str.occurrences j i 0 j.length 1).isEmpty) else (!(Builtin.Str.occurrences j i 0 j.length 1).isEmpty))) H))
    (h3 : OpR X (compareOp op) (rIn X.K neg))
    (h4 : OpR X (compareOp op) (fun x y H Q => ∃ d ds, Dp X.K H x d ∧ Dp X.K H y (.list ds) ∧ SeqAt.shaped d = true ∧ SeqAt.shaped (.list ds) = true ∧ Q (.bl (if neg then !ds.any fun z => PyData.eqv z d else ds.any fun z => PyData.eqv z d)) H)) :
    OpD X ca (compareOp op) (inN neg) := by
  refine opD_of (((h1.or h2).or h3).or h4) fun ω H x y v u a Q ok n1 n2 e p => ?_
  obtain ⟨b, e1, e2⟩ := Option.bind_eq_some_iff.mp e
  unfold blD at e2
  cases e2
  unfold inB at e1
  split at e1
  · rename_i s1 s2 heq
    cases heq
    cases e1
    obtain ⟨rfl, o1⟩ := now_str n1
    obtain ⟨rfl, o2⟩ := now_str n2
    have hs : ∀ (l : List Nat), s1.cps.toList = l → (∃ c, l = [c] ∧ strIn s1 s2 = decide (c ∈ s2.cps.toList)) ∨ strIn s1 s2 = !(Builtin.Str.occurrences s2 s1 0 s2.length 1).isEmpty := by
      intro l hl
      unfold strIn
      rw [hl]
      match l with
      | [c] => exact .inl ⟨c, rfl, rfl⟩
      | [] => exact .inr rfl
      | c :: d :: r => exact .inr rfl
    rcases hs _ rfl with ⟨c, hc, hq⟩ | hq
    · rw [hq] at p
      refine .inl (.inl (.inl ⟨c, s2, ?_, rfl, end_d ok p (rep_bl _)⟩))
      obtain ⟨⟨cl⟩⟩ := s1
      have hc : cl = [c] := hc
      rw [hc]
    · rw [hq] at p
      exact .inl (.inl (.inr ⟨s1, s2, rfl, rfl, end_d ok p (rep_bl _)⟩))
  · rename_i heq
    simp only [List.cons.injEq, and_true] at heq
    obtain ⟨rfl, rfl⟩ := heq
    split at e1 <;> simp only [Option.some.injEq, reduceCtorEq] at e1
    subst e1
    rename_i hz
    rw [Bool.and_eq_true] at hz
    rename_i ys
    have hl : shal 7 (.lst ys) = true := by simpa only [shal] using hz.2
    obtain ⟨a1, a2⟩ := dp_now ok (by omega) hz.1 n1
    obtain ⟨b1, b2⟩ := dp_now ok (n := 7) (by omega) hl n2
    simp only [toPy] at b1 b2
    refine .inr ⟨_, _, a1, b1, a2, b2, ?_⟩
    rw [any_eqv hz.1 hz.2]
    exact end_d ok p (rep_bl _)
  · rename_i heq
    simp only [List.cons.injEq, and_true] at heq
    obtain ⟨rfl, rfl⟩ := heq
    split at e1 <;> simp only [Option.some.injEq, reduceCtorEq] at e1
    subst e1
    rename_i hz
    rw [Bool.and_eq_true] at hz
    obtain ⟨a1, ws, rfl, h5, r1⟩ := now_tup ok n2
    have r0 := flat_now hz.1 n1
    obtain ⟨f1, f2⟩ := flat_vs hz.1 r0 hz.2 r1
    refine .inl (.inr ⟨a1, ws, rfl, .inr h5, (flat_v hz.1 hz.1 r0 r0).1, f1, ?_⟩)
    rw [f2]
    exact end_d ok p (rep_bl _)
  · cases e1
theorem op_inDD (hu : X.A.units + 65 < cLine) : OpD X ca (compareOp .In) inD :=
  inB_ok (X := X) (ca := ca) (neg := false) hu .In (by exact op_in_sign) (by exact op_in_str) op_in_seq (by exact op_inD hu)
theorem op_notinDD (hu : X.A.units + 65 < cLine) : OpD X ca (compareOp .NotIn) notinD :=
  inB_ok (X := X) (ca := ca) (neg := true) hu .NotIn (by exact op_notIn_sign) (by exact op_notin_str) op_notIn_seq (by exact op_notInD hu)
theorem op_cmp (hu : X.A.units + 65 < cLine) (o : CO) : OpD X ca (compareOp o.op) (cmpD o) := by
  cases o with
  | eq => exact op_eqDD (by omega)
  | ne => exact op_neDD (by omega)
  | lt => exact op_ltD
  | le => exact op_leD
  | gt => exact op_gtD
  | ge => exact op_geD
  | isin => exact op_inDD hu
  | notin => exact op_notinDD hu
end
end Dn

set_option Elab.async false
set_option linter.all false
set_option maxRecDepth 100000
set_option maxHeartbeats 2000000
/-! # Dn, part 6: built-in functions, methods of built-in types, items, slices -/
namespace Dn
open PySem PySem.Spec L2

/-! ### texts -/
abbrev strI (i : Int) : Str := Str.ofString (toString i)
theorem okS_ofString (s : String) (h : (Str.ofString s).length ≤ sizeLine) : okS (Str.ofString s) := by
  refine ⟨?_, h⟩
  rw [Str.ofString_eq_toList]
  rw [Array.all_eq_true_iff_forall_mem]
  intro c hc
  simp only [List.mem_toArray, List.mem_map] at hc
  obtain ⟨x, _, rfl⟩ := hc
  have := x.valid
  simp only [decide_eq_true_eq]
  rcases this with h | h
  · have : x.toNat < 0xD800 := h
    omega
  · have : x.toNat < 0x110000 := h.2
    omega
theorem okS_strI {i : Int} (h : i.natAbs.log2 < 1920) : okS (strI i) := okS_ofString _ (PySem.int_text_fits h)
theorem okS_join {sep : Str} (hs : okS sep) : ∀ {xs : List Str}, (∀ x ∈ xs, okS x) → (Str.join sep xs).length ≤ sizeLine → okS (Str.join sep xs) := by
  intro xs hx hl
  refine ⟨?_, hl⟩
  rw [Array.all_eq_true_iff_forall_mem]
  have key : ∀ xs : List Str, (∀ x ∈ xs, okS x) → ∀ c ∈ (Str.join sep xs).cps, decide (c < 0x110000) = true := by
    intro xs
    induction xs with
    | nil => intro _ c hc; simp [Str.join, Str.empty] at hc
    | cons x r ih =>
      intro h c hc
      have h1 := Array.all_eq_true_iff_forall_mem.mp (h x (by simp)).1
      have h2 := Array.all_eq_true_iff_forall_mem.mp hs.1
      match r, ih with
      | [], _ => exact h1 c hc
      | y :: r, ih =>
        have hc : c ∈ (x.cps ++ sep.cps) ++ (Str.join sep (y :: r)).cps := hc
        rcases Array.mem_append.mp hc with z | z
        · rcases Array.mem_append.mp z with z | z
          · exact h1 c z
          · exact h2 c z
        · exact ih (fun w hw => h w (by simp only [List.mem_cons] at hw ⊢; exact .inr hw)) c z
  exact fun c hc => key xs hx c hc
def asStrs : List D → Option (List Str)
  | [] => some []
  | .str s :: r => (asStrs r).map (s :: ·)
  | _ => none
theorem asStrs_eq : ∀ {ds : List D} {ss : List Str}, asStrs ds = some ss → ds = ss.map D.str
  | [], ss, e => by simp only [asStrs, Option.some.injEq] at e; subst e; rfl
  | .str s :: r, ss, e => by
    simp only [asStrs, Option.map_eq_some_iff] at e
    obtain ⟨t, e1, rfl⟩ := e
    rw [asStrs_eq e1]; rfl
  | .non :: _, _, e => by simp [asStrs] at e
  | .bl _ :: _, _, e => by simp [asStrs] at e
  | .int _ :: _, _, e => by simp [asStrs] at e
  | .tup _ :: _, _, e => by simp [asStrs] at e
  | .lst _ :: _, _, e => by simp [asStrs] at e
  | .ins _ _ _ :: _, _, e => by simp [asStrs] at e
  | .scr _ :: _, _, e => by simp [asStrs] at e
  | .exn _ _ _ :: _, _, e => by simp [asStrs] at e
theorem asStrs_map : ∀ ss : List Str, asStrs (ss.map D.str) = some ss
  | [] => rfl
  | s :: r => by simp [asStrs, asStrs_map r]

/-! ### built-in functions -/
def lenD : DPrim
  | [.str s] => some (.d (.int s.length))
  | [.lst xs] => some (.d (.int xs.length))
  | [.tup xs] => some (.d (.int xs.length))
  | _ => none
def listD : DPrim
  | [.lst xs] => some (.own (.lst xs))
  | [.tup xs] => some (.own (.lst xs))
  | [.scr ns] => some (.own (.lst (ns.map D.int)))
  | _ => none
def tupleD : DPrim
  | [.lst xs] => some (.d (.tup xs))
  | [.tup xs] => some (.d (.tup xs))
  | _ => none
def intD : DPrim
  | [.int i] => some (.d (.int i))
  | [.bl b] => some (.d (.int (if b then 1 else 0)))
  | _ => none
def strD : DPrim
  | [.int i] => if i.natAbs.log2 < 1920 then some (.d (.str (strI i))) else none
  | [.str s] => some (.d (.str s))
  | _ => none
def boolsOf : List D → Option (List Bool)
  | [] => some []
  | .bl b :: r => (boolsOf r).map (b :: ·)
  | _ => none
theorem boolsOf_eq : ∀ {ds : List D} {bs : List Bool}, boolsOf ds = some bs → ds = bs.map D.bl
  | [], ss, e => by simp only [boolsOf, Option.some.injEq] at e; subst e; rfl
  | .bl s :: r, ss, e => by
    simp only [boolsOf, Option.map_eq_some_iff] at e
    obtain ⟨t, e1, rfl⟩ := e
    rw [boolsOf_eq e1]; rfl
  | .non :: _, _, e => by simp [boolsOf] at e
  | .str _ :: _, _, e => by simp [boolsOf] at e
  | .int _ :: _, _, e => by simp [boolsOf] at e
  | .tup _ :: _, _, e => by simp [boolsOf] at e
  | .lst _ :: _, _, e => by simp [boolsOf] at e
  | .ins _ _ _ :: _, _, e => by simp [boolsOf] at e
  | .scr _ :: _, _, e => by simp [boolsOf] at e
  | .exn _ _ _ :: _, _, e => by simp [boolsOf] at e
def allD : DPrim
  | [.lst xs] => (boolsOf xs).bind fun bs => blD (bs.all id)
  | _ => none
def anyD : DPrim
  | [.lst xs] => (boolsOf xs).bind fun bs => blD (bs.any id)
  | _ => none

def asInts : List D → Option (List Int)
  | [] => some []
  | .int i :: r => (asInts r).map (i :: ·)
  | _ => none
theorem asInts_eq : ∀ {ds : List D} {ns : List Int}, asInts ds = some ns → ds = ns.map D.int
  | [], ns, e => by simp only [asInts, Option.some.injEq] at e; subst e; rfl
  | d :: r, ns, e => by
    cases d with
    | int i =>
      simp only [asInts, Option.map_eq_some_iff] at e
      obtain ⟨t, e1, rfl⟩ := e
      rw [asInts_eq e1]; rfl
    | _ => simp [asInts] at e
theorem asInts_map : ∀ ns : List Int, asInts (ns.map D.int) = some ns
  | [] => rfl
  | n :: r => by simp [asInts, asInts_map r]
def keysL (xs : List D) : Option (List Int ⊕ List Str) := match asInts xs with
  | some ns => some (.inl ns)
  | none => (asStrs xs).map .inr
def keysD (xs : List D) : Option (List Int ⊕ List Str) := if xs.length < 4000 then keysL xs else none
def srtKeys : List Int ⊕ List Str → List D
  | .inl ns => (Ks.isort Ks.ltI ns).map D.int
  | .inr xs => (Ks.isort Ks.ltS xs).map D.str
def ddKeys : List Int ⊕ List Str → List Int ⊕ List Str
  | .inl ns => .inl (Ks.dd ns)
  | .inr xs => .inr (Ks.dd xs)
def lnsetD : DPrim
  | [.lst xs] => (keysD xs).map fun k => .d (.int (nKeys k))
  | [.tup xs] => (keysD xs).map fun k => .d (.int (nKeys k))
  | _ => none
def srsetD : DPrim
  | [.lst xs] => (keysD xs).map fun k => .own (.lst (srtKeys (ddKeys k)))
  | [.tup xs] => (keysD xs).map fun k => .own (.lst (srtKeys (ddKeys k)))
  | _ => none
def sortedD : DPrim
  | [.lst xs] => (keysL xs).map fun k => .own (.lst (srtKeys k))
  | _ => none
section
variable {G : RC} {F : Hp}
def vKeys : List Int ⊕ List Str → List V
  | .inl ns => ns.map V.int
  | .inr xs => xs.map V.str
theorem keysL_rep {xs : List D} {k : List Int ⊕ List Str} {ws : List V} (e : keysL xs = some k) (r : Reps G F xs ws) : ws = vKeys k ∧ (∀ z, k = .inr z → ∀ x ∈ z, okS x) ∧ xs.length = (vKeys k).length := by
  unfold keysL at e
  split at e
  · rename_i ns h
    cases e
    rw [asInts_eq h] at r ⊢
    exact ⟨r.ints, (fun _ z => by cases z), by simp [vKeys]⟩
  · obtain ⟨ss, e1, rfl⟩ := Option.map_eq_some_iff.mp e
    rw [asStrs_eq e1] at r ⊢
    obtain ⟨h1, h2⟩ := r.strs
    exact ⟨h1, fun _ z => by cases z; exact h2, by simp [vKeys]⟩
theorem srtKeys_rep {k : List Int ⊕ List Str} (h : ∀ z, k = .inr z → ∀ x ∈ z, okS x) : Reps G F (srtKeys k) (match k with
    | .inl ns => (Ks.isort Ks.ltI ns).map V.int
    | .inr xs => (Ks.isort Ks.ltS xs).map V.str) := by
  cases k with
  | inl ns => exact Reps.of_ints _
  | inr xs => exact Reps.of_strs _ fun x hx => h xs rfl x ((Ks.isort_perm xs).mem_iff.mp hx)
theorem dd_ok {k : List Int ⊕ List Str} (h : ∀ z, k = .inr z → ∀ x ∈ z, okS x) : ∀ z, ddKeys k = .inr z → ∀ x ∈ z, okS x := by
  cases k with
  | inl ns => intro z e; cases e
  | inr xs => intro z e x hx; cases e; exact h xs rfl x (Ks.dd_mem.mp hx)
end
inductive BP where
  | len | list | tuple | int | str | all | any | sorted
  deriving DecidableEq
def BP.name : BP → Str
  | .len => "len" | .list => "list" | .tuple => "tuple" | .int => "int" | .str => "str" | .all => "all" | .any => "any" | .sorted => "sorted"
def bpD : BP → DPrim
  | .len => lenD | .list => listD | .tuple => tupleD | .int => intD | .str => strD | .all => allD | .any => anyD | .sorted => sortedD
theorem reps_bls {G : RC} {F : Hp} {bs : List Bool} : ∀ {vs : List V}, Reps G F (bs.map D.bl) vs → vs = bs.map V.bl := by
  induction bs with
  | nil => intro vs h; simpa only [List.map_nil, Reps] using h
  | cons n ns ih =>
    intro vs h
    obtain ⟨v, ws, rfl, h1, h2⟩ := h.inv_cons
    simp only [Rep] at h1
    rw [h1, ih h2]; rfl
section
variable {X : Cx} {ca : CA}
theorem call_lenD : CallD X ca (.builtin "len") lenD := by
  refine callD_of call_len fun ω H ds vs a Q ok n e p => ?_
  unfold lenD at e
  split at e
  · cases e
    obtain ⟨v, rfl, n1⟩ := nows1 n
    obtain ⟨rfl, o⟩ := now_str n1
    exact ⟨_, _, rfl, ⟨o.2, rfl⟩, end_d ok p (rep_int _)⟩
  · cases e
    obtain ⟨v, rfl, n1⟩ := nows1 n
    obtain ⟨a1, ws, rfl, h1, r1⟩ := n1
    exact ⟨_, _, rfl, .inl ⟨ws, .of h1, r1.length.symm⟩, end_d ok p (rep_int _)⟩
  · cases e
    obtain ⟨v, rfl, n1⟩ := nows1 n
    obtain ⟨a1, ws, rfl, h1, r1⟩ := now_tup ok n1
    exact ⟨_, _, rfl, .inr ⟨ws, h1, r1.length.symm⟩, end_d ok p (rep_int _)⟩
  · cases e
theorem call_listD : CallD X ca (.type "list") listD := by
  refine callD_of call_list_of fun ω H ds vs a Q ok n e p => ?_
  unfold listD at e
  split at e
  · cases e
    obtain ⟨v, rfl, n1⟩ := nows1 n
    obtain ⟨a1, ws, rfl, h1, r1⟩ := n1
    exact ⟨a1, ws, rfl, .inl (.of h1), fun l hl => end_lst ok p r1 hl⟩
  · cases e
    obtain ⟨v, rfl, n1⟩ := nows1 n
    obtain ⟨a1, ws, rfl, h1, r1⟩ := now_tup ok n1
    exact ⟨a1, ws, rfl, .inr h1, fun l hl => end_lst ok p r1 hl⟩
  · cases e
    obtain ⟨v, rfl, n1⟩ := nows1 n
    have n1 : Rep _ ω.F (.scr _) v := n1
    unfold Rep at n1
    obtain ⟨a1, rfl, h1⟩ := n1
    exact ⟨a1, _, rfl, .inl (ok.sub.sqL h1), fun l hl => end_lst ok p (Reps.of_ints _) hl⟩
  · cases e
theorem call_tupleD : CallD X ca (.type "tuple") tupleD := by
  refine callD_of call_tuple_of fun ω H ds vs a Q ok n e p => ?_
  unfold tupleD at e
  split at e
  · cases e
    obtain ⟨v, rfl, n1⟩ := nows1 n
    obtain ⟨a1, ws, rfl, h1, r1⟩ := n1
    exact ⟨a1, ws, rfl, .inl ⟨.of h1, fun l hl => end_tup ok p r1 hl⟩⟩
  · cases e
    obtain ⟨v, rfl, n1⟩ := nows1 n
    have n0 : Rep _ ω.F (.tup _) v := n1
    obtain ⟨a1, ws, rfl, h1, r1⟩ := now_tup ok n1
    exact ⟨a1, ws, rfl, .inr ⟨h1, end_d ok p n0⟩⟩
  · cases e
theorem call_intD : CallD X ca (.type "int") intD := by
  refine callD_of call_int1 fun ω H ds vs a Q ok n e p => ?_
  unfold intD at e
  split at e
  · cases e
    obtain ⟨v, rfl, n1⟩ := nows1 n
    cases (now_int n1)
    exact .inl ⟨_, rfl, end_d ok p (rep_int _)⟩
  · cases e
    obtain ⟨v, rfl, n1⟩ := nows1 n
    cases (now_bl n1)
    exact .inr ⟨_, rfl, end_d ok p (rep_int _)⟩
  · cases e
theorem call_strD : CallD X ca (.type "str") strD := by
  refine callD_of (call_str_int.or SkE.call_str_str) fun ω H ds vs a Q ok n e p => ?_
  unfold strD at e
  split at e
  · split at e <;> simp only [Option.some.injEq, reduceCtorEq] at e
    subst e
    rename_i hz
    obtain ⟨v, rfl, n1⟩ := nows1 n
    cases (now_int n1)
    exact .inl ⟨_, rfl, hz, end_d ok p (rep_str (okS_strI hz))⟩
  · cases e
    obtain ⟨v, rfl, n1⟩ := nows1 n
    obtain ⟨rfl, o⟩ := now_str n1
    exact .inr ⟨_, rfl, end_d ok p (rep_str o)⟩
  · cases e
theorem call_allD (hc : X.calm = true) : CallD X ca (.builtin "all") allD := by
  refine callD_of (cr_all hc) fun ω H ds vs a Q ok n e p => ?_
  unfold allD at e
  split at e
  · obtain ⟨bs, e1, e2⟩ := Option.bind_eq_some_iff.mp e
    cases e2
    obtain ⟨v, rfl, n1⟩ := nows1 n
    obtain ⟨a1, ws, rfl, h1, r1⟩ := n1
    rw [boolsOf_eq e1] at r1
    have := reps_bls r1
    subst this
    exact ⟨a1, bs, rfl, .of h1, end_d ok p (rep_bl _)⟩
  · cases e
theorem call_anyD (hc : X.calm = true) : CallD X ca (.builtin "any") anyD := by
  refine callD_of (cr_any hc) fun ω H ds vs a Q ok n e p => ?_
  unfold anyD at e
  split at e
  · obtain ⟨bs, e1, e2⟩ := Option.bind_eq_some_iff.mp e
    cases e2
    obtain ⟨v, rfl, n1⟩ := nows1 n
    obtain ⟨a1, ws, rfl, h1, r1⟩ := n1
    rw [boolsOf_eq e1] at r1
    have := reps_bls r1
    subst this
    exact ⟨a1, bs, rfl, .of h1, end_d ok p (rep_bl _)⟩
  · cases e
theorem call_sortedD : CallD X ca (.builtin "sorted") sortedD := by
  refine callD_of cr_srtL fun ω H ds vs a Q ok n e p => ?_
  unfold sortedD at e
  split at e
  · obtain ⟨k, e1, rfl⟩ := Option.map_eq_some_iff.mp e
    obtain ⟨v, rfl, n1⟩ := nows1 n
    obtain ⟨l, ws, rfl, h1, r⟩ := n1
    obtain ⟨rfl, h2, h3⟩ := keysL_rep (G := ⟨X.K, ca⟩) e1 r
    have z := srtKeys_rep (G := ⟨X.K, ca⟩) (F := ω.F) h2
    refine ⟨l, k, rfl, ?_⟩
    cases k with
    | inl ns => exact ⟨.of h1, fun q hq => end_lst ok p z hq⟩
    | inr ss => exact ⟨.of h1, fun q hq => end_lst ok p z hq⟩
  · cases e
/-- a call of a built-in by its name -/
theorem pe_bp {p : BP} {e : Expr} {es : List Expr} {q pos : Pos} {t : TA} (hc : X.calm = true) (hg : Gl X p.name) (hm : X.mg p.name = none) (ha : PA X (e :: es) t)
    (he : starEach (e :: es) X.env = (false, eval e X.env) :: starEach es X.env) (hpl : (backTo pos (starEach es X.env)).any (·.1) = false) :
    PE X (.Call (.Name p.name q) (e :: es) [] pos) (tCB (tP ⟨X.K, ca⟩ (liftD (bpD p))) t) := by
  cases p with
  | len => exact pe_callB call_lenD hg hm (by decide +kernel) ha (by decide) (by decide) he hpl
  | list => exact pe_callTy call_listD hg hm (by decide +kernel) ha (by decide) (by decide) he hpl
  | tuple => exact pe_callTy call_tupleD hg hm (by decide +kernel) ha (by decide) (by decide) he hpl
  | int => exact pe_callTy call_intD hg hm (by decide +kernel) ha (by decide) (by decide) he hpl
  | str => exact pe_callTy call_strD hg hm (by decide +kernel) ha (by decide) (by decide) he hpl
  | all => exact pe_callB (call_allD hc) hg hm (by decide +kernel) ha (by decide) (by decide) he hpl
  | any => exact pe_callB (call_anyD hc) hg hm (by decide +kernel) ha (by decide) (by decide) he hpl
  | sorted => exact pe_callB call_sortedD hg hm (by decide +kernel) ha (by decide) (by decide) he hpl
end

/-! ### a live object changes -/
def setCell (ω : Wd) (n : Nat) (c : Cell) : Wd := { ω with S := ω.S.set n c }
section
variable {G : RC} {ω ω1 : Wd} {H H1 : Hp}
theorem upd_cell {n : Nat} {c c' : Cell} {a : Addr} {o : HO} (ok : ω.Ok G H) (hs : ω.S[n]? = some c) (hl : c.live = true) (hm : ω.mu[n]? = some a) (hc : CellAt G ω.F (upd H a o) a c') :
    (setCell ω n c').Ok G (upd H a o) ∧ Le ω H (setCell ω n c') (upd H a o) := by
  obtain ⟨fa, ca⟩ := ok.cell n c a hs hl hm
  have hn : n < ω.S.length := (List.getElem?_eq_some_iff.mp hs).1
  have hlive' : ∀ (m : Nat) (c1 : Cell), (ω.S.set n c')[m]? = some c1 → c1.live = true → ∃ c0 : Cell, ω.S[m]? = some c0 ∧ c0.live = true := by
    intro m c1 h1 h2
    by_cases e : n = m
    · subst e; exact ⟨c, hs, hl⟩
    · rw [List.getElem?_set_ne e] at h1; exact ⟨c1, h1, h2⟩
  refine ⟨⟨fun x u h => ?_, by simp [setCell, ok.len], fun m c1 x h1 h2 h3 => ?_, fun m k c1 c2 x h1 h2 h3 h4 h5 h6 => ?_⟩, ⟨Sub.refl _, List.prefix_refl _, fun x u h hx => ?_, fun m c1 x hm' _ _ h3 => absurd (List.getElem?_eq_some_iff.mp h3).1 (by show ¬ m < ω.mu.length; omega), fun m c1 _ h1 h2 => hlive' m c1 h1 h2, fun x u h => .inl h, fun x h => ?_⟩⟩
  · rw [upd_ne (by intro z; subst z; rw [show ω.F x = some u from h] at fa; cases fa)]
    exact ok.sub x u h
  · by_cases e : n = m
    · subst e
      have h1 : (ω.S.set n c')[n]? = some c1 := h1
      rw [List.getElem?_set_self hn] at h1
      cases h1
      have : x = a := Option.some.inj (h3.symm.trans hm)
      subst this
      exact ⟨fa, hc⟩
    · have h1 : (ω.S.set n c')[m]? = some c1 := h1
      rw [List.getElem?_set_ne e] at h1
      obtain ⟨z1, z2⟩ := ok.cell m c1 x h1 h2 h3
      refine ⟨z1, z2.at fun u hu => ?_⟩
      rw [upd_ne (by
        intro z; subst z
        exact e (ok.inj n m c c1 x hs hl h1 h2 hm h3))]
      exact hu
  · obtain ⟨d1, e1, e2⟩ := hlive' m c1 h1 h2
    obtain ⟨d2, e3, e4⟩ := hlive' k c2 h3 h4
    exact ok.inj m k d1 d2 x e1 e2 e3 e4 h5 h6
  · rw [upd_ne (by intro z; subst z; exact hx ⟨n, c, hs, hl, hm⟩)]; exact h
  · by_cases e : x = a
    · subst e; rw [upd_same] at h; cases h
    · rw [upd_ne e] at h; exact h
end

/-! ### methods of built-in types -/
def joinD : DPrim
  | [.str a, .lst xs] => (asStrs xs).bind fun ys => if (ys.map (·.length)).sum + ys.length * a.length ≤ 16777216 then some (.d (.str (Str.join a ys))) else none
  | [.str a, .tup xs] => (asStrs xs).bind fun ys => if (ys.map (·.length)).sum + ys.length * a.length ≤ 16777216 then some (.d (.str (Str.join a ys))) else none
  | _ => none
def idxD (x : D) : List D → Nat → Option Nat
  | [], _ => none
  | y :: ys, k => if deq y x = true then some k else idxD x ys (k + 1)
def indexD : DPrim
  | [.lst xs, x] => if (shal 0 x && xs.all (shal 0)) = true then (idxD x xs 0).map (fun (k : Nat) => RW.d (.int (k : Int))) else none
  | _ => none
/-- l.append(x) -/
def appendP : Prim
  | [.loc n, .d x], S => match S[n]? with
    | some (.lst xs) => if xs.length < sizeLine then some (.d .non, S.set n (.lst (xs ++ [x]))) else none
    | _ => none
  | _, _ => none
def insertP : Prim
  | [.loc n, .d (.int i), .d x], S => match S[n]? with
    | some (.lst xs) => if xs.length < sizeLine ∧ 0 ≤ i ∧ i < 2 ^ 63 then some (.d .non, S.set n (.lst (xs.take i.toNat ++ [x] ++ xs.drop i.toNat))) else none
    | _ => none
  | _, _ => none
inductive MP where
  | join | append | insert | index
  deriving DecidableEq
def MP.T : MP → String
  | .join => "str" | .append => "list" | .insert => "list" | .index => "list"
def MP.name : MP → Str
  | .join => "join" | .append => "append" | .insert => "insert" | .index => "index"
def MP.id : MP → String
  | .join => "str.join" | .append => "list.append" | .insert => "list.insert" | .index => "list.index"
def mpP : MP → Prim
  | .join => liftD joinD | .append => appendP | .insert => insertP | .index => liftD indexD
/-- the receiver's type is looked at ahead of the arguments -/
def isTy (T : String) (S : Store) (w : W) : Bool := match view S w with
  | some (.str _) => T == "str"
  | some (.lst _) => T == "list"
  | _ => false
def MtD (X : Cx) (ca : CA) (id : String) (p : Prim) : Prop := MtR X id (fun x xs H Q => tP ⟨X.K, ca⟩ p (x :: xs) H Q)
section
variable {X : Cx} {ca : CA}
theorem mtD_of {id : String} {q : DPrim} {r : V → List V → Hp → VK → Prop} (h : MtR X id r)
    (rule : ∀ (ω : Wd) (H : Hp) (d : D) (ds : List D) (v : V) (vs : List V) (a : RW) (Q : VK), ω.Ok ⟨X.K, ca⟩ H → Now ⟨X.K, ca⟩ ω H d v → Nows ⟨X.K, ca⟩ ω H ds vs → q (d :: ds) = some a → PostE ⟨X.K, ca⟩ ω H Q (fun _ _ _ => False) (.ok a ω.S) → r v vs H Q) : MtD X ca id (liftD q) := by
  intro pins s σ H x xs v us Q I rx rxs hp
  refine h pins s σ H x xs v us Q I rx rxs ?_
  refine liftD_ok (G := ⟨X.K, ca⟩) (r := fun vs H Q => ∀ x xs, vs = x :: xs → r x xs H Q) (fun ω H ds vs a Q ok n e p => ?_) hp x xs rfl
  rintro x xs rfl
  match ds, n, e with
  | d :: ds, ⟨u, us, e0, n1, n2⟩, e =>
    simp only [List.cons.injEq] at e0
    obtain ⟨rfl, rfl⟩ := e0
    exact rule ω H d ds _ _ a Q ok n1 n2 e p
  | [], n, _ => simp [Nows] at n
theorem mt_joinD : MtD X ca "str.join" (liftD joinD) := by
  refine mtD_of mt_join fun ω H d ds v vs a Q ok n1 n2 e p => ?_
  have fin : ∀ (s : Str) (xs : List D) (ws : List V) (ys : List Str) (pa : Addr), okS s → asStrs xs = some ys → Reps ⟨X.K, ca⟩ ω.F xs ws → (SqL X.K H pa ws ∨ SqT X.K H pa ws) → v = .str s → vs = [.ref pa] →
      (ys.map (·.length)).sum + ys.length * s.length ≤ 16777216 → a = .d (.str (Str.join s ys)) → ∃ a p, ∃ ys : List Str, v = .str a ∧ vs = [.ref p] ∧ (SqL X.K H p (ys.map V.str) ∨ SqT X.K H p (ys.map V.str)) ∧ (ys.map (·.length)).sum + ys.length * a.length ≤ 16777216 ∧ Q (.str (Txt.join a ys)) H := by
    rintro s xs ws ys pa os e1 r h rfl rfl hz rfl
    rw [asStrs_eq e1] at r
    obtain ⟨rfl, oks⟩ := r.strs
    refine ⟨s, pa, ys, rfl, rfl, h, hz, ?_⟩
    have ej : Txt.join s ys = Str.join s ys := StrLaws.glued_eq_join s ys
    rw [ej]
    refine end_d ok p (rep_str (okS_join os oks ?_))
    have := StrLaws.join_length_le s ys
    rw [sizeLine_eq]
    omega
  unfold joinD at e
  split at e
  · rename_i heq
    simp only [List.cons.injEq] at heq
    obtain ⟨rfl, rfl⟩ := heq
    obtain ⟨ys, e1, e2⟩ := Option.bind_eq_some_iff.mp e
    split at e2 <;> simp only [Option.some.injEq, reduceCtorEq] at e2
    rename_i hz
    obtain ⟨rfl, o⟩ := now_str n1
    obtain ⟨u, rfl, n3⟩ := nows1 n2
    obtain ⟨a1, ws, rfl, h1, r1⟩ := n3
    exact fin _ _ ws ys a1 o e1 r1 (.inl (.of h1)) rfl rfl hz e2.symm
  · rename_i heq
    simp only [List.cons.injEq] at heq
    obtain ⟨rfl, rfl⟩ := heq
    obtain ⟨ys, e1, e2⟩ := Option.bind_eq_some_iff.mp e
    split at e2 <;> simp only [Option.some.injEq, reduceCtorEq] at e2
    rename_i hz
    obtain ⟨rfl, o⟩ := now_str n1
    obtain ⟨u, rfl, n3⟩ := nows1 n2
    obtain ⟨a1, ws, rfl, h1, r1⟩ := now_tup ok n3
    exact fin _ _ ws ys a1 o e1 r1 (.inr h1) rfl rfl hz e2.symm
  · cases e
theorem idxD_spec {x : D} : ∀ {xs : List D} {k j : Nat}, idxD x xs k = some j → k ≤ j ∧ (∃ y, xs[j - k]? = some y ∧ deq y x = true) ∧ ∀ m, m < j - k → ∀ y, xs[m]? = some y → deq y x = false
  | [], k, j, e => by simp [idxD] at e
  | y :: ys, k, j, e => by
    unfold idxD at e
    split at e
    · rename_i h
      cases e
      exact ⟨Nat.le_refl _, ⟨y, by simp, h⟩, fun m hm => by omega⟩
    · rename_i h
      obtain ⟨h1, ⟨z, h2, h3⟩, h4⟩ := idxD_spec e
      refine ⟨by omega, ⟨z, ?_, h3⟩, fun m hm w hw => ?_⟩
      · have : j - k = (j - (k + 1)) + 1 := by omega
        rw [this]; simpa using h2
      · cases m with
        | zero => simp at hw; subst hw; simpa using h
        | succ m => exact h4 m (by omega) w (by simpa using hw)
theorem mt_indexDD : MtD X ca "list.index" (liftD indexD) := by
  refine mtD_of mt_index fun ω H d ds v vs a Q ok n1 n2 e p => ?_
  unfold indexD at e
  split at e
  · rename_i heq
    simp only [List.cons.injEq] at heq
    obtain ⟨rfl, rfl⟩ := heq
    split at e
    rotate_left
    · cases e
    rename_i hz
    rw [Bool.and_eq_true] at hz
    obtain ⟨j, e1, e2⟩ := Option.map_eq_some_iff.mp e
    subst e2
    obtain ⟨a1, ws, rfl, h1, r1⟩ := n1
    obtain ⟨u, rfl, n3⟩ := nows1 n2
    have r0 := flat_now hz.1 n3
    obtain ⟨_, ⟨y, h2, h3⟩, h4⟩ := idxD_spec e1
    rw [Nat.sub_zero] at h2 h4
    obtain ⟨z, hz1, rz⟩ := r1.get h2
    have fy : shal 0 y = true := List.all_eq_true.mp hz.2 y (List.mem_of_getElem? h2)
    refine ⟨a1, ws, u, j, z, rfl, rfl, .of h1, (flat_v hz.1 hz.1 r0 r0).1, (flat_vs hz.1 r0 hz.2 r1).1, hz1, ?_, fun m z' hm hz' => ?_, end_d ok p (rep_int _)⟩
    · rw [(flat_v hz.1 fy r0 rz).2]; exact h3
    · obtain ⟨y', hy', ry'⟩ := r1.getV hz'
      have fy' : shal 0 y' = true := List.all_eq_true.mp hz.2 y' (List.mem_of_getElem? hy')
      rw [(flat_v hz.1 fy' r0 ry').2]
      exact h4 m hm y' hy'
  · cases e
theorem mt_appendP : MtD X ca "list.append" appendP := by
  intro pins s σ H x xs v us Q I rx rxs hp
  refine mt_append pins s σ H x xs v us Q I rx rxs ?_
  obtain ⟨ω, ws, ok, r, p⟩ := hp
  unfold liftP at p
  split at p
  · rename_i a S' e
    unfold appendP at e
    split at e
    · rename_i n y
      split at e
      · rename_i zs hs
        split at e <;> simp only [Option.some.injEq, Prod.mk.injEq, reduceCtorEq] at e
        rename_i hz
        obtain ⟨rfl, rfl⟩ := e
        obtain ⟨u0, us0, e0, ⟨a1, rfl, hm⟩, u1, us1, rfl, r1, r2⟩ := r
        cases r2
        simp only [List.cons.injEq] at e0
        obtain ⟨rfl, rfl⟩ := e0
        obtain ⟨fa, vs0, h1, h2⟩ := ok.cell n _ a1 hs rfl hm
        refine ⟨a1, vs0, u1, rfl, rfl, h1, by rw [h2.length]; exact hz, ?_⟩
        obtain ⟨ok', le'⟩ := upd_cell (c' := .lst (zs ++ [y])) ok hs rfl hm ⟨vs0 ++ [u1], upd_same, h2.append (Reps.cons r1 Reps.nil)⟩
        exact p _ _ .non rfl le' ok' (rep_non (G := ⟨X.K, ca⟩) (F := ω.F))
      · cases e
    · cases e
  · exact p.elim
theorem mt_insertP : MtD X ca "list.insert" insertP := by
  intro pins s σ H x xs v us Q I rx rxs hp
  refine mt_insert pins s σ H x xs v us Q I rx rxs ?_
  obtain ⟨ω, ws, ok, r, p⟩ := hp
  unfold liftP at p
  split at p
  · rename_i a S' e
    unfold insertP at e
    split at e
    · rename_i n i y
      split at e
      · rename_i zs hs
        split at e <;> simp only [Option.some.injEq, Prod.mk.injEq, reduceCtorEq] at e
        rename_i hz
        obtain ⟨rfl, rfl⟩ := e
        obtain ⟨u0, us0, e0, ⟨a1, rfl, hm⟩, u1, us1, rfl, r1, u2, us2, rfl, r2, r3⟩ := r
        cases r3
        simp only [List.cons.injEq] at e0
        obtain ⟨rfl, rfl⟩ := e0
        have r1 : Rep ⟨X.K, ca⟩ ω.F (.int i) u1 := r1
        unfold Rep at r1
        subst r1
        obtain ⟨fa, vs0, h1, h2⟩ := ok.cell n _ a1 hs rfl hm
        refine ⟨a1, vs0, i, u2, rfl, rfl, h1, by rw [h2.length]; exact hz.1, hz.2.1, hz.2.2, ?_⟩
        obtain ⟨ok', le'⟩ := upd_cell (c' := .lst (zs.take i.toNat ++ [y] ++ zs.drop i.toNat)) ok hs rfl hm ⟨vs0.take i.toNat ++ [u2] ++ vs0.drop i.toNat, upd_same, ((h2.take _).append (Reps.cons r2 Reps.nil)).append (h2.drop _)⟩
        exact p _ _ .non rfl le' ok' (rep_non (G := ⟨X.K, ca⟩) (F := ω.F))
      · cases e
    · cases e
  · exact p.elim
theorem isTy_ty {G : RC} {ω : Wd} {H : Hp} {T : String} {w : W} {v : V} (ok : ω.Ok G H) (r : RepW G ω w v) (h : isTy T ω.S w = true) : tyV G.K T v H := by
  unfold isTy at h
  cases e : view ω.S w with
  | none => rw [e] at h; cases h
  | some d =>
    rw [e] at h
    have n := now_of ok r e
    cases d with
    | str s =>
      obtain ⟨rfl, _⟩ := now_str n
      exact beq_iff_eq.mp h
    | lst xs =>
      obtain ⟨a, ws, rfl, h1, h2⟩ := n
      exact .inl ⟨beq_iff_eq.mp h, ws, .of h1⟩
    | _ => cases h
theorem mp_slot (m : MP) : PlainAttrs m.T ∧ Slot m.T m.name m.id ∧ typeOf (.builtin m.id) = pure (.type "method_descriptor") := by
  cases m with
  | join => exact ⟨F.plainAttrs_str, F.slot_str_join, F.type_str_join⟩
  | append => exact ⟨F.plainAttrs_list, F.slot_list_append, F.type_list_append⟩
  | insert => exact ⟨F.plainAttrs_list, F.slot_list_insert, F.type_list_insert⟩
  | index => exact ⟨F.plainAttrs_list, F.slot_list_index, F.type_list_index⟩
theorem mp_mt (m : MP) : MtD X ca m.id (mpP m) := by
  cases m with
  | join => exact mt_joinD
  | append => exact mt_appendP
  | insert => exact mt_insertP
  | index => exact mt_indexDD
end

/-! ### items and slices -/
def ixD : DPrim
  | [.lst xs, .int i] => (atI xs i).map .d
  | [.tup xs, .int i] => (atI xs i).map .d
  | [.str s, .int i] => (atI s.cps.toList i).map fun c => .d (.str ⟨#[c]⟩)
  | _ => none
def cutD (xs : List D) (lo hi : Option Int) : List D := (xs.drop (HT.sIx xs.length 0 lo)).take (HT.sIx xs.length xs.length hi - HT.sIx xs.length 0 lo)
def slD (d : D) (lo hi : Option Int) : Option RW := match d with
  | .lst xs => some (.own (.lst (cutD xs lo hi)))
  | .tup xs => some (.d (.tup (cutD xs lo hi)))
  | .str s => some (.d (.str (cutS s lo hi)))
  | _ => none
def setP : Prim
  | [.loc n, .d (.int i), .d x], S => match S[n]? with
    | some (.lst xs) => match ixN xs.length i with
      | some j => some (.d .non, S.set n (.lst (xs.set j x)))
      | none => none
    | _ => none
  | _, _ => none
section
variable {X : Cx} {ca : CA}
theorem atI_reps {G : RC} {F : Hp} {xs : List D} {ws : List V} {i : Int} {d : D} (r : Reps G F xs ws) (h : atI xs i = some d) : ∃ v, atI ws i = some v ∧ Rep G F d v := by
  unfold atI at h ⊢
  rw [r.length]
  cases e : ixN xs.length i with
  | none => rw [e] at h; cases h
  | some j =>
    rw [e] at h
    exact r.get h
theorem ix_D : IxR X (fun x y H Q => tP ⟨X.K, ca⟩ (liftD ixD) [x, y] H Q) := by
  intro value slice pins s σ H x y v u Q I rx ry hp hs
  refine ix_seq value slice pins s σ H x y v u Q I rx ry ?_ hs
  refine liftD_ok (G := ⟨X.K, ca⟩) (r := fun vs H Q => ∀ x y, vs = [x, y] → rIx X.K x y H Q) (fun ω H ds vs a Q ok n e p => ?_) hp x y rfl
  rintro x y rfl
  unfold ixD at e
  split at e
  · rename_i xs i
    obtain ⟨d, e1, rfl⟩ := Option.map_eq_some_iff.mp e
    obtain ⟨v1, u1, e2, n1, n2⟩ := nows2 n
    simp only [List.cons.injEq, and_true] at e2
    obtain ⟨rfl, rfl⟩ := e2
    cases (now_int n2)
    obtain ⟨a1, ws, rfl, h1, r1⟩ := n1
    obtain ⟨z, hz, rz⟩ := atI_reps r1 e1
    exact .inl ⟨a1, ws, i, z, rfl, rfl, .of h1, hz, end_d ok p rz⟩
  · rename_i xs i
    obtain ⟨d, e1, rfl⟩ := Option.map_eq_some_iff.mp e
    obtain ⟨v1, u1, e2, n1, n2⟩ := nows2 n
    simp only [List.cons.injEq, and_true] at e2
    obtain ⟨rfl, rfl⟩ := e2
    cases (now_int n2)
    obtain ⟨a1, ws, rfl, h1, r1⟩ := now_tup ok n1
    obtain ⟨z, hz, rz⟩ := atI_reps r1 e1
    exact .inr (.inl ⟨a1, ws, i, z, rfl, rfl, h1, hz, end_d ok p rz⟩)
  · rename_i s1 i
    obtain ⟨c, e1, rfl⟩ := Option.map_eq_some_iff.mp e
    obtain ⟨v1, u1, e2, n1, n2⟩ := nows2 n
    simp only [List.cons.injEq, and_true] at e2
    obtain ⟨rfl, rfl⟩ := e2
    cases (now_int n2)
    obtain ⟨rfl, o⟩ := now_str n1
    refine .inr (.inr ⟨s1, i, c, rfl, rfl, o.2, e1, end_d ok p (rep_str (okS_sign o ?_))⟩)
    obtain ⟨j, _, hj, _⟩ := atI_get e1
    exact Array.mem_toList_iff.mp (List.mem_of_getElem? hj)
  · cases e
/-- a slice's reading, by values -/
def tSlP (G : RC) : V → Option Int → Option Int → Hp → VK → Prop := fun x lo hi H Q => ∃ ω d a, ω.Ok G H ∧ Now G ω H d x ∧ slD d lo hi = some a ∧ PostE G ω H Q (fun _ _ _ => False) (.ok a ω.S)
theorem sl_D : SlR X (tSlP ⟨X.K, ca⟩) := by
  intro pins s σ H x v vl vu lo hi sl Q I rx hs pl pu hp
  refine ((sl_list.or sl_tupA).or sl_str) pins s σ H x v vl vu lo hi sl Q I rx hs pl pu ?_
  obtain ⟨ω, d, a, ok, n, e, p⟩ := hp
  unfold slD at e
  split at e
  · cases e
    obtain ⟨a1, ws, rfl, h1, r1⟩ := n
    refine .inl (.inl ⟨a1, ws, rfl, .of h1, fun q hq => end_lst ok p ?_ hq⟩)
    unfold cutD
    rw [← r1.length]
    exact (r1.drop _).take _
  · cases e
    have n0 : Rep _ ω.F (.tup _) x := n
    obtain ⟨a1, ws, rfl, h1, r1⟩ := now_tup ok n
    rename_i xs
    have rc : Reps ⟨X.K, ca⟩ ω.F (cutD xs lo hi) (cutV ws lo hi) := by
      unfold cutD cutV
      rw [← r1.length]
      exact (r1.drop _).take _
    refine .inl (.inr ⟨a1, ws, rfl, h1, fun hw => end_d ok p ?_, fun _ q hq => end_tup ok p rc hq⟩)
    have : ∀ xs : List D, xs.length = ws.length → cutD xs lo hi = xs := by
      intro xs hx
      unfold cutD
      rw [hx, hw.1, hw.2]
      simp [← hx]
    rw [this _ r1.length.symm]
    exact n0
  · cases e
    obtain ⟨rfl, o⟩ := now_str n
    exact .inr ⟨_, rfl, o.2, end_d ok p (rep_str (okS_cut o _ _))⟩
  · cases e
theorem set_D : PSet X (fun o i v H Q => tP ⟨X.K, ca⟩ setP [o, i, v] H (fun _ H' => Q H')) := by
  intro pins s σ H o i v ov iv u Q I ro ri rv hp
  refine set_list pins s σ H o i v ov iv u Q I ro ri rv ?_
  obtain ⟨ω, ws, ok, r, p⟩ := hp
  unfold liftP at p
  split at p
  · rename_i a S' e
    unfold setP at e
    split at e
    · rename_i n k y
      split at e
      · rename_i zs hs
        split at e <;> simp only [Option.some.injEq, Prod.mk.injEq, reduceCtorEq] at e
        rename_i j hj
        obtain ⟨rfl, rfl⟩ := e
        obtain ⟨u0, us0, e0, ⟨a1, rfl, hm⟩, u1, us1, rfl, r1, u2, us2, rfl, r2, r3⟩ := r
        cases r3
        simp only [List.cons.injEq, and_true] at e0
        obtain ⟨rfl, rfl, rfl⟩ := e0
        have r1 : Rep ⟨X.K, ca⟩ ω.F (.int k) i := r1
        unfold Rep at r1
        subst r1
        obtain ⟨fa, vs0, h1, h2⟩ := ok.cell n _ a1 hs rfl hm
        refine ⟨a1, vs0, k, j, rfl, rfl, h1, by rw [h2.length]; exact hj, ?_⟩
        obtain ⟨ok', le'⟩ := upd_cell (c' := .lst (zs.set j y)) ok hs rfl hm ⟨vs0.set j v, upd_same, h2.set j r2⟩
        exact p _ _ .non rfl le' ok' (rep_non (G := ⟨X.K, ca⟩) (F := ω.F))
      · cases e
    · cases e
  · exact p.elim
end
end Dn

set_option Elab.async false
set_option linter.all false
set_option maxRecDepth 100000
set_option maxHeartbeats 2000000
/-! # Dn, part 7: expressions: functions on data put together, each with its rule -/
namespace Dn
open PySem PySem.Spec L2

def asDs : List W → Option (List D)
  | [] => some []
  | .d x :: r => (asDs r).map (x :: ·)
  | .loc _ :: _ => none
def optM {α : Type} (o : Option α) : M α := fun S => match o with
  | some a => .ok a S
  | none => .stuck
def truD : D → Option Bool
  | .non => some false
  | .bl b => some b
  | .int i => some (i != 0)
  | .str s => some ((s.length : Int) != 0)
  | .lst xs => some (!xs.isEmpty)
  | .tup xs => some (!xs.isEmpty)
  | _ => none
def truW (w : W) : M Bool := fun S => match (view S w).bind truD with
  | some b => .ok b S
  | none => .stuck
def opS (p : Prim) (fa fb : ES) : ES := fun env => (fa env).bind fun w => (fb env).bind fun u => liftP p [w.toW, u.toW]
def unS (p : Prim) (fa : ES) : ES := fun env => (fa env).bind fun w => liftP p [w.toW]
def nilS : AS := fun _ => M.ret []
def consS (fa : ES) (fs : AS) : AS := fun env => (fa env).bind fun w => (fs env).bind fun ws => M.ret (w.toW :: ws)
def callS (p : Sem) (fs : AS) : ES := fun env => (fs env).bind p
def lstS (fs : AS) : ES := fun env => (fs env).bind fun ws => optM ((asDs ws).map fun ds => .own (.lst ds))
def tupS (fs : AS) : ES := fun env => (fs env).bind fun ws => optM ((asDs ws).map fun ds => .d (.tup ds))
def methS (T : String) (p : Prim) (fo : ES) (fs : AS) : ES := fun env => (fo env).bind fun w => fun S => if isTy T S w.toW = true then ((fs env).bind fun ws => liftP p (w.toW :: ws)) S else .stuck
def tstS (fa : ES) : BS := fun env => (fa env).bind fun w => truW w.toW
def notS (fa : BS) : BS := fun env => (fa env).bind fun b => M.ret (!b)
def andS (fa fb : BS) : BS := fun env => (fa env).bind fun b => if b = true then fb env else M.ret false
def orS (fa fb : BS) : BS := fun env => (fa env).bind fun b => if b = true then M.ret true else fb env
def notV (fa : ES) : ES := fun env => (fa env).bind fun w => (truW w.toW).bind fun b => M.ret (.d (.bl (!b)))
def wRW : W → RW
  | .d x => .d x
  | .loc n => .loc n
def andV (fa fb : ES) : ES := fun env => (fa env).bind fun w => (truW w.toW).bind fun b => if b = true then fb env else M.ret (wRW w.toW)
def orV (fa fb : ES) : ES := fun env => (fa env).bind fun w => (truW w.toW).bind fun b => if b = true then M.ret (wRW w.toW) else fb env
def iteS (fc : BS) (fa fb : ES) : ES := fun env => (fc env).bind fun b => if b = true then fa env else fb env
def varS (i : Nat) : ES := fun env => fun S => match env[i]? with
  | some (some w) => .ok (wRW w) S
  | _ => .stuck
def cstS (d : D) : ES := fun _ => M.ret (.d d)
abbrev OS := Env → M (Option Int)
def noS : OS := fun _ => M.ret none
def intS (fa : ES) : OS := fun env => (fa env).bind fun w => match w with
  | .d (.int i) => M.ret (some i)
  | _ => fun _ => .stuck
def slS (fa : ES) (fl fh : OS) : ES := fun env => (fa env).bind fun w => (fl env).bind fun lo => (fh env).bind fun hi => fun S => match (view S w.toW).bind fun d => slD d lo hi with
  | some r => .ok r S
  | none => .stuck

abbrev GX (X : Cx) (ca : CA) : RC := ⟨X.K, ca⟩
section
variable {X : Cx} {ca : CA} {Wx : WX} {a b c e : Expr} {pos : Pos} {fa fb fo : ES} {fs : AS} {ft fu : BS}
theorem repRW_wRW {G : RC} {ω : Wd} {H0 H : Hp} {w : W} {v : V} (r : RepW G ω w v) : RepRW G ω H0 H (wRW w) v := by
  cases w with
  | d x => exact r
  | loc n => exact r
theorem asDs_reps {G : RC} {ω : Wd} : ∀ {ws : List W} {vs : List V} {ds : List D}, RepWs G ω ws vs → asDs ws = some ds → Reps G ω.F ds vs
  | [], _, ds, h, e => by
    simp only [asDs, Option.some.injEq] at e
    subst e; cases h; exact Reps.nil
  | .d x :: r, _, ds, ⟨u, us, rfl, h1, h2⟩, e => by
    simp only [asDs, Option.map_eq_some_iff] at e
    obtain ⟨es, e1, rfl⟩ := e
    exact Reps.cons h1 (asDs_reps h2 e1)
  | .loc _ :: _, _, _, _, e => by simp [asDs] at e
theorem truV_of {ω : Wd} {H : Hp} {w : W} {v : V} {k : Bool} (ok : ω.Ok (GX X ca) H) (r : RepW (GX X ca) ω w v) (e : (view ω.S w).bind truD = some k) : TruV X.K v H k := by
  obtain ⟨d, e1, e2⟩ := Option.bind_eq_some_iff.mp e
  have n := now_of ok r e1
  cases d with
  | non => cases (now_non n); cases e2; rfl
  | bl b => cases (now_bl n); cases e2; rfl
  | int i => cases (now_int n); cases e2; rfl
  | str s => obtain ⟨rfl, o⟩ := now_str n; cases e2; exact ⟨o.2, rfl⟩
  | lst xs =>
    obtain ⟨p, ws, rfl, h1, h2⟩ := n
    cases e2
    refine .inl ⟨ws, .of h1, ?_⟩
    have := h2.length
    cases ws <;> cases xs <;> simp_all
  | tup xs =>
    obtain ⟨p, ws, rfl, h1, h2⟩ := now_tup ok n
    cases e2
    refine .inr (.inl ⟨ws, h1, ?_⟩)
    have := h2.length
    cases ws <;> cases xs <;> simp_all
  | _ => cases e2
theorem pe_varS {i : Nat} {x : Str} (hN : X.N[i]? = some x) (hv : Vis X.env.scope x) (hd : (x == ("__debug__" : Str)) = false) (hcd : (x == ("__classdict__" : Str)) = false) : PE X (.Name x pos) (tE (GX X ca) Wx (varS i)) := by
  refine peImp (pe_var hN hv hd hcd) fun σ H Q h => ?_
  obtain ⟨ω, env, ok, er, p⟩ := h
  unfold varS at p
  split at p
  · rename_i w e
    obtain ⟨v, h1, h2⟩ := er.2 i w e
    exact ⟨v, h1, p ω H v rfl (Le.refl _ _ ok) ok (repRW_wRW h2)⟩
  · exact p.elim
theorem tE_c {d : D} {v : V} (r : ∀ F, Rep (GX X ca) F d v) (h : PE X e (tC v)) : PE X e (tE (GX X ca) Wx (cstS d)) := by
  refine peImp h fun σ H Q h => ?_
  obtain ⟨ω, env, ok, er, p⟩ := h
  exact p ω H v rfl (Le.refl _ _ ok) ok (r _)
theorem Post.mono {α β : Type} {G : RC} {R : Wd → Hp → α → β → Prop} {ω : Wd} {H : Hp} {Q Q' : β → Hp → Prop} {E : XK} {r : Res α} (h : Post G R ω H Q E r) (hq : ∀ b H', Q b H' → Q' b H') : Post G R ω H Q' E r := by
  cases r with
  | ok a S => exact fun ω' H' b e le ok rr => hq _ _ (h ω' H' b e le ok rr)
  | err e S => exact h
  | stuck => exact h
theorem tE_mono {G : RC} {f : ES} {σ : L2.St} {H : Hp} {Q Q' : VK} (h : tE G Wx f σ H Q) (hq : ∀ v H', Q v H' → Q' v H') : tE G Wx f σ H Q' := by
  obtain ⟨ω, env, ok, er, p⟩ := h
  exact ⟨ω, env, ok, er, p.mono hq⟩
theorem tA_mono {G : RC} {f : AS} {σ : L2.St} {H : Hp} {Q Q' : List V → Hp → Prop} (h : tA G Wx f σ H Q) (hq : ∀ v H', Q v H' → Q' v H') : tA G Wx f σ H Q' := by
  obtain ⟨ω, env, ok, er, p⟩ := h
  exact ⟨ω, env, ok, er, p.mono hq⟩
theorem tB_mono {G : RC} {f : BS} {σ : L2.St} {H : Hp} {Q Q' : Bool → Hp → Prop} (h : tB G Wx f σ H Q) (hq : ∀ v H', Q v H' → Q' v H') : tB G Wx f σ H Q' := by
  obtain ⟨ω, env, ok, er, p⟩ := h
  exact ⟨ω, env, ok, er, p.mono hq⟩
/-- two values in a row, kept -/
theorem bind2 {ω : Wd} {H : Hp} {σ : L2.St} {env : Env} {α β : Type} {R : Hp → Wd → Hp → α → β → Prop} {Q : β → Hp → Prop} {k : RW → RW → M α}
    (hR : ∀ {ω H ω1 H1}, Le ω H ω1 H1 → ∀ ω' H' x b, R H1 ω' H' x b → R H ω' H' x b) (ok : ω.Ok (GX X ca) H) (er : EnvR (GX X ca) ω env σ)
    (h : Post (GX X ca) (R H) ω H Q (fun c d H' => Wx c d σ H') (((fa env).bind fun w => (fb env).bind fun u => k w u) ω.S)) :
    tE (GX X ca) Wx fa σ H (fun v H1 => tE (GX X ca) Wx fb σ H1 (fun u H2 => ∃ (ω2 : Wd) (H1' : Wd × Hp) (w w2 : RW), Le ω H ω2 H2 ∧ ω2.Ok (GX X ca) H2 ∧ RepW (GX X ca) ω2 w.toW v ∧ RepW (GX X ca) ω2 w2.toW u ∧ EnvR (GX X ca) ω2 env σ ∧ Le H1'.1 H1'.2 ω2 H2 ∧ Post (GX X ca) (R H1'.2) H1'.1 H1'.2 Q (fun c d H' => Wx c d σ H') (k w w2 ω2.S))) := by
  refine tE_mono (bindW ok er h) fun v H1 ⟨ω1, w, le1, ok1, r1, er1, p1⟩ => ?_
  refine tE_mono (bindW (R := R H1) ok1 er1 (Post.step le1 (hR le1) p1)) fun u H2 ⟨ω2, w2, le2, ok2, r2, er2, p2⟩ => ?_
  exact ⟨ω2, (ω1, H1), w, w2, le1.trans le2, ok2, r1.mono le2, r2, er2, le2, p2⟩
theorem rw_after {ω : Wd} {H : Hp} {ω1 : Wd} {H1 : Hp} (a : Le ω H ω1 H1) (ω' : Wd) (H' : Hp) (x : RW) (b : V) (h : RepRW (GX X ca) ω' H1 H' x b) : RepRW (GX X ca) ω' H H' x b := RepRW.after a h
theorem opS_ok {q : Prim} {σ : L2.St} {H : Hp} {Q : VK} (h : tE (GX X ca) Wx (opS q fa fb) σ H Q) : tOp (fun x y H Q => tP (GX X ca) q [x, y] H Q) (tE (GX X ca) Wx fa) (tE (GX X ca) Wx fb) σ H Q := by
  obtain ⟨ω, env, ok, er, p⟩ := h
  refine tE_mono (bind2 (R := fun H ω' H' w v => RepRW (GX X ca) ω' H H' w v) (k := fun w u => liftP q [w.toW, u.toW]) (fun a => rw_after a) ok er p) fun v H1 h1 => ?_
  refine tE_mono h1 fun u H2 ⟨ω2, _, w, w2, _, ok2, r1, r2, _, le2, p2⟩ => ?_
  exact prim_of (ws := [w.toW, w2.toW]) ok2 le2 ⟨_, _, rfl, r1, _, _, rfl, r2, rfl⟩ p2
theorem pe_opS {op : Operator} {q : DPrim} (ho : OpD X ca (binaryOp op) q) (ha : PE X a (tE (GX X ca) Wx fa)) (hb : PE X b (tE (GX X ca) Wx fb)) : PE X (.BinOp a op b pos) (tE (GX X ca) Wx (opS (liftD q) fa fb)) :=
  peImp (pe_op ho ha hb) fun σ H Q h => opS_ok h
theorem pe_cmpS {op : CmpOp} {q : DPrim} (ho : OpD X ca (compareOp op) q) (ha : PE X a (tE (GX X ca) Wx fa)) (hb : PE X b (tE (GX X ca) Wx fb)) (hm : behindInMarks op b = false) : PE X (.Compare a [op] [b] pos) (tE (GX X ca) Wx (opS (liftD q) fa fb)) :=
  peImp (pe_cmpR ho ha hb hm) fun σ H Q h => opS_ok h
theorem pe_ixS (ha : PE X a (tE (GX X ca) Wx fa)) (hb : PE X b (tE (GX X ca) Wx fb)) (hs : PlainIx b) : PE X (.Subscript a b pos) (tE (GX X ca) Wx (opS (liftD ixD) fa fb)) :=
  peImp (pe_ix (ix_D (ca := ca)) ha hb hs) fun σ H Q h => opS_ok h
theorem pe_unS {op : UnaryOp} {q : Prim} (ho : UnR X (unaryOp op) (fun x H Q => tP (GX X ca) q [x] H Q)) (ha : PE X a (tE (GX X ca) Wx fa)) : PE X (.UnaryOp op a pos) (tE (GX X ca) Wx (unS q fa)) := by
  refine peImp (pe_un ho ha) fun σ H Q h => ?_
  obtain ⟨ω, env, ok, er, p⟩ := h
  refine tE_mono (bindW ok er p) fun v H1 ⟨ω1, w, le1, ok1, r1, er1, p1⟩ => ?_
  exact prim_of (ws := [w.toW]) ok1 le1 ⟨_, _, rfl, r1, rfl⟩ p1
/-! arguments -/
theorem pa_nilS : PA X [] (tA (GX X ca) Wx nilS) := by
  refine paImp (pa_nil (X := X)) fun σ H Q h => ?_
  obtain ⟨ω, env, ok, er, p⟩ := h
  exact p ω H [] rfl (Le.refl _ _ ok) ok rfl
theorem pa_consS {es : List Expr} (ha : PE X e (tE (GX X ca) Wx fa)) (hr : PA X es (tA (GX X ca) Wx fs)) (hs : starEach (e :: es) X.env = (false, eval e X.env) :: starEach es X.env) : PA X (e :: es) (tA (GX X ca) Wx (consS fa fs)) := by
  refine paImp (pa_cons ha hr hs) fun σ H Q h => ?_
  obtain ⟨ω, env, ok, er, p⟩ := h
  refine tE_mono (bindW ok er p) fun v H1 ⟨ω1, w, le1, ok1, r1, er1, p1⟩ => ?_
  refine tA_mono (bindA ok1 er1 (Post.same le1 p1)) fun vs H2 ⟨ω2, ws, le2, ok2, r2, er2, p2⟩ => ?_
  exact p2 ω2 H2 (v :: vs) rfl le2 ok2 ⟨v, vs, rfl, r1.mono le2, r2⟩
theorem pe_callBS {p : BP} {es : List Expr} {q : Pos} (hc : X.calm = true) (hg : Gl X p.name) (hm : X.mg p.name = none) (ha : PA X (e :: es) (tA (GX X ca) Wx fs))
    (he : starEach (e :: es) X.env = (false, eval e X.env) :: starEach es X.env) (hpl : (backTo pos (starEach es X.env)).any (·.1) = false) :
    PE X (.Call (.Name p.name q) (e :: es) [] pos) (tE (GX X ca) Wx (callS (liftP (liftD (bpD p))) fs)) := by
  refine peImp (pe_bp (ca := ca) hc hg hm ha he hpl) fun σ H Q h => ?_
  obtain ⟨ω, env, ok, er, p⟩ := h
  refine tA_mono (bindA ok er p) fun vs H1 ⟨ω1, ws, le1, ok1, r1, er1, p1⟩ => ?_
  exact prim_of ok1 le1 r1 p1
theorem asDs_len : ∀ {ws : List W} {ds : List D}, asDs ws = some ds → ds.length = ws.length
  | [], ds, e => by simp only [asDs, Option.some.injEq] at e; subst e; rfl
  | .d x :: r, ds, e => by
    simp only [asDs, Option.map_eq_some_iff] at e
    obtain ⟨es, e1, rfl⟩ := e
    simp [asDs_len e1]
  | .loc _ :: _, _, e => by simp [asDs] at e
theorem pe_lstS {es : List Expr} (hl : es.length ≤ 1000) (hf : ∀ env S ws S', fs env S = .ok ws S' → ws.length = es.length) (ha : PA X es (tA (GX X ca) Wx fs)) : PE X (.List es pos) (tE (GX X ca) Wx (lstS fs)) := by
  refine peImp (pe_lst ha) fun σ H Q h => ?_
  obtain ⟨ω, env, ok, er, p⟩ := h
  refine ⟨ω, env, ok, er, ?_⟩
  unfold lstS M.bind at p
  cases e : fs env ω.S with
  | ok ws S' =>
    rw [e] at p
    have hn := hf _ _ _ _ e
    intro ω1 H1 vs e1 le1 ok1 r1
    unfold optM at p
    cases e2 : asDs ws with
    | none => simp only [e2, Option.map_none] at p; exact p.elim
    | some ds =>
      simp only [e2, Option.map_some] at p
      refine ⟨?_, fun q hq => ?_⟩
      · rw [r1.length, hn, sizeLine_eq]; omega
      · subst e1
        exact end_lst ok1 (PostE.step le1 p) (asDs_reps r1 e2) hq
  | err x S' => rw [e] at p; exact p
  | stuck => rw [e] at p; exact p
theorem pe_tupS {es : List Expr} {k : Nat} (hl : es.length ≤ 1000) (hf : ∀ env S ws S', fs env S = .ok ws S' → ws.length = es.length) (ha : PA X es (tA (GX X ca) Wx fs)) : PE X (.Tuple es k pos) (tE (GX X ca) Wx (tupS fs)) := by
  refine peImp (pe_tup ha) fun σ H Q h => ?_
  obtain ⟨ω, env, ok, er, p⟩ := h
  refine ⟨ω, env, ok, er, ?_⟩
  unfold tupS M.bind at p
  cases e : fs env ω.S with
  | ok ws S' =>
    rw [e] at p
    have hn := hf _ _ _ _ e
    intro ω1 H1 vs e1 le1 ok1 r1
    unfold optM at p
    cases e2 : asDs ws with
    | none => simp only [e2, Option.map_none] at p; exact p.elim
    | some ds =>
      simp only [e2, Option.map_some] at p
      refine ⟨?_, fun q hq => ?_⟩
      · rw [r1.length, hn, sizeLine_eq]; omega
      · subst e1
        exact end_tup ok1 (PostE.step le1 p) (asDs_reps r1 e2) hq
  | err x S' => rw [e] at p; exact p
  | stuck => rw [e] at p; exact p
theorem meth_pre {m : MP} {σ : L2.St} {H : Hp} {Q : VK} (h : tE (GX X ca) Wx (methS m.T (mpP m) fo fs) σ H Q) :
    tE (GX X ca) Wx fo σ H (fun x H1 => tyV X.K m.T x H1 ∧ tA (GX X ca) Wx fs σ H1 fun xs H2 => tP (GX X ca) (mpP m) (x :: xs) H2 Q) := by
  obtain ⟨ω, env, ok, er, p⟩ := h
  refine tE_mono (bindW ok er p) fun v H1 ⟨ω1, w, le1, ok1, r1, er1, p1⟩ => ?_
  split at p1
  · rename_i ht
    refine ⟨isTy_ty (G := GX X ca) ok1 r1 ht, ?_⟩
    refine tA_mono (bindA ok1 er1 (Post.step le1 (rw_after le1) p1)) fun vs H2 ⟨ω2, ws, le2, ok2, r2, er2, p2⟩ => ?_
    exact prim_of (ws := w.toW :: ws) ok2 le2 ⟨v, vs, rfl, r1.mono le2, r2⟩ p2
  · exact p1.elim
theorem pe_methS {m : MP} {o : Expr} {apos : Pos} {es : List Expr} (ho : PE X o (tE (GX X ca) Wx fo)) (ha : PA X (e :: es) (tA (GX X ca) Wx fs)) (hbase : attributeBase o m.name X.env (eval o X.env) = eval o X.env)
    (hfew : ((backTo pos (starEach (e :: es) X.env)).all (fun x => !x.1) && (backToKw pos (keywordEach [] X.env)).all (fun x => x.1.isSome) && decide ((e :: es).length + ([] : List Keyword).length + (if ([] : List Keyword).isEmpty then 0 else 1) < 30)) = true)
    (hline : (apos.endLine == pos.line) = true) (hs : starEach (e :: es) X.env = (false, eval e X.env) :: starEach es X.env) (hplain : (backTo pos (starEach es X.env)).any (·.1) = false) :
    PE X (.Call (.Attribute o m.name apos) (e :: es) [] pos) (tE (GX X ca) Wx (methS m.T (mpP m) fo fs)) :=
  peImp (pe_bm (mp_slot m).1 (mp_slot m).2.1 (mp_slot m).2.2 (mp_mt (ca := ca) m) ho ha hbase hfew hline hs hplain) fun σ H Q h => meth_pre h
/-! tests -/
theorem tru_step {ω ω1 : Wd} {H H1 : Hp} {α β : Type} {R : Wd → Hp → α → β → Prop} {Q : β → Hp → Prop} {E : XK} {w : W} {v : V} {k : Bool → M α} (ok : ω1.Ok (GX X ca) H1) (r : RepW (GX X ca) ω1 w v)
    (h : Post (GX X ca) R ω H Q E ((truW w).bind k ω1.S)) : ∃ b, TruV X.K v H1 b ∧ Post (GX X ca) R ω H Q E (k b ω1.S) := by
  unfold M.bind truW at h
  cases e : (view ω1.S w).bind truD with
  | none => rw [e] at h; exact h.elim
  | some b => rw [e] at h; exact ⟨b, truV_of ok r e, h⟩
theorem pt_tstS (ha : PE X a (tE (GX X ca) Wx fa)) (he : ∀ whole, isTrue a X.env whole = (do let v ← whole; standAt a.pos; holding [v] (truthy v))) : PT X a (tB (GX X ca) Wx (tstS fa)) := by
  refine ptImp (pt_truth ha he) fun σ H Q h => ?_
  obtain ⟨ω, env, ok, er, p⟩ := h
  refine tE_mono (bindW ok er p) fun v H1 ⟨ω1, w, le1, ok1, r1, er1, p1⟩ => ?_
  have p1' : PostB (GX X ca) ω H Q (fun c d H' => Wx c d σ H') ((truW w.toW).bind M.ret ω1.S) := by
    unfold M.bind
    cases e : truW w.toW ω1.S with
    | ok b S => rw [e] at p1; exact p1
    | err x S => rw [e] at p1; exact p1
    | stuck => rw [e] at p1; exact p1
  obtain ⟨b, hb, p2⟩ := tru_step ok1 r1 p1'
  exact ⟨b, hb, p2 ω1 H1 b rfl le1 ok1 rfl⟩
/-- a comparison's answer is a bool -/
def Bl (f : ES) : Prop := ∀ env S a S', f env S = .ok a S' → ∃ b, a = .d (.bl b)
theorem tst_bl {σ : L2.St} {H : Hp} {Q : Bool → Hp → Prop} (hb : Bl fa) (h : tB (GX X ca) Wx (tstS fa) σ H Q) : tTest (tE (GX X ca) Wx fa) σ H Q := by
  obtain ⟨ω, env, ok, er, p⟩ := h
  refine ⟨ω, env, ok, er, ?_⟩
  unfold tstS M.bind at p
  cases e : fa env ω.S with
  | ok w S' =>
    rw [e] at p
    obtain ⟨b, rfl⟩ := hb _ _ _ _ e
    intro ω1 H1 v e1 le1 ok1 r1
    have r1 : Rep (GX X ca) ω1.F (.bl b) v := r1
    unfold Rep at r1
    exact ⟨b, r1, p ω1 H1 b e1 le1 ok1 rfl⟩
  | err x S' => rw [e] at p; exact p
  | stuck => rw [e] at p; exact p
theorem pt_cmpS {op : CmpOp} {q : DPrim} (ho : OpD X ca (compareOp op) q) (ha : PE X a (tE (GX X ca) Wx fa)) (hb : PE X b (tE (GX X ca) Wx fb)) (hm : behindInMarks op b = false) (hbl : Bl (opS (liftD q) fa fb)) :
    PT X (.Compare a [op] [b] pos) (tB (GX X ca) Wx (tstS (opS (liftD q) fa fb))) :=
  ptImp (pt_cmpR ho ha hb hm) fun σ H Q h => by
    have z := tst_bl hbl h
    exact opS_ok (Q := fun x H' => ∃ k, x = .bl k ∧ Q k H') z
theorem pt_notS (ha : PT X a (tB (GX X ca) Wx ft)) : PT X (.UnaryOp .Not a pos) (tB (GX X ca) Wx (notS ft)) := by
  refine ptImp (pt_not ha) fun σ H Q h => ?_
  obtain ⟨ω, env, ok, er, p⟩ := h
  refine tB_mono (bindB ok er p) fun b H1 ⟨ω1, le1, ok1, er1, p1⟩ => ?_
  exact p1 ω1 H1 (!b) rfl le1 ok1 rfl
theorem and_pre {σ : L2.St} {H : Hp} {Q : Bool → Hp → Prop} (h : tB (GX X ca) Wx (andS ft fu) σ H Q) : tAnd (tB (GX X ca) Wx ft) (tB (GX X ca) Wx fu) σ H Q := by
  obtain ⟨ω, env, ok, er, p⟩ := h
  refine tB_mono (bindB ok er p) fun b H1 ⟨ω1, le1, ok1, er1, p1⟩ => ?_
  cases b with
  | true =>
    rw [if_pos rfl] at p1 ⊢
    exact ⟨ω1, env, ok1, er1, Post.same le1 p1⟩
  | false =>
    rw [if_neg Bool.false_ne_true] at p1 ⊢
    exact p1 ω1 H1 false rfl le1 ok1 rfl
theorem or_pre {σ : L2.St} {H : Hp} {Q : Bool → Hp → Prop} (h : tB (GX X ca) Wx (orS ft fu) σ H Q) : tOr (tB (GX X ca) Wx ft) (tB (GX X ca) Wx fu) σ H Q := by
  obtain ⟨ω, env, ok, er, p⟩ := h
  refine tB_mono (bindB ok er p) fun b H1 ⟨ω1, le1, ok1, er1, p1⟩ => ?_
  cases b with
  | true =>
    rw [if_pos rfl] at p1 ⊢
    exact p1 ω1 H1 true rfl le1 ok1 rfl
  | false =>
    rw [if_neg Bool.false_ne_true] at p1 ⊢
    exact ⟨ω1, env, ok1, er1, Post.same le1 p1⟩
theorem pwImp {t t' : TT} (h : PW X e t) (hi : ∀ σ H Q, t' σ H Q → t σ H Q) : PW X e t' := ⟨fun wh pins s σ H Q I hw => h.run wh pins s σ H Q I (hi σ H Q hw)⟩
theorem pw_andS {rest : List Expr} (ha : PT X a (tB (GX X ca) Wx ft)) (hb : PW X (.BoolOp .And (b :: rest) pos) (tB (GX X ca) Wx fu)) : PW X (.BoolOp .And (a :: b :: rest) pos) (tB (GX X ca) Wx (andS ft fu)) :=
  pwImp (pw_and ha hb) fun σ H Q h => and_pre h
theorem pw_orS {rest : List Expr} (ha : PT X a (tB (GX X ca) Wx ft)) (hb : PW X (.BoolOp .Or (b :: rest) pos) (tB (GX X ca) Wx fu)) : PW X (.BoolOp .Or (a :: b :: rest) pos) (tB (GX X ca) Wx (orS ft fu)) :=
  pwImp (pw_or ha hb) fun σ H Q h => or_pre h
/-! and, or, not, if as values -/
theorem pe_notVS (ha : PE X a (tE (GX X ca) Wx fa)) : PE X (.UnaryOp .Not a pos) (tE (GX X ca) Wx (notV fa)) := by
  refine peImp (pe_notT ha) fun σ H Q h => ?_
  obtain ⟨ω, env, ok, er, p⟩ := h
  refine tE_mono (bindW ok er p) fun v H1 ⟨ω1, w, le1, ok1, r1, er1, p1⟩ => ?_
  obtain ⟨b, hb, p2⟩ := tru_step ok1 r1 p1
  exact ⟨b, hb, p2 ω1 H1 (.bl (!b)) rfl le1 ok1 (rep_bl (G := GX X ca) (F := ω1.F) (!b))⟩
theorem pe_andVS {rest : List Expr} (ha : PE X a (tE (GX X ca) Wx fa)) (hb : PE X (.BoolOp .And (b :: rest) pos) (tE (GX X ca) Wx fb)) : PE X (.BoolOp .And (a :: b :: rest) pos) (tE (GX X ca) Wx (andV fa fb)) := by
  refine peImp (pe_andT ha hb) fun σ H Q h => ?_
  obtain ⟨ω, env, ok, er, p⟩ := h
  refine tE_mono (bindW ok er p) fun v H1 ⟨ω1, w, le1, ok1, r1, er1, p1⟩ => ?_
  obtain ⟨k, hb, p2⟩ := tru_step ok1 r1 p1
  refine ⟨k, hb, ?_⟩
  cases k with
  | true =>
    rw [if_pos rfl] at p2 ⊢
    exact ⟨ω1, env, ok1, er1, PostE.step le1 p2⟩
  | false =>
    rw [if_neg Bool.false_ne_true] at p2 ⊢
    exact p2 ω1 H1 v rfl le1 ok1 (repRW_wRW r1)
theorem pe_orVS {rest : List Expr} (ha : PE X a (tE (GX X ca) Wx fa)) (hb : PE X (.BoolOp .Or (b :: rest) pos) (tE (GX X ca) Wx fb)) : PE X (.BoolOp .Or (a :: b :: rest) pos) (tE (GX X ca) Wx (orV fa fb)) := by
  refine peImp (pe_orT ha hb) fun σ H Q h => ?_
  obtain ⟨ω, env, ok, er, p⟩ := h
  refine tE_mono (bindW ok er p) fun v H1 ⟨ω1, w, le1, ok1, r1, er1, p1⟩ => ?_
  obtain ⟨k, hb, p2⟩ := tru_step ok1 r1 p1
  refine ⟨k, hb, ?_⟩
  cases k with
  | true =>
    rw [if_pos rfl] at p2 ⊢
    exact p2 ω1 H1 v rfl le1 ok1 (repRW_wRW r1)
  | false =>
    rw [if_neg Bool.false_ne_true] at p2 ⊢
    exact ⟨ω1, env, ok1, er1, PostE.step le1 p2⟩
theorem pe_iteS (hc : PT X c (tB (GX X ca) Wx ft)) (ha : PE X a (tE (GX X ca) Wx fa)) (hb : PE X b (tE (GX X ca) Wx fb)) : PE X (.IfExp c a b pos) (tE (GX X ca) Wx (iteS ft fa fb)) := by
  refine peImp (pe_ifExp hc ha hb) fun σ H Q h => ?_
  obtain ⟨ω, env, ok, er, p⟩ := h
  refine tB_mono (bindB ok er p) fun k H1 ⟨ω1, le1, ok1, er1, p1⟩ => ?_
  cases k with
  | true =>
    rw [if_pos rfl] at p1 ⊢
    exact ⟨ω1, env, ok1, er1, PostE.step le1 p1⟩
  | false =>
    rw [if_neg Bool.false_ne_true] at p1 ⊢
    exact ⟨ω1, env, ok1, er1, PostE.step le1 p1⟩
/-! slices -/
def tO (G : RC) (Wx : WX) (f : OS) : TO := fun σ H Q => ∃ ω env, ω.Ok G H ∧ EnvR G ω env σ ∧ Post G (fun _ _ o o' => o' = o) ω H Q (fun c d H' => Wx c d σ H') (f env ω.S)
theorem poImp {eo : Option Expr} {t t' : TO} (h : PO X eo t) (hi : ∀ σ H Q, t' σ H Q → t σ H Q) : PO X eo t' := ⟨fun pins s σ H Q I hw => h.run pins s σ H Q I (hi σ H Q hw)⟩
theorem po_noS : PO X none (tO (GX X ca) Wx noS) := by
  refine poImp po_none fun σ H Q h => ?_
  obtain ⟨ω, env, ok, er, p⟩ := h
  exact p ω H none rfl (Le.refl _ _ ok) ok rfl
theorem po_intS (ha : PE X e (tE (GX X ca) Wx fa)) : PO X (some e) (tO (GX X ca) Wx (intS fa)) := by
  refine poImp (po_some ha) fun σ H Q h => ?_
  obtain ⟨ω, env, ok, er, p⟩ := h
  refine tE_mono (bindE (E := fun c d H' => Wx c d σ H') ok er p) fun v H1 ⟨ω1, w, le1, ok1, r1, er1, p1⟩ => ?_
  cases w with
  | d x =>
    cases x with
    | int i =>
      have r1 : Rep (GX X ca) ω1.F (.int i) v := r1
      unfold Rep at r1
      exact ⟨i, r1, p1 ω1 H1 (some i) rfl le1 ok1 rfl⟩
    | _ => exact p1.elim
  | _ => exact p1.elim
theorem bindO {ω : Wd} {H : Hp} {σ : L2.St} {env : Env} {α β : Type} {R : Wd → Hp → α → β → Prop} {Q : β → Hp → Prop} {f : OS} {k : Option Int → M α} (ok : ω.Ok (GX X ca) H) (er : EnvR (GX X ca) ω env σ)
    (h : Post (GX X ca) R ω H Q (fun c d H' => Wx c d σ H') ((f env).bind k ω.S)) :
    tO (GX X ca) Wx f σ H (fun b H1 => ∃ ω1, Le ω H ω1 H1 ∧ ω1.Ok (GX X ca) H1 ∧ EnvR (GX X ca) ω1 env σ ∧ Post (GX X ca) R ω H Q (fun c d H' => Wx c d σ H') (k b ω1.S)) := by
  refine ⟨ω, env, ok, er, ?_⟩
  unfold M.bind at h
  cases e : f env ω.S with
  | ok w S' =>
    rw [e] at h
    intro ω' H' b e1 le ok' r
    subst r
    exact ⟨ω', le, ok', er.mono le, by rw [e1]; exact h⟩
  | err x S' => rw [e] at h; exact h
  | stuck => rw [e] at h; exact h
theorem tO_mono {G : RC} {f : OS} {σ : L2.St} {H : Hp} {Q Q' : Option Int → Hp → Prop} (h : tO G Wx f σ H Q) (hq : ∀ v H', Q v H' → Q' v H') : tO G Wx f σ H Q' := by
  obtain ⟨ω, env, ok, er, p⟩ := h
  exact ⟨ω, env, ok, er, p.mono hq⟩
theorem pe_slS {lo hi : Option Expr} {p2 : Pos} {fl fh : OS} (ha : PE X a (tE (GX X ca) Wx fa)) (hl : PO X lo (tO (GX X ca) Wx fl)) (hh : PO X hi (tO (GX X ca) Wx fh)) :
    PE X (.Subscript a (.Slice lo hi none p2) pos) (tE (GX X ca) Wx (slS fa fl fh)) := by
  refine peImp (pe_slice (sl_D (ca := ca)) ha hl hh) fun σ H Q h => ?_
  obtain ⟨ω, env, ok, er, p⟩ := h
  refine tE_mono (bindW ok er p) fun v H1 ⟨ω1, w, le1, ok1, r1, er1, p1⟩ => ?_
  refine tO_mono (bindO ok1 er1 (Post.step le1 (rw_after le1) p1)) fun lo H2 ⟨ω2, le2, ok2, er2, p2⟩ => ?_
  refine tO_mono (bindO ok2 er2 (Post.step le2 (rw_after le2) p2)) fun hi H3 ⟨ω3, le3, ok3, er3, p3⟩ => ?_
  have r3 := (r1.mono le2).mono le3
  cases e : (view ω3.S w.toW).bind fun d => slD d lo hi with
  | none => rw [e] at p3; exact p3.elim
  | some r =>
    rw [e] at p3
    obtain ⟨d, e1, e2⟩ := Option.bind_eq_some_iff.mp e
    refine ⟨ω3, d, r, ok3, now_of ok3 r3 e1, e2, ?_⟩
    exact PostE.step le3 p3
end
end Dn

set_option Elab.async false
set_option linter.all false
set_option maxRecDepth 100000
set_option maxHeartbeats 2000000
/-! # Dn, part 8: is None, isinstance of built-in types, minus -/
namespace Dn
open PySem PySem.Spec L2

def nonW : W → Bool
  | .d .non => true
  | _ => false
def isNS (neg : Bool) (fa : ES) : ES := fun env => (fa env).bind fun w => M.ret (.d (.bl (if neg = true then !nonW w.toW else nonW w.toW)))
inductive TyK where
  | bool | int | str | list | tuple
  deriving DecidableEq
def TyK.name : TyK → Str
  | .bool => "bool" | .int => "int" | .str => "str" | .list => "list" | .tuple => "tuple"
def TyK.nm : TyK → String
  | .bool => "bool" | .int => "int" | .str => "str" | .list => "list" | .tuple => "tuple"
def tyN : D → Option String
  | .non => some "NoneType" | .bl _ => some "bool" | .int _ => some "int" | .str _ => some "str" | .lst _ => some "list" | .tup _ => some "tuple"
  | _ => none
def isT : TyK → D → Option Bool
  | _, .non => some false
  | t, .bl _ => some (t == .bool || t == .int)
  | t, .int _ => some (t == .int)
  | t, .str _ => some (t == .str)
  | t, .lst _ => some (t == .list)
  | t, .tup _ => some (t == .tuple)
  | _, _ => none
def isiS (t : TyK) (fa : ES) : ES := fun env => (fa env).bind fun w => fun S => match (view S w.toW).bind (isT t) with
  | some b => .ok (.d (.bl b)) S
  | none => .stuck
def negD : DPrim
  | [.int i] => some (.d (.int (-i)))
  | _ => none
section
variable {X : Cx} {ca : CA} {Wx : WX} {a b c e : Expr} {pos : Pos} {fa fb fo : ES}
theorem nonW_ok {G : RC} {ω : Wd} {w : W} {v : V} (r : RepW G ω w v) : decide (v = .non) = nonW w := by
  cases w with
  | loc n => obtain ⟨a, rfl, _⟩ := r; rfl
  | d x =>
    have r : Rep G ω.F x v := r
    cases x with
    | non => unfold Rep at r; subst r; rfl
    | bl _ => unfold Rep at r; subst r; rfl
    | int _ => unfold Rep at r; subst r; rfl
    | str _ => unfold Rep at r; obtain ⟨rfl, _⟩ := r; rfl
    | tup _ => unfold Rep at r; obtain ⟨_, _, rfl, _⟩ := r; rfl
    | lst _ => unfold Rep at r; obtain ⟨_, _, rfl, _⟩ := r; rfl
    | ins _ _ _ => unfold Rep at r; obtain ⟨_, _, _, rfl, _⟩ := r; rfl
    | scr _ => unfold Rep at r; obtain ⟨_, rfl, _⟩ := r; rfl
    | dic _ _ _ => unfold Rep at r; obtain ⟨_, _, rfl, _⟩ := r; rfl
    | exn _ _ _ => unfold Rep at r; obtain ⟨_, _, _, _, _, rfl, _⟩ := r; rfl
theorem pe_isNS {j : Nat} {p' : Pos} (ha : PE X a (tE (GX X ca) Wx fa)) : PE X (.Compare a [.Is] [.Constant .none j p'] pos) (tE (GX X ca) Wx (isNS false fa)) := by
  refine peImp (pe_cmp (pc_isN ha) rfl) fun σ H Q h => ?_
  obtain ⟨ω, env, ok, er, p⟩ := h
  refine tE_mono (bindW ok er p) fun v H1 ⟨ω1, w, le1, ok1, r1, er1, p1⟩ => ?_
  rw [nonW_ok r1]
  exact p1 ω1 H1 _ rfl le1 ok1 (rep_bl (G := GX X ca) (F := ω1.F) _)
theorem pe_notNS {j : Nat} {p' : Pos} (ha : PE X a (tE (GX X ca) Wx fa)) : PE X (.Compare a [.IsNot] [.Constant .none j p'] pos) (tE (GX X ca) Wx (isNS true fa)) := by
  refine peImp (pe_cmp (pc_notN ha) rfl) fun σ H Q h => ?_
  obtain ⟨ω, env, ok, er, p⟩ := h
  refine tE_mono (bindW ok er p) fun v H1 ⟨ω1, w, le1, ok1, r1, er1, p1⟩ => ?_
  rw [nonW_ok r1]
  exact p1 ω1 H1 _ rfl le1 ok1 (rep_bl (G := GX X ca) (F := ω1.F) _)
theorem bl_isNS {neg : Bool} : Bl (isNS neg fa) := by
  intro env S a S' h
  unfold isNS M.bind at h
  cases e : fa env S with
  | ok w S1 => rw [e] at h; cases h; exact ⟨_, rfl⟩
  | err x S1 => rw [e] at h; cases h
  | stuck => rw [e] at h; cases h
theorem pt_isNS {j : Nat} {p' : Pos} (ha : PE X a (tE (GX X ca) Wx fa)) : PT X (.Compare a [.Is] [.Constant .none j p'] pos) (tB (GX X ca) Wx (tstS (isNS false fa))) := by
  refine ptImp (pt_cmp (pc_isN ha) rfl) fun σ H Q h => ?_
  have z := tst_bl bl_isNS h
  obtain ⟨ω, env, ok, er, p⟩ := z
  refine tE_mono (bindW ok er p) fun v H1 ⟨ω1, w, le1, ok1, r1, er1, p1⟩ => ?_
  rw [nonW_ok r1]
  exact p1 ω1 H1 _ rfl le1 ok1 (rep_bl (G := GX X ca) (F := ω1.F) _)
theorem pt_notNS {j : Nat} {p' : Pos} (ha : PE X a (tE (GX X ca) Wx fa)) : PT X (.Compare a [.IsNot] [.Constant .none j p'] pos) (tB (GX X ca) Wx (tstS (isNS true fa))) := by
  refine ptImp (pt_cmp (pc_notN ha) rfl) fun σ H Q h => ?_
  have z := tst_bl bl_isNS h
  obtain ⟨ω, env, ok, er, p⟩ := z
  refine tE_mono (bindW ok er p) fun v H1 ⟨ω1, w, le1, ok1, r1, er1, p1⟩ => ?_
  rw [nonW_ok r1]
  exact p1 ω1 H1 _ rfl le1 ok1 (rep_bl (G := GX X ca) (F := ω1.F) _)
theorem isT_kit {t : TyK} {d : D} {b : Bool} (h : isT t d = some b) : ∃ n, tyN d = some n ∧ kitB n t.nm = some b := by
  cases d <;> simp only [isT, Option.some.injEq, reduceCtorEq] at h <;> subst h <;> refine ⟨_, rfl, ?_⟩ <;> cases t <;> decide +kernel
theorem tyX_now {G : RC} {ω : Wd} {H : Hp} {d : D} {v : V} {n : String} (ok : ω.Ok G H) (h : tyN d = some n) (r : Now G ω H d v) : TyX G.K H v (.type n) := by
  cases d with
  | non => cases h; cases (now_non r); exact .base .non
  | bl b => cases h; cases (now_bl r); exact .base (.bl _)
  | int i => cases h; cases (now_int r); exact .base (.int _)
  | str s => cases h; obtain ⟨rfl, _⟩ := now_str r; exact .base (.str _)
  | lst xs => cases h; obtain ⟨a, ws, rfl, h1, _⟩ := r; exact .base (.lst h1)
  | tup xs =>
    cases h
    obtain ⟨a, ws, rfl, h1, _⟩ := now_tup ok r
    rcases h1 with (h1 | ⟨o, h1⟩) | ⟨o, its, k, h1, h2, _⟩
    · exact .base (.tup h1)
    · exact .fTuple h1
    · exact .kTuple h1 h2
  | _ => cases h
theorem ty_boot (t : TyK) : bootBuiltins t.name = some (.type t.nm) := by cases t <;> decide +kernel
theorem ty_names (t : TyK) : t.name ≠ "__name__" ∧ (t.name == ("__debug__" : Str)) = false := by cases t <;> decide
theorem pe_isiS {t : TyK} {q q2 : Pos} (hg : Gl X "isinstance") (hm : X.mg "isinstance" = none) (hg2 : Gl X t.name) (hm2 : X.mg t.name = none) (ha : PE X e (tE (GX X ca) Wx fa))
    (he : starEach [e, .Name t.name q2] X.env = (false, eval e X.env) :: starEach [.Name t.name q2] X.env) :
    PE X (.Call (.Name "isinstance" q) [e, .Name t.name q2] [] pos) (tE (GX X ca) Wx (isiS t fa)) := by
  have h2 : PE X (.Name t.name q2) (tC (.ty t.nm)) := pe_bltn hg2 hm2 (ty_boot t) rfl (ty_names t).1 (ty_names t).2
  refine peImp (pe_callB call_isi hg hm (by decide +kernel) (pa_cons ha (pa_cons h2 pa_nil (by rfl)) he) (by decide) (by decide) he (by rfl)) fun σ H Q h => ?_
  obtain ⟨ω, env, ok, er, p⟩ := h
  refine tE_mono (bindW ok er p) fun v H1 ⟨ω1, w, le1, ok1, r1, er1, p1⟩ => ?_
  cases e1 : (view ω1.S w.toW).bind (isT t) with
  | none => rw [e1] at p1; exact p1.elim
  | some b =>
    rw [e1] at p1
    obtain ⟨d, e2, e3⟩ := Option.bind_eq_some_iff.mp e1
    obtain ⟨n, h3, h4⟩ := isT_kit e3
    exact ⟨v, .ty t.nm, .type n, .type t.nm, b, rfl, .ty _, tyX_now (G := GX X ca) ok1 h3 (now_of ok1 r1 e2), kit_ty h4, p1 ω1 H1 _ rfl le1 ok1 (rep_bl (G := GX X ca) (F := ω1.F) b)⟩
theorem un_negD : UnR X (unaryOp .USub) (fun x H Q => tP (GX X ca) (liftD negD) [x] H Q) := by
  intro pins s σ H x v Q I rx hp
  refine un_neg pins s σ H x v Q I rx ?_
  refine liftD_ok (G := GX X ca) (r := fun vs H Q => ∀ x, vs = [x] → rU (fun i => .int (-i)) x H Q) (fun ω H ds vs a Q ok n e p => ?_) hp x rfl
  rintro x rfl
  unfold negD at e
  split at e
  · cases e
    obtain ⟨v1, e2, n1⟩ := nows1 n
    simp only [List.cons.injEq, and_true] at e2
    subst e2
    cases (now_int n1)
    exact ⟨_, rfl, end_d ok p (rep_int _)⟩
  · cases e
theorem pe_negS (ha : PE X a (tE (GX X ca) Wx fa)) : PE X (.UnaryOp .USub a pos) (tE (GX X ca) Wx (unS (liftD negD) fa)) := pe_unS un_negD ha
end
end Dn

set_option Elab.async false
set_option linter.all false
set_option maxRecDepth 100000
set_option maxHeartbeats 2000000
/-! # Dn, part 9: what is walked, targets, list comprehensions -/
namespace Dn
open PySem PySem.Spec L2

abbrev Gs := List (Nat × List D)
abbrev IS := Env → M (Gs × List D)
/-- the live lists that are walked stand as they stood -/
def gOk (gs : Gs) (S : Store) : Prop := ∀ p ∈ gs, S[p.1]? = some (.lst p.2)
def gOkB (gs : Gs) (S : Store) : Bool := gs.all fun p => match S[p.1]? with
  | some (.lst xs) => D.bqs xs p.2
  | _ => false
theorem gOkB_iff {gs : Gs} {S : Store} : gOkB gs S = true ↔ gOk gs S := by
  unfold gOkB gOk
  rw [List.all_eq_true]
  refine ⟨fun h p hp => ?_, fun h p hp => ?_⟩
  · have z := h p hp
    split at z
    · rename_i xs e
      rw [e, D.bqs_eq z]
    · cases z
  · rw [h p hp]
    exact D.bqs_refl _
instance {gs : Gs} {S : Store} : Decidable (gOk gs S) := decidable_of_iff (gOkB gs S = true) gOkB_iff
def Walk (G : RC) (J : It) (gs : Gs) (xs : List D) (ω0 : Wd) : Prop :=
  ∀ (ω : Wd) (H : Hp) (i : Nat), Sub ω0.F ω.F → ω0.mu <+: ω.mu → ω.Ok G H → gOk gs ω.S →
    (∀ d, xs[i]? = some d → J.go i H ∧ ∀ x H', J.yld i H x H' → ∃ ω', ω'.S = ω.S ∧ Le ω H ω' H' ∧ ω'.Ok G H' ∧ Rep G ω'.F d x) ∧ (i = xs.length → J.stop i H)
def tI (G : RC) (Wx : WX) (f : IS) : TI := fun σ H R => ∃ ω env, ω.Ok G H ∧ EnvR G ω env σ ∧ Post G (fun ω' _ (a : Gs × List D) (J : It) => Walk G J a.1 a.2 ω') ω H R (fun c d H' => Wx c d σ H') (f env ω.S)
def signsD (s : Str) : List D := s.cps.toList.map fun c => .str ⟨#[c]⟩
def itemsW (w : W) : M (Gs × List D) := fun S => match w with
  | .d (.lst xs) => .ok ([], xs) S
  | .d (.tup xs) => .ok ([], xs) S
  | .d (.str s) => .ok ([], signsD s) S
  | .loc n => match S[n]? with
    | some (.lst xs) => .ok ([(n, xs)], xs) S
    | _ => .stuck
  | _ => .stuck
def overS (fa : ES) : IS := fun env => (fa env).bind fun w => itemsW w.toW
def rngD (lo : Int) (n : Nat) : List D := (List.range n).map fun k => .int (lo + (k : Nat))
def rngS (fs : AS) : IS := fun env => (fs env).bind fun ws => fun S => match ws with
  | [.d (.int j)] => if -(2 ^ 62) ≤ j ∧ j < 2 ^ 62 then .ok ([], rngD 0 j.toNat) S else .stuck
  | [.d (.int i), .d (.int j)] => if -(2 ^ 62) ≤ i ∧ i < 2 ^ 62 ∧ -(2 ^ 62) ≤ j ∧ j < 2 ^ 62 then .ok ([], rngD i (j - i).toNat) S else .stuck
  | _ => .stuck

section
variable {X : Cx} {ca : CA} {Wx : WX} {a b c e tg : Expr} {pos : Pos} {fa fb fo : ES} {fs : AS}
theorem bindW1 {G : RC} {ω : Wd} {H : Hp} {σ : L2.St} {env : Env} {α β : Type} {R : Wd → Hp → α → β → Prop} {Q : β → Hp → Prop} {f : ES} {k : RW → M α} {w : RW} {S' : Store} (e : f env ω.S = .ok w S') (ok : ω.Ok G H) (er : EnvR G ω env σ)
    (h : Post G R ω H Q (fun c d H' => Wx c d σ H') ((f env).bind k ω.S)) :
    tE G Wx f σ H (fun v H1 => ∃ ω1, Le ω H ω1 H1 ∧ ω1.Ok G H1 ∧ RepW G ω1 w.toW v ∧ EnvR G ω1 env σ ∧ ω1.S = S' ∧ Post G R ω H Q (fun c d H' => Wx c d σ H') (k w S')) := by
  refine ⟨ω, env, ok, er, ?_⟩
  unfold M.bind at h
  rw [e] at h ⊢
  intro ω' H' v e1 le ok' r
  obtain ⟨ω2, b1, b2, b3, b4⟩ := keep_rw ok' le r
  exact ⟨ω2, b2, b3, b4, er.mono b2, by rw [b1]; exact e1, h⟩
theorem tE_err {G : RC} {ω : Wd} {H : Hp} {σ : L2.St} {env : Env} {α β : Type} {R : Wd → Hp → α → β → Prop} {Q : β → Hp → Prop} {Q' : VK} {f : ES} {k : RW → M α} (e : ∀ w S', f env ω.S ≠ .ok w S') (ok : ω.Ok G H) (er : EnvR G ω env σ)
    (h : Post G R ω H Q (fun c d H' => Wx c d σ H') ((f env).bind k ω.S)) : tE G Wx f σ H Q' := by
  refine ⟨ω, env, ok, er, ?_⟩
  unfold M.bind at h
  cases e1 : f env ω.S with
  | ok w S' => exact (e _ _ e1).elim
  | err x S' => rw [e1] at h; exact h
  | stuck => rw [e1] at h; exact h.elim
theorem piImp {tg e : Expr} {t t' : TI} (h : PI X tg e t) (hi : ∀ σ H R, t' σ H R → t σ H R) : PI X tg e t' := ⟨fun pins s σ H R I hw => h.run pins s σ H R I (hi σ H R hw)⟩
theorem piOr {tg e : Expr} {t t' : TI} (h : PI X tg e t) (h' : PI X tg e t') : PI X tg e (fun σ H R => t σ H R ∨ t' σ H R) := ⟨fun pins s σ H R I hw => by
  rcases hw with hw | hw
  · exact h.run pins s σ H R I hw
  · exact h'.run pins s σ H R I hw⟩
theorem walk_lst {G : RC} {ω0 : Wd} {a : Addr} {ws : List V} {xs : List D} (h : ω0.F a = some (.lst ws)) (r : Reps G ω0.F xs ws) : Walk G (Itl G.K a) [] xs ω0 := by
  intro ω H i sb pr ok g
  have hq : SqL G.K H a ws := .of (ok.sub _ _ (sb _ _ h))
  refine ⟨fun d hd => ?_, fun hi => ⟨ws, hq, by rw [r.length]; omega⟩⟩
  obtain ⟨v, hv, rv⟩ := r.get hd
  refine ⟨⟨ws, v, hq, hv⟩, fun x H' ⟨e, y⟩ => ?_⟩
  subst e
  have := y ws hq
  rw [hv] at this; cases this
  exact ⟨ω, rfl, Le.refl _ _ ok, ok, Rep.mono sb _ _ rv⟩
theorem walk_tup {G : RC} {ω0 : Wd} {a : Addr} {ws : List V} {xs : List D} (h : SqT G.K ω0.F a ws) (r : Reps G ω0.F xs ws) : Walk G (Itt G.K a) [] xs ω0 := by
  intro ω H i sb pr ok g
  have hq : SqT G.K H a ws := ok.sub.sqT (sb.sqT h)
  refine ⟨fun d hd => ?_, fun hi => ⟨ws, hq, by rw [r.length]; omega⟩⟩
  obtain ⟨v, hv, rv⟩ := r.get hd
  refine ⟨⟨ws, v, hq, hv⟩, fun x H' ⟨e, y⟩ => ?_⟩
  subst e
  have := y ws hq
  rw [hv] at this; cases this
  exact ⟨ω, rfl, Le.refl _ _ ok, ok, Rep.mono sb _ _ rv⟩
theorem walk_str {G : RC} {ω0 : Wd} {s : Str} (o : okS s) : Walk G (Its s) [] (signsD s) ω0 := by
  intro ω H i sb pr ok g
  refine ⟨fun d hd => ?_, fun hi => ?_⟩
  · unfold signsD at hd
    rw [List.getElem?_map] at hd
    obtain ⟨c, hc, rfl⟩ := Option.map_eq_some_iff.mp hd
    have hc2 : s.cps[i]? = some c := by rw [← hc, Array.getElem?_toList]
    refine ⟨(Array.getElem?_eq_some_iff.mp hc2).1, fun x H' ⟨e, c', h1, h2⟩ => ?_⟩
    subst e; subst h2
    rw [hc2] at h1; cases h1
    exact ⟨ω, rfl, Le.refl _ _ ok, ok, rep_str (okS_sign o (Array.mem_of_getElem? hc2))⟩
  · show s.cps.size ≤ i
    have : (signsD s).length = s.cps.size := by simp [signsD]
    omega
theorem walk_loc {G : RC} {ω0 : Wd} {n : Nat} {a : Addr} {xs : List D} (hm : ω0.mu[n]? = some a) : Walk G (Itl G.K a) [(n, xs)] xs ω0 := by
  intro ω H i sb pr ok g
  have hs := g (n, xs) (by simp)
  obtain ⟨_, ws, h1, r⟩ := ok.cell n _ a hs rfl (pre_get pr hm)
  have hq : SqL G.K H a ws := .of h1
  refine ⟨fun d hd => ?_, fun hi => ⟨ws, hq, by rw [r.length]; exact Nat.le_of_eq hi.symm⟩⟩
  obtain ⟨v, hv, rv⟩ := r.get hd
  refine ⟨⟨ws, v, hq, hv⟩, fun x H' ⟨e, y⟩ => ?_⟩
  subst e
  have := y ws hq
  rw [hv] at this; cases this
  exact ⟨ω, rfl, Le.refl _ _ ok, ok, rv⟩
theorem walk_rng {G : RC} {ω0 : Wd} {lo : Int} {n : Nat} : Walk G (Itr lo n) [] (rngD lo n) ω0 := by
  intro ω H i sb pr ok g
  refine ⟨fun d hd => ?_, fun hi => ?_⟩
  · unfold rngD at hd
    rw [List.getElem?_map] at hd
    obtain ⟨k, hk, rfl⟩ := Option.map_eq_some_iff.mp hd
    obtain ⟨hk1, hk2⟩ := List.getElem?_eq_some_iff.mp hk
    simp only [List.length_range] at hk1
    simp only [List.getElem_range] at hk2
    subst hk2
    refine ⟨hk1, fun x H' ⟨e, h2⟩ => ?_⟩
    subst e; subst h2
    exact ⟨ω, rfl, Le.refl _ _ ok, ok, rep_int _⟩
  · show n ≤ i
    have : (rngD lo n).length = n := by simp [rngD]
    omega
theorem pi_overS (ha : PE X e (tE (GX X ca) Wx fa)) : PI X tg e (tI (GX X ca) Wx (overS fa)) := by
  refine piImp (piOr (piOr (pi_list ha) (pi_tup ha)) (pi_str ha)) fun σ H R h => ?_
  obtain ⟨ω, env, ok, er, p⟩ := h
  cases e1 : fa env ω.S with
  | err x S' => exact .inl (.inl (tE_err (by rw [e1]; intro _ _ z; cases z) ok er p))
  | stuck => exact .inl (.inl (tE_err (by rw [e1]; intro _ _ z; cases z) ok er p))
  | ok w S' =>
    have key := bindW1 e1 ok er p
    cases hw : w.toW with
    | loc n =>
      refine .inl (.inl (tE_mono key fun v H1 ⟨ω1, le1, ok1, r1, er1, hs, p1⟩ => ?_))
      rw [hw] at r1 p1
      obtain ⟨a, rfl, hm⟩ := r1
      unfold itemsW at p1
      cases hc : S'[n]? with
      | none => simp only [hc] at p1; exact p1.elim
      | some cl =>
        cases cl with
        | lst xs =>
          simp only [hc] at p1
          obtain ⟨_, ws, h1, _⟩ := ok1.cell n _ a (by rw [hs]; exact hc) rfl hm
          exact ⟨a, rfl, ⟨ws, .of h1⟩, p1 ω1 H1 _ hs le1 ok1 (walk_loc (G := GX X ca) hm)⟩
        | ins _ _ _ => simp only [hc] at p1; exact p1.elim
        | dic _ _ => simp only [hc] at p1; exact p1.elim
        | dead => simp only [hc] at p1; exact p1.elim
    | d x =>
      cases x with
      | lst xs =>
        refine .inl (.inl (tE_mono key fun v H1 ⟨ω1, le1, ok1, r1, er1, hs, p1⟩ => ?_))
        rw [hw] at r1 p1
        have r1 : Rep (GX X ca) ω1.F (.lst xs) v := r1
        unfold Rep at r1
        obtain ⟨a, ws, rfl, h1, h2⟩ := r1
        exact ⟨a, rfl, ⟨ws, .of (ok1.sub _ _ h1)⟩, p1 ω1 H1 _ hs le1 ok1 (walk_lst (G := GX X ca) h1 h2)⟩
      | tup xs =>
        refine .inl (.inr (tE_mono key fun v H1 ⟨ω1, le1, ok1, r1, er1, hs, p1⟩ => ?_))
        rw [hw] at r1 p1
        have r1 : Rep (GX X ca) ω1.F (.tup xs) v := r1
        unfold Rep at r1
        obtain ⟨a, ws, rfl, h1, h2⟩ := r1
        exact ⟨a, rfl, ⟨ws, ok1.sub.sqT h1⟩, p1 ω1 H1 _ hs le1 ok1 (walk_tup (G := GX X ca) h1 h2)⟩
      | str s =>
        refine .inr (tE_mono key fun v H1 ⟨ω1, le1, ok1, r1, er1, hs, p1⟩ => ?_)
        rw [hw] at r1 p1
        have r1 : Rep (GX X ca) ω1.F (.str s) v := r1
        unfold Rep at r1
        obtain ⟨rfl, o⟩ := r1
        exact ⟨s, rfl, p1 ω1 H1 _ hs le1 ok1 (walk_str (G := GX X ca) o)⟩
      | _ => refine .inl (.inl (tE_mono key fun v H1 ⟨ω1, le1, ok1, r1, er1, hs, p1⟩ => ?_)); rw [hw] at p1; exact p1.elim
theorem reps_int1 {G : RC} {ω : Wd} {j : Int} {vs : List V} (r : RepWs G ω [.d (.int j)] vs) : vs = [.int j] := by
  obtain ⟨u, us, rfl, h1, h2⟩ := r
  cases h2
  have h1 : Rep G ω.F (.int j) u := h1
  unfold Rep at h1; subst h1; rfl
theorem reps_int2 {G : RC} {ω : Wd} {i j : Int} {vs : List V} (r : RepWs G ω [.d (.int i), .d (.int j)] vs) : vs = [.int i, .int j] := by
  obtain ⟨u, us, rfl, h1, u2, us2, rfl, h2, h3⟩ := r
  cases h3
  have h1 : Rep G ω.F (.int i) u := h1
  have h2 : Rep G ω.F (.int j) u2 := h2
  unfold Rep at h1 h2; subst h1; subst h2; rfl
theorem pi_rng1S {p : Pos} (hg : Gl X "range") (hm : X.mg "range" = none) (ha : PA X [a] (tA (GX X ca) Wx fs)) (hs : starEach [a] X.env = [(false, eval a X.env)]) (hl : ∀ env S ws S', fs env S = .ok ws S' → ws.length = 1) :
    PI X tg (.Call (.Name "range" p) [a] [] pos) (tI (GX X ca) Wx (rngS fs)) := by
  refine piImp (pi_range1 hg hm ha hs) fun σ H R h => ?_
  obtain ⟨ω, env, ok, er, p⟩ := h
  refine ⟨ω, env, ok, er, ?_⟩
  unfold rngS M.bind at p
  cases e1 : fs env ω.S with
  | err x S' => rw [e1] at p; exact p
  | stuck => rw [e1] at p; exact p
  | ok ws S' =>
    rw [e1] at p
    have hn := hl _ _ _ _ e1
    intro ω1 H1 vs hs1 le1 ok1 r1
    simp only at p
    split at p
    · rename_i j
      split at p
      · rename_i hb
        have := reps_int1 r1
        subst this
        exact ⟨j, rfl, hb.1, hb.2, p ω1 H1 _ hs1 le1 ok1 (walk_rng (G := GX X ca))⟩
      · exact p.elim
    · simp at hn
    · exact p.elim
theorem pi_rng2S {p : Pos} (hg : Gl X "range") (hm : X.mg "range" = none) (ha : PA X [a, b] (tA (GX X ca) Wx fs)) (hs : starEach [a, b] X.env = [(false, eval a X.env), (false, eval b X.env)]) (hs2 : starEach [b] X.env = [(false, eval b X.env)]) (hl : ∀ env S ws S', fs env S = .ok ws S' → ws.length = 2) :
    PI X tg (.Call (.Name "range" p) [a, b] [] pos) (tI (GX X ca) Wx (rngS fs)) := by
  refine piImp (pi_range2 hg hm ha hs hs2) fun σ H R h => ?_
  obtain ⟨ω, env, ok, er, p⟩ := h
  refine ⟨ω, env, ok, er, ?_⟩
  unfold rngS M.bind at p
  cases e1 : fs env ω.S with
  | err x S' => rw [e1] at p; exact p
  | stuck => rw [e1] at p; exact p
  | ok ws S' =>
    rw [e1] at p
    have hn := hl _ _ _ _ e1
    intro ω1 H1 vs hs1 le1 ok1 r1
    simp only at p
    split at p
    · simp at hn
    · rename_i i j
      split at p
      · rename_i hb
        have := reps_int2 r1
        subst this
        exact ⟨i, j, rfl, hb, p ω1 H1 _ hs1 le1 ok1 (walk_rng (G := GX X ca))⟩
      · exact p.elim
    · exact p.elim
end

/-! ### targets -/
inductive TGt where
  | nm (i : Nat) | tp (is : List Nat)
def bindTs : List Nat → List D → Env → Option Env
  | [], [], env => some env
  | i :: is, d :: ds, env => bindTs is ds (env.set i (some (.d d)))
  | _, _, _ => none
def bindT (t : TGt) (d : D) (env : Env) : Option Env := match t with
  | .nm i => some (env.set i (some (.d d)))
  | .tp is => match d with
    | .tup ds => bindTs is ds env
    | _ => none
def gTs : List Nat → TGs
  | [] => gNil
  | i :: is => gCons (gName i) (gTs is)
def gT (K : PySem.W.Frag) : TGt → TG
  | .nm i => gName i
  | .tp is => gTup K is.length (gTs is)
def TGt.ids : TGt → List Nat
  | .nm i => [i]
  | .tp is => is
theorem bindTs_ok {G : RC} {ω : Wd} {H : Hp} : ∀ {is : List Nat} {ds : List D} {vs : List V} {env env' : Env} {σ : L2.St} {Q : L2.St → Hp → Prop}, Reps G ω.F ds vs → EnvR G ω env σ → bindTs is ds env = some env' →
    (∀ σ', EnvR G ω env' σ' → (∀ l : List Nat, (∀ i ∈ is, i ∈ l) → wipe σ' l = wipe σ l) → Q σ' H) → gTs is vs σ H Q
  | [], [], _, env, env', σ, Q, r, er, e, q => by
    cases e
    unfold Reps at r; subst r
    exact ⟨rfl, q σ er fun _ _ => rfl⟩
  | i :: is, d :: ds, _, env, env', σ, Q, r, er, e, q => by
    obtain ⟨v, vs, rfl, h1, h2⟩ := r.inv_cons
    refine ⟨v, vs, rfl, ?_⟩
    refine bindTs_ok h2 (er.set (w := .d d) h1) e fun σ' er' hw => q σ' er' fun l hl => ?_
    rw [hw l fun j hj => hl j (by simp [hj])]
    exact wipe_set (hl i (by simp))
  | [], _ :: _, _, _, _, _, _, _, _, e, _ => by cases e
  | _ :: _, [], _, _, _, _, _, _, _, e, _ => by cases e
where
  wipe_set {σ : L2.St} {i : Nat} {x : Option V} : ∀ {l : List Nat}, i ∈ l → wipe (σ.set i x) l = wipe σ l
    | [], h => by cases h
    | j :: l, h => by
      unfold wipe
      by_cases hj : i ∈ l
      · rw [wipe_set hj]
      · have : i = j := by simpa [hj] using h
        subst this
        have comm : ∀ (l : List Nat) (σ : L2.St), i ∉ l → (wipe (σ.set i x) l).set i none = (wipe σ l).set i none := by
          intro l
          induction l with
          | nil => intro σ _; simp [wipe]
          | cons k l ih =>
            intro σ hk
            simp only [List.mem_cons, not_or] at hk
            unfold wipe
            rw [List.set_comm _ _ (Ne.symm hk.1), ih σ hk.2, List.set_comm _ _ hk.1]
        exact comm l σ hj
theorem bindT_ok {G : RC} {ω : Wd} {H : Hp} (ok : ω.Ok G H) {t : TGt} {d : D} {v : V} {env env' : Env} {σ : L2.St} {Q : L2.St → Hp → Prop} (r : Rep G ω.F d v) (er : EnvR G ω env σ) (e : bindT t d env = some env')
    (q : ∀ σ', EnvR G ω env' σ' → (∀ l : List Nat, (∀ i ∈ t.ids, i ∈ l) → wipe σ' l = wipe σ l) → Q σ' H) : gT G.K t v σ H Q := by
  cases t with
  | nm i =>
    cases e
    exact q _ (er.set (w := .d d) r) fun l hl => bindTs_ok.wipe_set (hl i (by simp [TGt.ids]))
  | tp is =>
    cases d with
    | tup ds =>
      have r0 := r
      unfold Rep at r
      obtain ⟨a, ws, rfl, h1, h2⟩ := r
      have hl : ∀ (is : List Nat) (ds : List D) (env : Env), bindTs is ds env = some env' → ds.length = is.length := by
        intro is
        induction is with
        | nil => intro ds env e; cases ds with | nil => rfl | cons _ _ => cases e
        | cons i is ih => intro ds env e; cases ds with | nil => cases e | cons d ds => simp [ih ds _ e]
      refine ⟨a, ws, rfl, ok.sub.sqT h1, by rw [h2.length, hl is ds env e], ?_⟩
      exact bindTs_ok h2 er e q
    | _ => cases e
end Dn

set_option Elab.async false
set_option linter.all false
set_option maxRecDepth 100000
set_option maxHeartbeats 2000000
/-! # Dn, part 10: list comprehensions with one clause -/
namespace Dn
open PySem PySem.Spec L2

def wipeE (env : Env) : List Nat → Env
  | [] => env
  | v :: vs => (wipeE env vs).set v none
/-- what raises has no meaning here -/
def M.calm {α : Type} (m : M α) : M α := fun S => match m S with
  | .ok a S' => .ok a S'
  | _ => .stuck
def lcLoop (gs : Gs) (t : TGt) (tt : BS) (fe : ES) (env : Env) : List D → List D → M RW
  | [], acc => fun S => if gOk gs S then .ok (.own (.lst acc)) S else .stuck
  | x :: xs, acc => fun S => if gOk gs S then
      match bindT t x env with
      | some env1 => (((tt env1).calm).bind fun b => if b = true then ((fe env1).calm).bind fun w => match w.toW with
          | .d y => if acc.length < sizeLine then lcLoop gs t tt fe env xs (acc ++ [y]) else fun _ => .stuck
          | _ => fun _ => .stuck
        else lcLoop gs t tt fe env xs acc) S
      | none => .stuck
    else .stuck
def lcS (own : List Nat) (t : TGt) (fi : IS) (tt : BS) (fe : ES) : ES := fun env => (fi env).bind fun a => lcLoop a.1 t tt fe (wipeE env own) a.2 []
def yesS : BS := fun _ => M.ret true

section
variable {X : Cx} {ca : CA} {Wx : WX} {a b c elt tg iter : Expr} {pos : Pos} {fa fb fo fe : ES} {tt : BS} {fi : IS}
theorem EnvR.wipe {G : RC} {ω : Wd} {env : Env} {σ : L2.St} (h : EnvR G ω env σ) : ∀ l : List Nat, EnvR G ω (wipeE env l) (wipe σ l)
  | [] => h
  | v :: vs => by
    unfold wipeE L2.wipe
    exact (EnvR.wipe h vs).setNone
theorem wipe_idem (σ : L2.St) (l : List Nat) : wipe (wipe σ l) l = wipe σ l := by
  have none_at : ∀ (l : List Nat) (i : Nat), i ∈ l → ∀ x, (wipe σ l)[i]? = some x → x = none := by
    intro l
    induction l with
    | nil => intro i h; cases h
    | cons v vs ih =>
      intro i h x hx
      unfold wipe at hx
      by_cases hv : v = i
      · subst hv
        by_cases hl : v < (wipe σ vs).length
        · rw [List.getElem?_set_self hl] at hx; cases hx; rfl
        · rw [List.getElem?_eq_none (by simpa using hl)] at hx; cases hx
      · rw [List.getElem?_set_ne hv] at hx
        rcases List.mem_cons.mp h with z | z
        · exact absurd z.symm hv
        · exact ih i z x hx
  have sub : ∀ (τ : L2.St) (l' : List Nat), (∀ i ∈ l', ∀ x, τ[i]? = some x → x = none) → wipe τ l' = τ := by
    intro τ l'
    induction l' with
    | nil => intro _; rfl
    | cons v vs ih =>
      intro h
      unfold wipe
      rw [ih fun i hi => h i (by simp [hi])]
      apply List.ext_getElem?
      intro k
      by_cases hk : v = k
      · subst hk
        by_cases hl : v < τ.length
        · rw [List.getElem?_set_self hl]
          have hx : τ[v]? = some τ[v] := List.getElem?_eq_getElem hl
          rw [hx, h v (by simp) _ hx]
        · rw [List.getElem?_eq_none (by simpa using hl), List.getElem?_eq_none (by omega)]
      · rw [List.getElem?_set_ne hk]
  exact sub _ l (none_at l)
/-- the state within a comprehension: the new list at D holds what is made so far -/
structure LcAt (G : RC) (ω1 : Wd) (H1 : Hp) (p : Addr) (acc : List D) (ω : Wd) (H : Hp) : Prop where
  le : Le ω1 H1 ω H
  ok : ω.Ok G H
  at_ : ∃ vs, H p = some (.lst vs) ∧ Reps G ω.F acc vs
  fr : ω.F p = none
  nl : ¬ Live ω p
theorem LcAt.step {G : RC} {ω1 ω ω' : Wd} {H1 H H' : Hp} {p : Addr} {acc : List D} (h : LcAt G ω1 H1 p acc ω H) (le : Le ω H ω' H') (ok : ω'.Ok G H') : LcAt G ω1 H1 p acc ω' H' := by
  obtain ⟨vs, h1, h2⟩ := h.at_
  refine ⟨h.le.trans le, ok, ⟨vs, le.frame p _ h1 h.nl, h2.mono le.ext⟩, ?_, le.back h1 h.nl⟩
  cases e : ω'.F p with
  | none => rfl
  | some o =>
    rcases le.ff p o e with z | z | z
    · rw [h.fr] at z; cases z
    · rw [h1] at z; cases z
    · exact absurd z h.nl
theorem LcAt.app {G : RC} {ω1 ω : Wd} {H1 H : Hp} {p : Addr} {acc : List D} {y : D} {v : V} (h : LcAt G ω1 H1 p acc ω H) (hD : H1 p = none) (r : Rep G ω.F y v) :
    ∃ vs, H p = some (.lst vs) ∧ vs.length = acc.length ∧ LcAt G ω1 H1 p (acc ++ [y]) ω (upd H p (.lst (vs ++ [v]))) := by
  obtain ⟨vs, h1, h2⟩ := h.at_
  refine ⟨vs, h1, h2.length, ⟨h.le.ext, h.le.pre, fun x o hx hn => ?_, h.le.newl, h.le.old, h.le.ff, fun x hx => ?_⟩, ⟨fun x o hx => ?_, h.ok.len, fun n c x e1 e2 e3 => ?_, h.ok.inj⟩, ⟨_, upd_same, h2.append (Reps.cons r Reps.nil)⟩, h.fr, h.nl⟩
  · have : x ≠ p := by intro z; subst z; rw [hD] at hx; cases hx
    rw [upd_ne this]; exact h.le.frame x o hx hn
  · by_cases z : x = p
    · subst z; exact hD
    · rw [upd_ne z] at hx; exact h.le.dom x hx
  · have : x ≠ p := by intro z; subst z; rw [h.fr] at hx; cases hx
    rw [upd_ne this]; exact h.ok.sub x o hx
  · obtain ⟨z1, z2⟩ := h.ok.cell n c x e1 e2 e3
    have : x ≠ p := by intro z; subst z; exact h.nl ⟨n, c, e1, e2, e3⟩
    exact ⟨z1, z2.at fun o ho => by rw [upd_ne this]; exact ho⟩
theorem calm_ok {α : Type} {m : M α} {S : Store} {a : α} {S' : Store} (h : m.calm S = .ok a S') : m S = .ok a S' := by
  unfold M.calm at h
  cases e : m S with
  | ok x y => rw [e] at h; exact h
  | err x y => rw [e] at h; cases h
  | stuck => rw [e] at h; cases h
theorem calm_no {α : Type} {m : M α} {S : Store} {e : Exn} {S' : Store} (h : m.calm S = .err e S') : False := by
  unfold M.calm at h
  cases e : m S with
  | ok x y => rw [e] at h; cases h
  | err x y => rw [e] at h; cases h
  | stuck => rw [e] at h; cases h
/-- a reading where nothing is raised: the answer is known -/
theorem tE_at {G : RC} {ω : Wd} {H : Hp} {σ : L2.St} {env : Env} {f : ES} {w : RW} {S' : Store} {Q : VK} {Wx : WX} (ok : ω.Ok G H) (er : EnvR G ω env σ) (e : f env ω.S = .ok w S')
    (h : ∀ ω' H' v, ω'.S = S' → Le ω H ω' H' → ω'.Ok G H' → RepRW G ω' H H' w v → Q v H') : tE G Wx f σ H Q := ⟨ω, env, ok, er, by rw [e]; exact h⟩
theorem tB_at {G : RC} {ω : Wd} {H : Hp} {σ : L2.St} {env : Env} {f : BS} {b : Bool} {S' : Store} {Q : Bool → Hp → Prop} {Wx : WX} (ok : ω.Ok G H) (er : EnvR G ω env σ) (e : f env ω.S = .ok b S')
    (h : ∀ ω' H', ω'.S = S' → Le ω H ω' H' → ω'.Ok G H' → Q b H') : tB G Wx f σ H Q := ⟨ω, env, ok, er, by rw [e]; intro ω' H' b' e1 le ok' r; subst r; exact h ω' H' e1 le ok'⟩
abbrev W0 : WX := fun _ _ _ _ => False
theorem lcS_ok {own : List Nat} {t : TGt} {σ : L2.St} {H : Hp} {Q : VK} (hi : ∀ i ∈ t.ids, i ∈ own) (h : tE (GX X ca) Wx (lcS own t fi tt fe) σ H Q) :
    tLc (tI (GX X ca) Wx fi) (gT X.K t) (tB (GX X ca) W0 tt) (tE (GX X ca) W0 fe) own σ H Q := by
  obtain ⟨ω, env, ok, er, p⟩ := h
  refine ⟨ω, env, ok, er, ?_⟩
  unfold lcS M.bind at p
  cases e1 : fi env ω.S with
  | err x S' => rw [e1] at p; exact p
  | stuck => rw [e1] at p; exact p
  | ok gx S' =>
    rw [e1] at p
    obtain ⟨gs, xs⟩ := gx
    intro ω1 H1 J hs1 le1 ok1 wk D hD
    have p : PostE (GX X ca) ω H Q (fun c d H' => Wx c d σ H') (lcLoop gs t tt fe (wipeE env own) xs [] S') := p
    rw [← hs1] at p
    have p := PostE.step le1 p
    have er1 := (er.mono le1).wipe own
    -- the invariant
    refine ⟨fun i m H => m = xs.length - i ∧ i ≤ xs.length ∧ ∃ ω2 acc, LcAt (GX X ca) ω1 H1 D acc ω2 H ∧ PostE (GX X ca) ω1 H1 Q (fun c d H' => Wx c d σ H') (lcLoop gs t tt fe (wipeE env own) (xs.drop i) acc ω2.S), ?_, ?_⟩
    · refine ⟨xs.length, by simp, Nat.zero_le _, ω1, [], ⟨Le.laid ok1 hD, ok1.laid hD, ⟨[], upd_same, Reps.nil⟩, Sub.fresh ok1.sub hD, fun l => Live.ne ok1 l hD rfl⟩, p⟩
    · rintro i m H2 ⟨rfl, him, ω2, acc, L, p2⟩
      have er2 : EnvR (GX X ca) ω2 (wipeE env own) (wipe σ own) := er1.mono L.le
      by_cases hlt : i < xs.length
      · have hd : xs.drop i = xs[i] :: xs.drop (i + 1) := List.drop_eq_getElem_cons hlt
        rw [hd] at p2
        unfold lcLoop at p2
        split at p2
        rotate_left
        · exact p2.elim
        rename_i hg
        cases hb : bindT t xs[i] (wipeE env own) with
        | none => rw [hb] at p2; exact p2.elim
        | some env1 =>
          simp only [hb] at p2
          obtain ⟨w1, _⟩ := wk ω2 H2 i L.le.ext L.le.pre L.ok hg
          obtain ⟨go, yl⟩ := w1 _ (List.getElem?_eq_getElem hlt)
          refine .inr ⟨go, fun H' => ∃ ω3 acc', LcAt (GX X ca) ω1 H1 D acc' ω3 H' ∧ PostE (GX X ca) ω1 H1 Q (fun c d H' => Wx c d σ H') (lcLoop gs t tt fe (wipeE env own) (xs.drop (i + 1)) acc' ω3.S), fun H' hN => ⟨xs.length - (i + 1), by omega, rfl, hlt, hN⟩, fun x H3 hy => ?_⟩
          obtain ⟨ω3, s3, le3, ok3, r3⟩ := yl x H3 hy
          have L3 := L.step le3 ok3
          refine bindT_ok (G := GX X ca) ok3 r3 (er2.mono le3) hb fun σ2 er4 hw => ⟨by rw [hw own hi, wipe_idem], ?_⟩
          unfold M.bind at p2
          rw [← s3] at p2
          cases e4 : (tt env1).calm ω3.S with
          | err x y => exact (calm_no e4).elim
          | stuck => rw [e4] at p2; exact p2.elim
          | ok b S4 =>
            rw [e4] at p2
            refine tB_at ok3 er4 (calm_ok e4) fun ω4 H4 s4 le4 ok4 => ?_
            have L4 := L3.step le4 ok4
            cases b with
            | false =>
              simp only [Bool.false_eq_true, if_false] at p2 ⊢
              exact ⟨ω4, acc, L4, by rw [s4]; exact p2⟩
            | true =>
              simp only [if_true] at p2 ⊢
              cases e5 : (fe env1).calm S4 with
              | err x y => exact (calm_no e5).elim
              | stuck => rw [e5] at p2; exact p2.elim
              | ok w S5 =>
                rw [e5] at p2
                have e5' := calm_ok e5
                rw [← s4] at e5'
                refine tE_at ok4 (er4.mono le4) e5' fun ω5 H5 y s5 le5 ok5 r5 => ?_
                obtain ⟨ω6, s6, le6, ok6, r6⟩ := keep_rw ok5 le5 r5
                have L6 := L4.step le6 ok6
                cases hw5 : w.toW with
                | loc n => simp only [hw5] at p2; exact p2.elim
                | d yd =>
                  simp only [hw5] at p2
                  rw [hw5] at r6
                  split at p2
                  · rename_i hz
                    obtain ⟨vs, hv, hvl, L7⟩ := L6.app hD r6
                    exact ⟨vs, hv, by rw [hvl]; exact hz, ω6, acc ++ [yd], L7, by rw [s6, s5]; exact p2⟩
                  · exact p2.elim
      · have hi' : i = xs.length := by omega
        subst hi'
        rw [List.drop_length] at p2
        unfold lcLoop at p2
        split at p2
        · rename_i hg
          obtain ⟨vs, h1, h2⟩ := L.at_
          exact .inl ⟨(wk ω2 H2 xs.length L.le.ext L.le.pre L.ok hg).2 rfl, p2 ω2 H2 (.ref D) rfl L.le L.ok ⟨D, rfl, hD, L.fr, L.nl, vs, h1, h2⟩⟩
        · exact p2.elim
end
end Dn

set_option Elab.async false
set_option linter.all false
set_option maxRecDepth 100000
set_option maxHeartbeats 2000000
/-! # Dn, part 11: statements -/
namespace Dn
open PySem PySem.Spec L2

inductive SR where
  | nx (env : Env) (S : Store) | rt (w : RW) (S : Store) | bk (env : Env) (S : Store) | ct (env : Env) (S : Store) | err (e : Exn) (env : Env) (S : Store) | stuck
abbrev SS := Env → Store → SR
section
variable (G : RC)
def SPost (Wx : WX) (ω : Wd) (H : Hp) (D : Ends) : SR → Prop
  | .nx env S' => ∀ ω' H' σ', ω'.S = S' → Le ω H ω' H' → ω'.Ok G H' → EnvR G ω' env σ' → D.nx σ' H'
  | .bk env S' => ∀ ω' H' σ', ω'.S = S' → Le ω H ω' H' → ω'.Ok G H' → EnvR G ω' env σ' → D.bk σ' H'
  | .ct env S' => ∀ ω' H' σ', ω'.S = S' → Le ω H ω' H' → ω'.Ok G H' → EnvR G ω' env σ' → D.ct σ' H'
  | .rt w S' => ∀ ω' H' v, ω'.S = S' → Le ω H ω' H' → ω'.Ok G H' → RepRW G ω' H H' w v → D.rt v H'
  | .err e env S' => ∀ ω' H' σ' cls d, ω'.S = S' → Le ω H ω' H' → ω'.Ok G H' → EnvR G ω' env σ' → RepX G ω' e cls d → Wx cls d σ' H'
  | .stuck => False
def tS (Wx : WX) (f : SS) : TS := fun D σ H => ∃ ω env, ω.Ok G H ∧ EnvR G ω env σ ∧ SPost G Wx ω H D (f env ω.S)
end
/-- an expression, then a statement's end -/
def exS {α : Type} (env : Env) (r : Res α) (k : α → Store → SR) : SR := match r with
  | .ok a S' => k a S'
  | .err e S' => .err e env S'
  | .stuck => .stuck
def seqS (f g : SS) : SS := fun env S => match f env S with
  | .nx env' S' => g env' S'
  | r => r
def skipS : SS := fun env S => .nx env S
def brkS : SS := fun env S => .bk env S
def cntS : SS := fun env S => .ct env S
def retS (fa : ES) : SS := fun env S => exS env (fa env S) fun w S' => .rt w S'
def retN : SS := fun _ S => .rt (.d .non) S
def dropS (fa : ES) : SS := fun env S => exS env (fa env S) fun _ S' => .nx env S'
/-- x = e; mu: the name's object will be changed in place -/
def setS (i : Nat) (mu : Bool) (fa : ES) : SS := fun env S => exS env (fa env S) fun w S' => match mu, w with
  | true, .own c => .nx (env.set i (some (.loc S'.length))) (S' ++ [c])
  | _, w => .nx (env.set i (some w.toW)) S'
/-- a target of several names -/
def asgS (t : TGt) (fa : ES) : SS := fun env S => exS env (fa env S) fun w S' => match w.toW with
  | .d d => match bindT t d env with
    | some env' => .nx env' S'
    | none => .stuck
  | _ => .stuck
/-- o[i] = e -/
def stoS (fo fi fe : ES) : SS := fun env S => exS env (((fe env).bind fun v => (fo env).bind fun o => (fi env).bind fun i => liftP setP [o.toW, i.toW, v.toW]) S) fun _ S' => .nx env S'
def ifS (c : BS) (f g : SS) : SS := fun env S => exS env (c env S) fun b S' => if b = true then f env S' else g env S'
/-- frozen: a dict is locked, too -/
def Cell.lckD : Cell → D
  | .dic ks vs => .dic true ks vs
  | c => c.toD
/-- the name's live object is frozen -/
def frzS (i : Nat) : SS := fun env S => match env[i]? with
  | some (some (.loc n)) => match S[n]? with
    | some c => if c.live = true then .nx (env.set i (some (.d c.lckD))) (S.set n .dead) else .stuck
    | none => .stuck
  | _ => .nx env S
def whileS (c : BS) (f : SS) : Nat → SS
  | 0 => fun _ _ => .stuck
  | n + 1 => fun env S => exS env (c env S) fun b S' => if b = true then match f env S' with
      | .nx env1 S1 => whileS c f n env1 S1
      | .ct env1 S1 => whileS c f n env1 S1
      | .bk env1 S1 => .nx env1 S1
      | r => r
    else .nx env S'
/-- what a turn has made live is let go at the turn's end -/
def gcE (n : Nat) (env : Env) : Env := env.map fun o => match o with
  | some (.loc m) => if m < n then some (.loc m) else none
  | o => o
def forLoop (gs : Gs) (t : TGt) (f : SS) (n : Nat) : List D → SS
  | [] => fun env S => if gOk gs S then .nx env S else .stuck
  | x :: xs => fun env S => if gOk gs S then
      match bindT t x env with
      | some env1 => match f env1 S with
        | .nx env2 S2 => forLoop gs t f n xs (gcE n env2) (S2.take n)
        | .ct env2 S2 => forLoop gs t f n xs (gcE n env2) (S2.take n)
        | .bk env2 S2 => .nx env2 S2
        | r => r
      | none => .stuck
    else .stuck
def forS (t : TGt) (fi : IS) (f : SS) : SS := fun env S => exS env (fi env S) fun a S' => forLoop a.1 t f S'.length a.2 env S'

section
variable {X : Cx} {ca : CA} {Wx : WX} {a b c e : Expr} {pos : Pos} {fa fb fo fe : ES} {ft : BS} {f g : SS}
theorem SPost.step {G : RC} {ω ω1 : Wd} {H H1 : Hp} {D : Ends} {r : SR} (l : Le ω H ω1 H1) (h : SPost G Wx ω H D r) : SPost G Wx ω1 H1 D r := by
  cases r with
  | nx env S => exact fun ω' H' σ' e le ok er => h ω' H' σ' e (l.trans le) ok er
  | bk env S => exact fun ω' H' σ' e le ok er => h ω' H' σ' e (l.trans le) ok er
  | ct env S => exact fun ω' H' σ' e le ok er => h ω' H' σ' e (l.trans le) ok er
  | rt w S => exact fun ω' H' v e le ok r => h ω' H' v e (l.trans le) ok (RepRW.after l r)
  | err x env S => exact fun ω' H' σ' cls d e le ok er rx => h ω' H' σ' cls d e (l.trans le) ok er rx
  | stuck => exact h
/-- an expression whose answer is w, then the end -/
theorem ex_of {ω : Wd} {H : Hp} {D : Ends} {σ : L2.St} {env : Env} {k : RW → Store → SR} (ok : ω.Ok (GX X ca) H) (er : EnvR (GX X ca) ω env σ) (h : SPost (GX X ca) Wx ω H D (exS env (fa env ω.S) k)) :
    tE (GX X ca) Wx fa σ H (fun v H1 => ∃ ω1 w, Le ω H ω1 H1 ∧ ω1.Ok (GX X ca) H1 ∧ RepRW (GX X ca) ω1 H H1 w v ∧ EnvR (GX X ca) ω1 env σ ∧ SPost (GX X ca) Wx ω H D (k w ω1.S)) := by
  refine ⟨ω, env, ok, er, ?_⟩
  unfold exS at h
  cases e : fa env ω.S with
  | ok w S' =>
    rw [e] at h
    intro ω' H' v e1 le ok' r
    exact ⟨ω', w, le, ok', r, er.mono le, by rw [e1]; exact h⟩
  | err x S' =>
    rw [e] at h
    intro ω' H' cls d e1 le ok' rx
    exact h ω' H' σ cls d e1 le ok' (er.mono le) rx
  | stuck => rw [e] at h; exact h
theorem exW_of {ω : Wd} {H : Hp} {D : Ends} {σ : L2.St} {env : Env} {k : RW → Store → SR} (ok : ω.Ok (GX X ca) H) (er : EnvR (GX X ca) ω env σ) (h : SPost (GX X ca) Wx ω H D (exS env (fa env ω.S) k)) :
    tE (GX X ca) Wx fa σ H (fun v H1 => ∃ ω1 w, Le ω H ω1 H1 ∧ ω1.Ok (GX X ca) H1 ∧ RepW (GX X ca) ω1 w.toW v ∧ EnvR (GX X ca) ω1 env σ ∧ SPost (GX X ca) Wx ω H D (k w ω1.S)) :=
  tE_mono (ex_of ok er h) fun v H1 ⟨ω1, w, le1, ok1, r1, er1, p1⟩ => by
    obtain ⟨ω2, s2, le2, ok2, r2⟩ := keep_rw ok1 le1 r1
    exact ⟨ω2, w, le2, ok2, r2, er.mono le2, by rw [s2]; exact p1⟩
theorem exB_of {ω : Wd} {H : Hp} {D : Ends} {σ : L2.St} {env : Env} {k : Bool → Store → SR} (ok : ω.Ok (GX X ca) H) (er : EnvR (GX X ca) ω env σ) (h : SPost (GX X ca) Wx ω H D (exS env (ft env ω.S) k)) :
    tB (GX X ca) Wx ft σ H (fun b H1 => ∃ ω1, Le ω H ω1 H1 ∧ ω1.Ok (GX X ca) H1 ∧ EnvR (GX X ca) ω1 env σ ∧ SPost (GX X ca) Wx ω H D (k b ω1.S)) := by
  refine ⟨ω, env, ok, er, ?_⟩
  unfold exS at h
  cases e : ft env ω.S with
  | ok w S' =>
    rw [e] at h
    intro ω' H' b e1 le ok' r
    subst r
    exact ⟨ω', le, ok', er.mono le, by rw [e1]; exact h⟩
  | err x S' =>
    rw [e] at h
    intro ω' H' cls d e1 le ok' rx
    exact h ω' H' σ cls d e1 le ok' (er.mono le) rx
  | stuck => rw [e] at h; exact h
theorem pss_nilS : PSs X [] (tS (GX X ca) Wx skipS) := by
  refine pssImp pss_nil fun D σ H h => ?_
  obtain ⟨ω, env, ok, er, p⟩ := h
  exact p ω H σ rfl (Le.refl _ _ ok) ok er
theorem seq_pre {D : Ends} {σ : L2.St} {H : Hp} (h : tS (GX X ca) Wx (seqS f g) D σ H) : tSeq (tS (GX X ca) Wx f) (tS (GX X ca) Wx g) D σ H := by
  obtain ⟨ω, env, ok, er, p⟩ := h
  refine ⟨ω, env, ok, er, ?_⟩
  unfold seqS at p
  cases e : f env ω.S with
  | nx env1 S1 =>
    rw [e] at p
    intro ω' H' σ' e1 le ok' er'
    exact ⟨ω', env1, ok', er', by rw [e1]; exact p.step le⟩
  | bk env1 S1 => rw [e] at p; exact p
  | ct env1 S1 => rw [e] at p; exact p
  | rt w S1 => rw [e] at p; exact p
  | err x env1 S1 => rw [e] at p; exact p
  | stuck => rw [e] at p; exact p
theorem pss_consS {st : Stmt} {rest : List Stmt} (h1 : PS X st (tS (GX X ca) Wx f)) (h2 : PSs X rest (tS (GX X ca) Wx g)) : PSs X (st :: rest) (tS (GX X ca) Wx (seqS f g)) :=
  pssImp (pss_cons h1 h2) fun D σ H h => seq_pre h
theorem ps_retS (ha : PE X e (tE (GX X ca) Wx fa)) : PS X (.Return (some e) pos) (tS (GX X ca) Wx (retS fa)) := by
  refine psImp (ps_ret ha) fun D σ H h => ?_
  obtain ⟨ω, env, ok, er, p⟩ := h
  refine tE_mono (ex_of ok er p) fun v H1 ⟨ω1, w, le1, ok1, r1, er1, p1⟩ => ?_
  exact p1 ω1 H1 v rfl le1 ok1 r1
theorem ps_retNS : PS X (.Return none pos) (tS (GX X ca) Wx retN) := by
  refine psImp ps_retN fun D σ H h => ?_
  obtain ⟨ω, env, ok, er, p⟩ := h
  exact p ω H .non rfl (Le.refl _ _ ok) ok (rep_non (G := GX X ca) (F := ω.F))
theorem ps_passS : PS X (.Pass pos) (tS (GX X ca) Wx skipS) := by
  refine psImp ps_pass fun D σ H h => ?_
  obtain ⟨ω, env, ok, er, p⟩ := h
  exact p ω H σ rfl (Le.refl _ _ ok) ok er
theorem ps_docS {x j pos'} : PS X (.Expr (.Constant (.str x) j pos) pos') (tS (GX X ca) Wx skipS) := by
  refine psImp ps_doc fun D σ H h => ?_
  obtain ⟨ω, env, ok, er, p⟩ := h
  exact p ω H σ rfl (Le.refl _ _ ok) ok er
theorem ps_brkS : PS X (.Break pos) (tS (GX X ca) Wx brkS) := by
  refine psImp ps_break fun D σ H h => ?_
  obtain ⟨ω, env, ok, er, p⟩ := h
  exact p ω H σ rfl (Le.refl _ _ ok) ok er
theorem ps_cntS : PS X (.Continue pos) (tS (GX X ca) Wx cntS) := by
  refine psImp ps_continue fun D σ H h => ?_
  obtain ⟨ω, env, ok, er, p⟩ := h
  exact p ω H σ rfl (Le.refl _ _ ok) ok er
theorem ps_dropS (ha : PE X e (tE (GX X ca) Wx fa)) (hs : swapsWith e none pos.line X.env = pure false) : PS X (.Expr e pos) (tS (GX X ca) Wx (dropS fa)) := by
  refine psImp (ps_expr ha hs) fun D σ H h => ?_
  obtain ⟨ω, env, ok, er, p⟩ := h
  refine tE_mono (exW_of ok er p) fun v H1 ⟨ω1, w, le1, ok1, r1, er1, p1⟩ => ?_
  exact p1 ω1 H1 σ rfl le1 ok1 er1
theorem set_pre {i : Nat} {mu : Bool} {D : Ends} {σ : L2.St} {H : Hp} (h : tS (GX X ca) Wx (setS i mu fa) D σ H) : tAsg (tE (GX X ca) Wx fa) (gName i) D σ H := by
  obtain ⟨ω, env, ok, er, p⟩ := h
  have keep : ∀ (ω1 : Wd) (H1 : Hp) (w : RW) (v : V), Le ω H ω1 H1 → ω1.Ok (GX X ca) H1 → RepRW (GX X ca) ω1 H H1 w v → EnvR (GX X ca) ω1 env σ → SPost (GX X ca) Wx ω H D (.nx (env.set i (some w.toW)) ω1.S) → D.nx (σ.set i (some v)) H1 := by
    intro ω1 H1 w v le1 ok1 r1 er1 p1
    obtain ⟨ω2, s2, le2, ok2, r2⟩ := keep_rw ok1 le1 r1
    exact p1 ω2 H1 _ s2 le2 ok2 ((er.mono le2).set r2)
  refine tE_mono (ex_of ok er p) fun v H1 ⟨ω1, w, le1, ok1, r1, er1, p1⟩ => ?_
  cases mu with
  | false => exact keep ω1 H1 w v le1 ok1 r1 er1 p1
  | true =>
    cases w with
    | d x => exact keep ω1 H1 _ v le1 ok1 r1 er1 p1
    | loc n => exact keep ω1 H1 _ v le1 ok1 r1 er1 p1
    | own c =>
      obtain ⟨ω2, s2, le2, ok2, r2, kp⟩ := push_own ok1 le1 r1
      exact p1 ω2 H1 _ s2 le2 ok2 ((er.mono le2).set r2)
theorem ps_setS {i : Nat} {mu : Bool} {x : Str} {p' : Pos} (hN : X.N.Nodup) (hi : X.N[i]? = some x) (hx : Loc X.env.scope x) (ha : PE X e (tE (GX X ca) Wx fa)) (hs : swapsWith e (some (.Name x p')) pos.line X.env = pure false) (hf : X.fn x = true ∨ X.env.scope.names.lookup x = some .local) :
    PS X (.Assign [.Name x p'] e pos) (tS (GX X ca) Wx (setS i mu fa)) :=
  psImp (ps_set hN hi hx ha hs hf) fun D σ H h => set_pre h
theorem asg_pre {t : TGt} {D : Ends} {σ : L2.St} {H : Hp} (h : tS (GX X ca) Wx (asgS t fa) D σ H) : tAsg (tE (GX X ca) Wx fa) (gT X.K t) D σ H := by
  obtain ⟨ω, env, ok, er, p⟩ := h
  refine tE_mono (exW_of ok er p) fun v H1 ⟨ω1, w, le1, ok1, r1, er1, p1⟩ => ?_
  cases hw : w.toW with
  | loc n => simp only [hw] at p1; exact p1.elim
  | d x =>
    simp only [hw] at p1
    rw [hw] at r1
    cases hb : bindT t x env with
    | none => simp only [hb] at p1; exact p1.elim
    | some env' =>
      simp only [hb] at p1
      exact bindT_ok (G := GX X ca) ok1 r1 er1 hb fun σ' er' _ => p1 ω1 H1 σ' rfl le1 ok1 er'
theorem ps_asgS {tg : Expr} {t : TGt} (ha : PE X e (tE (GX X ca) Wx fa)) (hg : PG X tg (gT X.K t)) (hs : swapsWithSole [tg] e pos.line X.env = pure false) (hw : swappedStores [tg] e X.env = pure none) (h1 : (assignEach [tg] X.env).map (·.2) = [assign tg X.env]) :
    PS X (.Assign [tg] e pos) (tS (GX X ca) Wx (asgS t fa)) :=
  psImp (ps_asg ha hg hs hw h1) fun D σ H h => asg_pre h
theorem ps_ifS {p q : List Stmt} (hc : PT X c (tB (GX X ca) Wx ft)) (ha : PSs X p (tS (GX X ca) Wx f)) (hb : PSs X q (tS (GX X ca) Wx g)) : PS X (.If c p q pos) (tS (GX X ca) Wx (ifS ft f g)) := by
  refine psImp (ps_if hc ha hb) fun D σ H h => ?_
  obtain ⟨ω, env, ok, er, p⟩ := h
  refine tB_mono (exB_of ok er p) fun k H1 ⟨ω1, le1, ok1, er1, p1⟩ => ?_
  cases k with
  | true => rw [if_pos rfl] at p1 ⊢; exact ⟨ω1, env, ok1, er1, p1.step le1⟩
  | false => rw [if_neg Bool.false_ne_true] at p1 ⊢; exact ⟨ω1, env, ok1, er1, p1.step le1⟩
theorem sto_pre {D : Ends} {σ : L2.St} {H : Hp} (h : tS (GX X ca) Wx (stoS fo fa fe) D σ H) : tAsg (tE (GX X ca) Wx fe) (gSub (tE (GX X ca) Wx fo) (tE (GX X ca) Wx fa) (fun o i v H Q => tP (GX X ca) setP [o, i, v] H (fun _ H' => Q H'))) D σ H := by
  obtain ⟨ω, env, ok, er, p⟩ := h
  -- the whole as one expression whose answer is dropped
  have p0 : PostE (GX X ca) ω H (fun _ H' => ∀ ω', Le ω H ω' H' → ω'.Ok (GX X ca) H' → True) (fun c d H' => True) (.ok (.d .non) ω.S) := fun _ _ _ _ _ _ _ _ _ _ => trivial
  have key : Post (GX X ca) (fun ω' H' (_ : RW) (_ : Unit) => EnvR (GX X ca) ω' env σ) ω H (fun _ H' => D.nx σ H') (fun c d H' => Wx c d σ H') (((fe env).bind fun v => (fo env).bind fun o => (fa env).bind fun i => liftP setP [o.toW, i.toW, v.toW]) ω.S) := by
    unfold stoS exS at p
    cases e : ((fe env).bind fun v => (fo env).bind fun o => (fa env).bind fun i => liftP setP [o.toW, i.toW, v.toW]) ω.S with
    | ok w S' =>
      rw [e] at p
      intro ω' H' _ e1 le ok' r
      exact p ω' H' σ e1 le ok' r
    | err x S' =>
      rw [e] at p
      intro ω' H' cls d e1 le ok' rx
      exact p ω' H' σ cls d e1 le ok' (er.mono le) rx
    | stuck => rw [e] at p; exact p
  refine tE_mono (bindW ok er key) fun v H1 ⟨ω1, w, le1, ok1, r1, er1, p1⟩ => ?_
  refine tE_mono (bindW ok1 er1 (Post.step le1 (fun _ _ _ _ z => z) p1)) fun o H2 ⟨ω2, w2, le2, ok2, r2, er2, p2⟩ => ?_
  refine tE_mono (bindW ok2 er2 (Post.step le2 (fun _ _ _ _ z => z) p2)) fun i H3 ⟨ω3, w3, le3, ok3, r3, er3, p3⟩ => ?_
  refine ⟨ω3, [w2.toW, w3.toW, w.toW], ok3, ⟨_, _, rfl, r2.mono le3, _, _, rfl, r3, _, _, rfl, (r1.mono le2).mono le3, rfl⟩, ?_⟩
  have p4 := Post.step (R' := fun ω' H' (_ : RW) (_ : Unit) => EnvR (GX X ca) ω' env σ) le3 (fun _ _ _ _ z => z) p3
  unfold liftP at p4 ⊢
  split at p4
  · rename_i r S' e
    intro ω' H' v' e1 le ok' _
    exact p4 ω' H' () e1 le ok' (er3.mono le)
  · exact p4.elim
theorem ps_stoS {o i : Expr} {p2 : Pos} (hv : PE X e (tE (GX X ca) Wx fe)) (ho : PE X o (tE (GX X ca) Wx fo)) (hi : PE X i (tE (GX X ca) Wx fa))
    (hs : swapsWithSole [.Subscript o i p2] e pos.line X.env = pure false) (hw : swappedStores [.Subscript o i p2] e X.env = pure none) (h1 : (assignEach [.Subscript o i p2] X.env).map (·.2) = [assign (.Subscript o i p2) X.env])
    (ha : ∀ v, assign (.Subscript o i p2) X.env v = (do
      let ov ← holding [v] (eval o X.env)
      let iv ← holding [v, ov] (eval i X.env)
      standAt p2
      holding [v, ov, iv] (setItem ov iv v)
      release [v, ov, iv] [])) :
    PS X (.Assign [.Subscript o i p2] e pos) (tS (GX X ca) Wx (stoS fo fa fe)) :=
  psImp (ps_asg hv (pg_sub ho hi (set_D (ca := ca)) ha) hs hw h1) fun D σ H h => sto_pre h
end
end Dn

set_option Elab.async false
set_option linter.all false
set_option maxRecDepth 100000
set_option maxHeartbeats 2000000
/-! # Dn, part 12: loops, freezing -/
namespace Dn
open PySem PySem.Spec L2
section
variable {X : Cx} {ca : CA} {Wx : WX} {a b c e tg iter : Expr} {pos : Pos} {fa fb fo fe : ES} {ft : BS} {f g : SS} {fi : IS}
theorem while_pre {n : Nat} {D : Ends} {σ : L2.St} {H : Hp} (h : tS (GX X ca) Wx (whileS ft f n) D σ H) : tWhile (tB (GX X ca) Wx ft) (tS (GX X ca) Wx f) D σ H := by
  refine ⟨fun m σ' H' => tS (GX X ca) Wx (whileS ft f m) D σ' H', ⟨n, h⟩, ?_⟩
  rintro m σ1 H1 ⟨ω1, env1, ok1, er1, p1⟩
  cases m with
  | zero => exact p1.elim
  | succ m =>
    unfold whileS at p1
    refine tB_mono (exB_of ok1 er1 p1) fun k H2 ⟨ω2, le2, ok2, er2, p2⟩ => ?_
    cases k with
    | false =>
      rw [if_neg Bool.false_ne_true] at p2 ⊢
      exact p2 ω2 H2 σ1 rfl le2 ok2 er2
    | true =>
      rw [if_pos rfl] at p2 ⊢
      refine ⟨fun σ' H' => tS (GX X ca) Wx (whileS ft f m) D σ' H', fun σ' H' h' => ⟨m, Nat.lt_succ_self _, h'⟩, ω2, env1, ok2, er2, ?_⟩
      have q := p2.step le2
      cases e : f env1 ω2.S with
      | nx env3 S3 => simp only [e] at q; exact fun ω' H' σ' e1 le ok er => ⟨ω', env3, ok, er, by rw [e1]; exact q.step le⟩
      | ct env3 S3 => simp only [e] at q; exact fun ω' H' σ' e1 le ok er => ⟨ω', env3, ok, er, by rw [e1]; exact q.step le⟩
      | bk env3 S3 => simp only [e] at q; exact fun ω' H' σ' e1 le ok er => q ω' H' σ' e1 le ok er
      | rt w S3 => simp only [e] at q; exact q
      | err x env3 S3 => simp only [e] at q; exact q
      | stuck => simp only [e] at q; exact q
theorem ps_whileS {body : List Stmt} (n : Nat) (hp : PassesOwn (model X.prog X.w) X.A X.env X.xe) (hc : PT X c (tB (GX X ca) Wx ft)) (hb : PSs X body (tS (GX X ca) Wx f)) : PS X (.While c body [] pos) (tS (GX X ca) Wx (whileS ft f n)) :=
  psImp (ps_while hp hc hb) fun D σ H h => while_pre h
/-! ### the store is cut back -/
def truncW (ω : Wd) (n : Nat) : Wd := { ω with mu := ω.mu.take n, S := ω.S.take n }
theorem take_get {α : Type} {l : List α} {n i : Nat} {x : α} (h : (l.take n)[i]? = some x) : i < n ∧ l[i]? = some x := by
  have hi : i < n := by
    have := (List.getElem?_eq_some_iff.mp h).1
    rw [List.length_take] at this; omega
  rw [List.getElem?_take_of_lt hi] at h
  exact ⟨hi, h⟩
theorem trunc_ok {G : RC} {ω : Wd} {H : Hp} (ok : ω.Ok G H) (n : Nat) : (truncW ω n).Ok G H :=
  ⟨ok.sub, by simp [truncW, ok.len], fun k c a h1 h2 h3 => ok.cell k c a (take_get h1).2 h2 (take_get h3).2,
   fun k m c c' a h1 h2 h3 h4 h5 h6 => ok.inj k m c c' a (take_get h1).2 h2 (take_get h3).2 h4 (take_get h5).2 (take_get h6).2⟩
theorem trunc_le {ω ω1 : Wd} {H H1 : Hp} (le : Le ω H ω1 H1) {n : Nat} (hn : ω.mu.length ≤ n) : Le ω H (truncW ω1 n) H1 where
  ext := le.ext
  pre := by
    obtain ⟨t, e⟩ := le.pre
    refine ⟨t.take (n - ω.mu.length), ?_⟩
    show _ = ω1.mu.take n
    rw [← e, List.take_append, List.take_of_length_le hn]
  frame := le.frame
  newl := fun k c a hk h1 h2 h3 => le.newl k c a hk (take_get h1).2 h2 (take_get h3).2
  old := fun k c hk h1 h2 => le.old k c hk (take_get h1).2 h2
  ff := le.ff
  dom := le.dom
theorem gcE_ok {G : RC} {ω : Wd} {env : Env} {σ : L2.St} (er : EnvR G ω env σ) (n : Nat) : EnvR G (truncW ω n) (gcE n env) σ := by
  refine ⟨by simp [gcE, er.1], fun i w h => ?_⟩
  unfold gcE at h
  rw [List.getElem?_map] at h
  obtain ⟨o, ho, e⟩ := Option.map_eq_some_iff.mp h
  cases o with
  | none => cases e
  | some w0 =>
    cases w0 with
    | d x =>
      cases e
      obtain ⟨v, h1, h2⟩ := er.2 i _ ho
      exact ⟨v, h1, h2⟩
    | loc m =>
      simp only at e
      split at e
      · rename_i hm
        cases e
        obtain ⟨v, h1, a, rfl, h2⟩ := er.2 i _ ho
        refine ⟨_, h1, a, rfl, ?_⟩
        show (ω.mu.take n)[m]? = some a
        rw [List.getElem?_take_of_lt hm]; exact h2
      · cases e
theorem for_pre {t : TGt} {D : Ends} {σ : L2.St} {H : Hp} (h : tS (GX X ca) Wx (forS t fi f) D σ H) : tFor (tI (GX X ca) Wx fi) (gT X.K t) (tS (GX X ca) Wx f) D σ H := by
  obtain ⟨ω, env, ok, er, p⟩ := h
  refine ⟨ω, env, ok, er, ?_⟩
  unfold forS exS at p
  cases e1 : fi env ω.S with
  | err x S' => rw [e1] at p; exact fun ω' H' cls d e2 le ok' rx => p ω' H' σ cls d e2 le ok' (er.mono le) rx
  | stuck => rw [e1] at p; exact p
  | ok gx S' =>
    rw [e1] at p
    obtain ⟨gs, xs⟩ := gx
    intro ω1 H1 J hs1 le1 ok1 wk
    have p : SPost (GX X ca) Wx ω H D (forLoop gs t f S'.length xs env S') := p
    rw [← hs1] at p
    have p := p.step le1
    generalize hn : ω1.S.length = n at p
    have hmu : ω1.mu.length = n := by rw [ok1.len, hn]
    refine ⟨fun i m σ' H' => m = xs.length - i ∧ i ≤ xs.length ∧ ∃ ω2 env2, Sub ω1.F ω2.F ∧ ω1.mu <+: ω2.mu ∧ ω2.mu.length = n ∧ ω2.Ok (GX X ca) H' ∧ EnvR (GX X ca) ω2 env2 σ' ∧ SPost (GX X ca) Wx ω2 H' D (forLoop gs t f n (xs.drop i) env2 ω2.S),
      ⟨xs.length, by simp, Nat.zero_le _, ω1, env, Sub.refl _, List.prefix_refl _, hmu, ok1, er.mono le1, p⟩, ?_⟩
    rintro i m σ2 H2 ⟨rfl, him, ω2, env2, sb, pr, hl2, ok2, er2, p2⟩
    by_cases hlt : i < xs.length
    · have hd : xs.drop i = xs[i] :: xs.drop (i + 1) := List.drop_eq_getElem_cons hlt
      rw [hd] at p2
      unfold forLoop at p2
      split at p2
      rotate_left
      · exact p2.elim
      rename_i hg
      cases hb : bindT t xs[i] env2 with
      | none => rw [hb] at p2; exact p2.elim
      | some env3 =>
        simp only [hb] at p2
        obtain ⟨w1, _⟩ := wk ω2 H2 i sb pr ok2 hg
        obtain ⟨go, yl⟩ := w1 _ (List.getElem?_eq_getElem hlt)
        refine .inr ⟨go, fun σ' H' => ∃ ω3 env4, Sub ω1.F ω3.F ∧ ω1.mu <+: ω3.mu ∧ ω3.mu.length = n ∧ ω3.Ok (GX X ca) H' ∧ EnvR (GX X ca) ω3 env4 σ' ∧ SPost (GX X ca) Wx ω3 H' D (forLoop gs t f n (xs.drop (i + 1)) env4 ω3.S),
          fun σ' H' hN => ⟨xs.length - (i + 1), by omega, rfl, hlt, hN⟩, fun x H3 hy => ?_⟩
        obtain ⟨ω3, s3, le3, ok3, r3⟩ := yl x H3 hy
        refine bindT_ok (G := GX X ca) ok3 r3 (er2.mono le3) hb fun σ3 er3 _ => ⟨ω3, env3, ok3, er3, ?_⟩
        rw [← s3] at p2
        have p3 := p2.step le3
        have hl3 : ω3.mu.length = n := by rw [ok3.len, s3, ← ok2.len, hl2]
        have next : ∀ (env4 : Env) (S4 : Store) (ω' : Wd) (H' : Hp) (σ' : L2.St), SPost (GX X ca) Wx ω3 H3 D (forLoop gs t f n (xs.drop (i + 1)) (gcE n env4) (S4.take n)) → ω'.S = S4 → Le ω3 H3 ω' H' → ω'.Ok (GX X ca) H' → EnvR (GX X ca) ω' env4 σ' →
            ∃ ω3 env4, Sub ω1.F ω3.F ∧ ω1.mu <+: ω3.mu ∧ ω3.mu.length = n ∧ ω3.Ok (GX X ca) H' ∧ EnvR (GX X ca) ω3 env4 σ' ∧ SPost (GX X ca) Wx ω3 H' D (forLoop gs t f n (xs.drop (i + 1)) env4 ω3.S) := by
          intro env4 S4 ω' H' σ' q e4 le4 ok4 er4
          have le5 := trunc_le le4 (n := n) (by omega)
          refine ⟨truncW ω' n, gcE n env4, sb.trans (le3.ext.trans le4.ext), (pr.trans le3.pre).trans le5.pre, ?_, trunc_ok ok4 n, gcE_ok er4 n, ?_⟩
          · show (ω'.mu.take n).length = n
            have := le4.pre.length_le
            rw [List.length_take]; omega
          · show SPost (GX X ca) Wx (truncW ω' n) H' D (forLoop gs t f n (xs.drop (i + 1)) (gcE n env4) (ω'.S.take n))
            rw [e4]
            exact q.step le5
        cases e5 : f env3 ω3.S with
        | nx env4 S4 => simp only [e5] at p3; exact fun ω' H' σ' e4 le4 ok4 er4 => next env4 S4 ω' H' σ' p3 e4 le4 ok4 er4
        | ct env4 S4 => simp only [e5] at p3; exact fun ω' H' σ' e4 le4 ok4 er4 => next env4 S4 ω' H' σ' p3 e4 le4 ok4 er4
        | bk env4 S4 => simp only [e5] at p3; exact p3
        | rt w S4 => simp only [e5] at p3; exact p3
        | err y env4 S4 => simp only [e5] at p3; exact p3
        | stuck => simp only [e5] at p3; exact p3
    · have hi' : i = xs.length := by omega
      subst hi'
      rw [List.drop_length] at p2
      unfold forLoop at p2
      split at p2
      · rename_i hg
        exact .inl ⟨(wk ω2 H2 xs.length sb pr ok2 hg).2 rfl, p2 ω2 H2 σ2 rfl (Le.refl _ _ ok2) ok2 er2⟩
      · exact p2.elim
theorem ps_forS {t : TGt} {body : List Stmt} (hp : PassesOwn (model X.prog X.w) X.A X.env X.xe) (hc : X.calm = true) (hi : PI X tg iter (tI (GX X ca) Wx fi)) (hg : PG X tg (gT X.K t)) (hb : PSs X body (tS (GX X ca) Wx f)) (hs : ∀ x, foldedSetIterable iter X.env x = pure x) :
    PS X (.For tg iter body [] pos) (tS (GX X ca) Wx (forS t fi f)) :=
  psImp (ps_for hp hc hi hg hb hs) fun D σ H h => for_pre h
/-! ### a live object is frozen -/
def frzW (ω : Wd) (n : Nat) (a : Addr) (o : HO) : Wd := { F := upd ω.F a o, mu := ω.mu, S := ω.S.set n .dead }
theorem frz_cell {G : RC} {ω : Wd} {H : Hp} (ok : ω.Ok G H) {n : Nat} {c : Cell} {a : Addr} (hs : ω.S[n]? = some c) (hl : c.live = true) (hm : ω.mu[n]? = some a) :
    ∃ o, (frzW ω n a o).Ok G H ∧ Le ω H (frzW ω n a o) H ∧ Rep G (frzW ω n a o).F c.toD (.ref a) := by
  obtain ⟨fa, hc⟩ := ok.cell n c a hs hl hm
  obtain ⟨o, ho⟩ := hc.some
  have hn : n < ω.S.length := (List.getElem?_eq_some_iff.mp hs).1
  have sb : Sub ω.F (upd ω.F a o) := fun x u h => by rw [upd_ne (by intro z; subst z; rw [fa] at h; cases h)]; exact h
  have back : ∀ (m : Nat) (c1 : Cell), (ω.S.set n .dead)[m]? = some c1 → c1.live = true → m ≠ n ∧ ω.S[m]? = some c1 := by
    intro m c1 h1 h2
    by_cases e : n = m
    · subst e; rw [List.getElem?_set_self hn] at h1; cases h1; cases h2
    · rw [List.getElem?_set_ne e] at h1; exact ⟨Ne.symm e, h1⟩
  refine ⟨o, ⟨fun x u h => ?_, by simp [frzW, ok.len], fun m c1 x h1 h2 h3 => ?_, fun m k c1 c2 x h1 h2 h3 h4 h5 h6 => ok.inj m k c1 c2 x (back m c1 h1 h2).2 h2 (back k c2 h3 h4).2 h4 h5 h6⟩,
    ⟨sb, List.prefix_refl _, fun x u h _ => h, fun m c1 x hm' _ _ h3 => absurd (List.getElem?_eq_some_iff.mp h3).1 (by show ¬ m < ω.mu.length; omega), fun m c1 _ h1 h2 => ⟨c1, (back m c1 h1 h2).2, h2⟩, fun x u h => ?_, fun x h => h⟩, ?_⟩
  · have h : upd ω.F a o x = some u := h
    by_cases e : x = a
    · subst e; rw [upd_same] at h; cases h; exact ho
    · rw [upd_ne e] at h; exact ok.sub x u h
  · obtain ⟨hne, h1'⟩ := back m c1 h1 h2
    obtain ⟨z1, z2⟩ := ok.cell m c1 x h1' h2 h3
    have hx : x ≠ a := fun z => by subst z; exact hne (ok.inj m n c1 c x h1' h2 hs hl h3 hm)
    refine ⟨?_, z2.mono sb⟩
    show upd ω.F a o x = none
    rw [upd_ne hx]; exact z1
  · have h : upd ω.F a o x = some u := h
    by_cases e : x = a
    · subst e; exact .inr (.inr ⟨n, c, hs, hl, hm⟩)
    · rw [upd_ne e] at h; exact .inl h
  · cases c with
    | lst xs =>
      obtain ⟨ws, e1, e2⟩ := hc
      rw [ho] at e1; cases e1
      show Rep G (upd ω.F a _) (.lst xs) _
      unfold Rep
      exact ⟨a, ws, rfl, upd_same, e2.mono sb⟩
    | ins C ks vs =>
      obtain ⟨dx, ws, e1, e2⟩ := hc
      rw [ho] at e1; cases e1
      show Rep G (upd ω.F a _) (.ins C ks vs) _
      unfold Rep
      exact ⟨a, dx, ws, rfl, upd_same, e2.mono sb⟩
    | dic ks vs =>
      obtain ⟨ws, e1, e0, e2⟩ := hc
      rw [ho] at e1; cases e1
      show Rep G (upd ω.F a _) (.dic false ks vs) _
      unfold Rep
      exact ⟨a, ws, rfl, .inl ⟨rfl, upd_same⟩, e0, e2.mono sb⟩
    | dead => cases hl
theorem EnvR.setL {G : RC} {ω : Wd} {env : Env} {σ : L2.St} {i : Nat} {w : W} {v : V} (h : EnvR G ω env σ) (hv : σ[i]? = some (some v)) (r : RepW G ω w v) : EnvR G ω (env.set i (some w)) σ := by
  refine ⟨by simp [h.1], fun j w' e => ?_⟩
  by_cases hj : i = j
  · subst hj
    by_cases hi : i < env.length
    · rw [List.getElem?_set_self hi] at e
      cases e; exact ⟨v, hv, r⟩
    · rw [List.getElem?_eq_none (by simpa using hi)] at e; cases e
  · rw [List.getElem?_set_ne hj] at e
    exact h.2 j w' e
/-- a dict is frozen and locked -/
theorem lck_cell {G : RC} {ω : Wd} {H : Hp} (ok : ω.Ok G H) {n : Nat} {ks : List Key} {vs : List D} {a : Addr} (hs : ω.S[n]? = some (.dic ks vs)) (hm : ω.mu[n]? = some a) :
    ∃ kvs, H a = some (.dK kvs) ∧ ∀ ob, (frzW ω n a (.frz ob (.dK kvs))).Ok G (upd H a (.frz ob (.dK kvs))) ∧ Le ω H (frzW ω n a (.frz ob (.dK kvs))) (upd H a (.frz ob (.dK kvs))) ∧ Rep G (frzW ω n a (.frz ob (.dK kvs))).F (.dic true ks vs) (.ref a) := by
  obtain ⟨fa, ws, e1, e0, e2⟩ := ok.cell n _ a hs rfl hm
  have lv : Live ω a := ⟨n, _, hs, rfl, hm⟩
  refine ⟨_, e1, fun ob => ?_⟩
  generalize ho : HO.frz ob (.dK (ks.zip ws)) = o
  have hn : n < ω.S.length := (List.getElem?_eq_some_iff.mp hs).1
  have sb : Sub ω.F (upd ω.F a o) := fun x u h => by rw [upd_ne (by intro z; subst z; rw [fa] at h; cases h)]; exact h
  have back : ∀ (m : Nat) (c1 : Cell), (ω.S.set n .dead)[m]? = some c1 → c1.live = true → m ≠ n ∧ ω.S[m]? = some c1 := by
    intro m c1 h1 h2
    by_cases e : n = m
    · subst e; rw [List.getElem?_set_self hn] at h1; cases h1; cases h2
    · rw [List.getElem?_set_ne e] at h1; exact ⟨Ne.symm e, h1⟩
  refine ⟨⟨fun x u h => ?_, by simp [frzW, ok.len], fun m c1 x h1 h2 h3 => ?_, fun m k c1 c2 x h1 h2 h3 h4 h5 h6 => ok.inj m k c1 c2 x (back m c1 h1 h2).2 h2 (back k c2 h3 h4).2 h4 h5 h6⟩,
    ⟨sb, List.prefix_refl _, fun x u h hl => ?_, fun m c1 x hm' _ _ h3 => absurd (List.getElem?_eq_some_iff.mp h3).1 (by show ¬ m < ω.mu.length; omega), fun m c1 _ h1 h2 => ⟨c1, (back m c1 h1 h2).2, h2⟩, fun x u h => ?_, fun x h => ?_⟩, ?_⟩
  · have h : upd ω.F a o x = some u := h
    by_cases e : x = a
    · subst e; rw [upd_same] at h ⊢; exact h
    · rw [upd_ne e] at h ⊢; exact ok.sub x u h
  · obtain ⟨hne, h1'⟩ := back m c1 h1 h2
    obtain ⟨z1, z2⟩ := ok.cell m c1 x h1' h2 h3
    have hx : x ≠ a := fun z => by subst z; exact hne (ok.inj m n c1 _ x h1' h2 hs rfl h3 hm)
    refine ⟨?_, (z2.mono sb).at fun u hu => by rw [upd_ne hx]; exact hu⟩
    show upd ω.F a o x = none
    rw [upd_ne hx]; exact z1
  · have hx : x ≠ a := fun z => hl (by subst z; exact lv)
    rw [upd_ne hx]; exact h
  · have h : upd ω.F a o x = some u := h
    by_cases e : x = a
    · subst e; exact .inr (.inr lv)
    · rw [upd_ne e] at h; exact .inl h
  · by_cases e : x = a
    · subst e; rw [upd_same] at h; cases h
    · rw [upd_ne e] at h; exact h
  · show Rep G (upd ω.F a o) (.dic true ks vs) _
    unfold Rep
    subst ho
    exact ⟨a, ws, rfl, .inr ⟨rfl, ob, upd_same⟩, e0, e2.mono sb⟩
theorem lckD_eq {c : Cell} (h : ∀ ks vs, c ≠ .dic ks vs) : c.lckD = c.toD := by
  cases c with
  | dic ks vs => exact (h _ _ rfl).elim
  | _ => rfl
theorem pss_frzS {i : Nat} {sts : List Stmt} (h : PSs X sts (tS (GX X ca) Wx g)) : PSs X sts (tS (GX X ca) Wx (seqS (frzS i) g)) := by
  refine ⟨fun pins s σ H D I q => ?_⟩
  obtain ⟨ω, env, ok, er, p⟩ := q
  unfold seqS frzS at p
  cases e : env[i]? with
  | none => simp only [e] at p; exact h.run pins s σ H D I ⟨ω, env, ok, er, p⟩
  | some o =>
    cases o with
    | none => simp only [e] at p; exact h.run pins s σ H D I ⟨ω, env, ok, er, p⟩
    | some w =>
      cases w with
      | d x => simp only [e] at p; exact h.run pins s σ H D I ⟨ω, env, ok, er, p⟩
      | loc n =>
        simp only [e] at p
        cases hs : ω.S[n]? with
        | none => simp only [hs] at p; exact p.elim
        | some c =>
          simp only [hs] at p
          split at p
          · rename_i env' S' heq
            split at heq
            · rename_i hl
              cases heq
              obtain ⟨v, hv, a, rfl, hm⟩ := er.2 i _ e
              by_cases hd : ∃ ks vs, c = .dic ks vs
              · obtain ⟨ks, vs, rfl⟩ := hd
                obtain ⟨kvs, hH, hob⟩ := lck_cell ok hs hm
                obtain ⟨ob, I1⟩ := I.lock hH (by trivial)
                obtain ⟨ok', le', r'⟩ := hob ob
                exact h.run pins s σ _ D I1 ⟨_, _, ok', (er.mono le').setL (w := .d (.dic true ks vs)) hv r', p.step le'⟩
              · rw [lckD_eq fun ks vs z => hd ⟨ks, vs, z⟩] at p
                obtain ⟨o, ok', le', r'⟩ := frz_cell ok hs hl hm
                exact h.run pins s σ H D I ⟨frzW ω n a o, _, ok', (er.mono le').setL (w := .d c.toD) hv r', p.step le'⟩
            · cases heq
          · rename_i hne
            split at p
            · rename_i hl
              exact (hne _ _ (if_pos hl)).elim
            · exact p.elim
end
end Dn

set_option Elab.async false
set_option linter.all false
set_option maxRecDepth 100000
set_option maxHeartbeats 2000000
/-! # Dn, part 13: defs and their calls -/
namespace Dn
open PySem PySem.Spec L2

def startE (nN : Nat) (ws : List W) : Env := ws.map some ++ List.replicate (nN - ws.length) none
def exitR (n : Nat) (w : RW) (S' : Store) : Res RW := match w with
  | .d x => .ok (.d x) (S'.take n)
  | .own c => .ok (.own c) (S'.take n)
  | .loc m => if m < n then .ok (.loc m) (S'.take n) else match S'[m]? with
    | some c => if c.live = true then .ok (.own c) (S'.take n) else .stuck
    | none => .stuck
/-- a def: np parameters, nN names in all -/
@[irreducible] def defS (np nN : Nat) (f : SS) : Sem := fun ws S => if ws.length = np then match f (startE nN ws) S with
  | .rt w S' => exitR S.length w S'
  | .nx _ S' => .ok (.d .non) (S'.take S.length)
  | .err e _ S' => .err e (S'.take S.length)
  | _ => .stuck
  else .stuck
/-- the module's facts that an own def leans on: a def by its name -/
structure FnE where
  name : Str
  np : Nat
  sem : Sem
  lvl : Nat
def FnOkD (P : Program) (w : World) (K : PySem.W.Frag) (mg : Str → Option Value) (base : Heap) (ca : CA) (e : FnE) : Prop :=
  ∃ f fd ps, mg e.name = some (.ref f) ∧ PySem.W.keepIn K (.ref f) = true ∧ Binds K fd ps [] ∧ ps.length = e.np ∧ FnOk P w K mg base (L2.CX P w) e.lvl f fd ps (spOf ⟨K, ca⟩ e.np e.sem)

section
variable {X : Cx} {ca : CA} {Wx : WX} {a b c e tg iter : Expr} {pos : Pos} {fa fb fo fe : ES} {ft : BS} {f g : SS} {fs : AS}
theorem envR_start {G : RC} {ω : Wd} {N : List Str} {ws : List W} {vs : List V} (r : RepWs G ω ws vs) : EnvR G ω (startE N.length ws) (L2.start N vs) := by
  have hl := r.length
  refine ⟨by simp [startE, L2.start, hl], fun i w h => ?_⟩
  unfold startE at h
  unfold L2.start
  by_cases hi : i < ws.length
  · rw [List.getElem?_append_left (by simpa using hi), List.getElem?_map] at h
    obtain ⟨w', h1, h2⟩ := Option.map_eq_some_iff.mp h
    cases h2
    obtain ⟨v, h3, h4⟩ := r.get h1
    refine ⟨v, ?_, h4⟩
    rw [List.getElem?_append_left (by simp; omega), List.getElem?_map, h3]; rfl
  · rw [List.getElem?_append_right (by simpa using hi), List.getElem?_replicate] at h
    split at h <;> cases h
theorem live_trunc {ω : Wd} {n : Nat} {a : Addr} (h : Live (truncW ω n) a) : Live ω a := by
  obtain ⟨k, c, h1, h2, h3⟩ := h
  exact ⟨k, c, (take_get h1).2, h2, (take_get h3).2⟩
/-- a def's body keeps the promise -/
theorem body_pre {G : RC} {np : Nat} {N : List Str} {vs : List V} {H : Hp} {Q : VK} {E : XK} (h : spOf G np (defS np N.length f) vs H Q E) :
    tS G (fun c d _ H => E c d H) f { nx := fun _ H' => Q .non H', rt := Q } (L2.start N vs) H := by
  obtain ⟨_, ω, ws, ok, r, p⟩ := h
  refine ⟨ω, startE N.length ws, ok, envR_start r, ?_⟩
  unfold defS at p
  split at p
  rotate_left
  · exact p.elim
  have hlen : ω.mu.length ≤ ω.S.length := Nat.le_of_eq ok.len
  cases e : f (startE N.length ws) ω.S with
  | nx env' S' =>
    rw [e] at p
    intro ω' H' σ' e1 le ok' er
    exact p (truncW ω' ω.S.length) H' .non (by rw [← e1]; rfl) (trunc_le le hlen) (trunc_ok ok' _) (rep_non (G := G) (F := ω'.F))
  | bk env' S' => rw [e] at p; exact p.elim
  | ct env' S' => rw [e] at p; exact p.elim
  | stuck => rw [e] at p; exact p.elim
  | err x env' S' =>
    rw [e] at p
    intro ω' H' σ' cls d e1 le ok' er rx
    exact p (truncW ω' ω.S.length) H' cls d (by rw [← e1]; rfl) (trunc_le le hlen) (trunc_ok ok' _) rx
  | rt w S' =>
    rw [e] at p
    intro ω' H' v e1 le ok' rw'
    have le2 := trunc_le le hlen
    have ok2 := trunc_ok ok' ω.S.length
    have es : (truncW ω' ω.S.length).S = S'.take ω.S.length := by rw [← e1]; rfl
    cases w with
    | d x => exact p (truncW ω' ω.S.length) H' v es le2 ok2 rw'
    | own c =>
      obtain ⟨q, h1, h2, h3, h4, h5⟩ := rw'
      exact p (truncW ω' ω.S.length) H' v es le2 ok2 ⟨q, h1, h2, h3, fun l => h4 (live_trunc l), h5⟩
    | loc m =>
      obtain ⟨q, rfl, hm⟩ := rw'
      unfold exitR at p
      dsimp only at p
      split at p
      · rename_i hlt
        refine p (truncW ω' ω.S.length) H' _ es le2 ok2 ⟨q, rfl, ?_⟩
        show (ω'.mu.take ω.S.length)[m]? = some q
        rw [List.getElem?_take_of_lt hlt]; exact hm
      · rename_i hge
        rw [← e1] at p
        cases hc : ω'.S[m]? with
        | none => simp only [hc] at p; exact p.elim
        | some c =>
          simp only [hc] at p
          split at p
          · rename_i hl
            rw [e1] at p
            obtain ⟨fa, ca'⟩ := ok'.cell m c q hc hl hm
            refine p (truncW ω' ω.S.length) H' _ es le2 ok2 ⟨q, rfl, le.newl m c q (by have := ok.len; omega) hc hl hm, fa, ?_, ca'⟩
            rintro ⟨k, c', h1, h2, h3⟩
            have := ok'.inj k m c' c q (take_get h1).2 h2 hc hl (take_get h3).2 hm
            have := (take_get h1).1
            omega
          · exact p.elim
/-- the promise of a def, from its body's judgement -/
theorem def_ok {P : Program} {w : World} {K : PySem.W.Frag} {mg : Str → Option Value} {base : Heap} {x qual : Str} {params : Arguments} {body : List Stmt} {scope : Scope} {dvs : List V} {kws : List (Str × V)} {fA : Addr} {fd : FuncData}
    {N ps : List Str} {k : Nat} (F : FunD K x qual params body scope dvs kws fA fd) (S : FnScope N ps scope)
    (hbody : ∀ (cdv : Value) (A : Around) (outer : List PySem.Env) (s : Shared) (H : Hp) (E : XK), Room k (A.deeper (PyProof.Rows.envOfC qual scope s.heap.objs.size fA cdv)) →
      PSs (cxOf (L2.CX P w) P w K mg base N qual scope fA cdv A outer s H E) body (tS ⟨K, ca⟩ (fun c d _ H => E c d H) f)) :
    FnOk P w K mg base (L2.CX P w) (k + 1) fA fd ps (spOf ⟨K, ca⟩ ps.length (defS ps.length N.length f)) :=
  F.ok S (fun vs H Q E h => h.1) fun cdv A outer s H vs Q E hr hsp => ⟨_, hbody cdv A outer s H E hr, body_pre hsp⟩
/-! ### calls -/
def callF (g : Sem) (fs : AS) : ES := fun env => (fs env).bind g
theorem call_pre {np : Nat} {gs : Sem} {σ : L2.St} {H : Hp} {Q : VK} (hl : ∀ env S ws S', fs env S = .ok ws S' → ws.length = np) (h : tE (GX X ca) Wx (callF gs fs) σ H Q) : tCallS (spOf (GX X ca) np gs) (WE Wx) (tA (GX X ca) Wx fs) σ H Q := by
  obtain ⟨ω, env, ok, er, p⟩ := h
  refine ⟨ω, env, ok, er, ?_⟩
  unfold callF M.bind at p
  cases e1 : fs env ω.S with
  | err x S' => rw [e1] at p; exact p
  | stuck => rw [e1] at p; exact p
  | ok ws S' =>
    rw [e1] at p
    intro ω1 H1 vs e2 le1 ok1 r1
    refine ⟨by rw [r1.length]; exact hl _ _ _ _ e1, ω1, ws, ok1, r1, ?_⟩
    subst e2
    exact PostE.step le1 p
theorem pe_callFS {en : FnE} {es : List Expr} {q : Pos} (F : FnOkD X.prog X.w X.K X.mg X.base ca en) (hr : Room en.lvl X.A) (hg : Gl X en.name) (tk : Takes X Wx) (ha : PA X (e :: es) (tA (GX X ca) Wx fs)) (hl : ∀ env S ws S', fs env S = .ok ws S' → ws.length = en.np)
    (hdb : (en.name == ("__debug__" : Str)) = false) (he : starEach (e :: es) X.env = (false, eval e X.env) :: starEach es X.env) (hpl : (backTo pos (starEach es X.env)).any (·.1) = false) :
    PE X (.Call (.Name en.name q) (e :: es) [] pos) (tE (GX X ca) Wx (callF en.sem fs)) := by
  obtain ⟨fA, fd, ps, h1, h2, h3, h4, h5⟩ := F
  exact peImp (pe_callS h5 hr hg h1 h2 h3 (fun σ => passAt tk σ) ha hdb he hpl) fun σ H Q h => call_pre hl h
theorem pe_callF0S {en : FnE} {q : Pos} (F : FnOkD X.prog X.w X.K X.mg X.base ca en) (hr : Room en.lvl X.A) (hg : Gl X en.name) (tk : Takes X Wx) (hl : en.np = 0) (hdb : (en.name == ("__debug__" : Str)) = false) :
    PE X (.Call (.Name en.name q) [] [] pos) (tE (GX X ca) Wx (callF en.sem nilS)) := by
  obtain ⟨fA, fd, ps, h1, h2, h3, h4, h5⟩ := F
  refine ⟨fun pins s σ H Q I h => ?_⟩
  have h' := call_pre (np := en.np) (fs := nilS) (fun env S ws S' e => by cases e; exact hl.symm) h
  obtain ⟨ω, env, ok, er, p⟩ := h'
  have h6 := p ω H [] rfl (Le.refl _ _ ok) ok rfl
  refine wpAny_Call_Name_kw (ld_glob I hg h1 ?_ hdb)
  exact PySem.W.callWith_K0 I.kIn h2 (run_fnS (us := []) h5 hr h3 (passAt tk σ) I .nil h6)
end
end Dn

set_option Elab.async false
set_option linter.all false
set_option maxRecDepth 100000
set_option maxHeartbeats 4000000
/-! # Dn, part A: the error that a suite handles, as data -/
namespace Dn
open PySem PySem.Spec L2
/-! ### data with no handled error in it -/
mutual
def noX : D → Bool
  | .exn _ _ _ => false
  | .tup xs => noXs xs
  | .lst xs => noXs xs
  | .ins _ _ vs => noXs vs
  | .dic _ _ vs => noXs vs
  | _ => true
def noXs : List D → Bool
  | [] => true
  | d :: ds => noX d && noXs ds
end
section
variable {K : PySem.W.Frag} {f : Str → Addr} {x : Option (Addr × Value × Option Addr)} {F : Hp}
mutual
theorem rep_on : ∀ {d : D} {v : V}, Rep ⟨K, ⟨f, none⟩⟩ F d v → Rep ⟨K, ⟨f, x⟩⟩ F d v
  | .non, _, h => by simp only [Rep] at h ⊢; exact h
  | .bl _, _, h => by simp only [Rep] at h ⊢; exact h
  | .int _, _, h => by simp only [Rep] at h ⊢; exact h
  | .str _, _, h => by simp only [Rep] at h ⊢; exact h
  | .tup xs, _, h => by
    simp only [Rep] at h ⊢
    obtain ⟨a, ws, h1, h2, h3⟩ := h
    exact ⟨a, ws, h1, h2, reps_on h3⟩
  | .lst xs, _, h => by
    simp only [Rep] at h ⊢
    obtain ⟨a, ws, h1, h2, h3⟩ := h
    exact ⟨a, ws, h1, h2, reps_on h3⟩
  | .ins C ks vs, _, h => by
    simp only [Rep] at h ⊢
    obtain ⟨a, dx, ws, h1, h2, h3⟩ := h
    exact ⟨a, dx, ws, h1, h2, reps_on h3⟩
  | .dic lk ks vs, _, h => by
    simp only [Rep] at h ⊢
    obtain ⟨a, ws, h1, h2, h3, h4⟩ := h
    exact ⟨a, ws, h1, h2, h3, reps_on h4⟩
  | .scr ns, _, h => by simp only [Rep] at h ⊢; exact h
  | .exn C ks vs, _, h => by
    simp only [Rep] at h
    obtain ⟨a, cls, d, ws, h1, _⟩ := h
    cases h1
theorem reps_on : ∀ {ds : List D} {vs : List V}, Reps ⟨K, ⟨f, none⟩⟩ F ds vs → Reps ⟨K, ⟨f, x⟩⟩ F ds vs
  | [], _, h => by simp only [Reps] at h ⊢; exact h
  | d :: ds, _, h => by
    simp only [Reps] at h ⊢
    obtain ⟨v, vs, h1, h2, h3⟩ := h
    exact ⟨v, vs, h1, rep_on h2, reps_on h3⟩
end
mutual
theorem rep_off : ∀ {d : D} {v : V}, noX d = true → Rep ⟨K, ⟨f, x⟩⟩ F d v → Rep ⟨K, ⟨f, none⟩⟩ F d v
  | .non, _, _, h => by simp only [Rep] at h ⊢; exact h
  | .bl _, _, _, h => by simp only [Rep] at h ⊢; exact h
  | .int _, _, _, h => by simp only [Rep] at h ⊢; exact h
  | .str _, _, _, h => by simp only [Rep] at h ⊢; exact h
  | .tup xs, _, n, h => by
    simp only [noX] at n
    simp only [Rep] at h ⊢
    obtain ⟨a, ws, h1, h2, h3⟩ := h
    exact ⟨a, ws, h1, h2, reps_off n h3⟩
  | .lst xs, _, n, h => by
    simp only [noX] at n
    simp only [Rep] at h ⊢
    obtain ⟨a, ws, h1, h2, h3⟩ := h
    exact ⟨a, ws, h1, h2, reps_off n h3⟩
  | .ins C ks vs, _, n, h => by
    simp only [noX] at n
    simp only [Rep] at h ⊢
    obtain ⟨a, dx, ws, h1, h2, h3⟩ := h
    exact ⟨a, dx, ws, h1, h2, reps_off n h3⟩
  | .dic lk ks vs, _, n, h => by
    simp only [noX] at n
    simp only [Rep] at h ⊢
    obtain ⟨a, ws, h1, h2, h3, h4⟩ := h
    exact ⟨a, ws, h1, h2, h3, reps_off n h4⟩
  | .scr ns, _, _, h => by simp only [Rep] at h ⊢; exact h
  | .exn C ks vs, _, n, h => by simp only [noX] at n; cases n
theorem reps_off : ∀ {ds : List D} {vs : List V}, noXs ds = true → Reps ⟨K, ⟨f, x⟩⟩ F ds vs → Reps ⟨K, ⟨f, none⟩⟩ F ds vs
  | [], _, _, h => by simp only [Reps] at h ⊢; exact h
  | d :: ds, _, n, h => by
    simp only [noXs, Bool.and_eq_true] at n
    simp only [Reps] at h ⊢
    obtain ⟨v, vs, h1, h2, h3⟩ := h
    exact ⟨v, vs, h1, rep_off n.1 h2, reps_off n.2 h3⟩
end
def noXW : W → Bool
  | .d x => noX x
  | .loc _ => true
def noXR : RW → Bool
  | .d x => noX x
  | .loc _ => true
  | .own (.lst xs) => noXs xs
  | .own (.ins _ _ vs) => noXs vs
  | .own (.dic _ vs) => noXs vs
  | .own .dead => true
def noXC : Cell → Bool
  | .lst xs => noXs xs
  | .ins _ _ vs => noXs vs
  | .dic _ vs => noXs vs
  | .dead => true
def noXE (env : Env) : Bool := env.all fun o => match o with
  | some w => noXW w
  | none => true
def noXS (S : Store) : Bool := S.all noXC
theorem cell_on {F H : Hp} {a : Addr} {c : Cell} (h : CellAt ⟨K, ⟨f, none⟩⟩ F H a c) : CellAt ⟨K, ⟨f, x⟩⟩ F H a c := by
  cases c with
  | lst xs => obtain ⟨ws, e1, e2⟩ := h; exact ⟨ws, e1, reps_on e2⟩
  | ins C ks vs => obtain ⟨dx, ws, e1, e2⟩ := h; exact ⟨dx, ws, e1, reps_on e2⟩
  | dic ks vs => obtain ⟨ws, e1, e0, e2⟩ := h; exact ⟨ws, e1, e0, reps_on e2⟩
  | dead => exact h
theorem cell_off {F H : Hp} {a : Addr} {c : Cell} (n : noXC c = true) (h : CellAt ⟨K, ⟨f, x⟩⟩ F H a c) : CellAt ⟨K, ⟨f, none⟩⟩ F H a c := by
  cases c with
  | lst xs => obtain ⟨ws, e1, e2⟩ := h; exact ⟨ws, e1, reps_off n e2⟩
  | ins C ks vs => obtain ⟨dx, ws, e1, e2⟩ := h; exact ⟨dx, ws, e1, reps_off n e2⟩
  | dic ks vs => obtain ⟨ws, e1, e0, e2⟩ := h; exact ⟨ws, e1, e0, reps_off n e2⟩
  | dead => exact h
theorem ok_on {ω : Wd} {H : Hp} (h : ω.Ok ⟨K, ⟨f, none⟩⟩ H) : ω.Ok ⟨K, ⟨f, x⟩⟩ H :=
  ⟨h.sub, h.len, fun n c a e1 e2 e3 => let ⟨z1, z2⟩ := h.cell n c a e1 e2 e3; ⟨z1, cell_on z2⟩, h.inj⟩
theorem ok_off {ω : Wd} {H : Hp} (n : noXS ω.S = true) (h : ω.Ok ⟨K, ⟨f, x⟩⟩ H) : ω.Ok ⟨K, ⟨f, none⟩⟩ H :=
  ⟨h.sub, h.len, fun n' c a e1 e2 e3 => let ⟨z1, z2⟩ := h.cell n' c a e1 e2 e3; ⟨z1, cell_off (List.all_eq_true.mp n c (List.mem_of_getElem? e1)) z2⟩, h.inj⟩
theorem repW_on {ω : Wd} {w : W} {v : V} (h : RepW ⟨K, ⟨f, none⟩⟩ ω w v) : RepW ⟨K, ⟨f, x⟩⟩ ω w v := by
  cases w with
  | d y => exact rep_on h
  | loc n => exact h
theorem repW_off {ω : Wd} {w : W} {v : V} (n : noXW w = true) (h : RepW ⟨K, ⟨f, x⟩⟩ ω w v) : RepW ⟨K, ⟨f, none⟩⟩ ω w v := by
  cases w with
  | d y => exact rep_off n h
  | loc n => exact h
theorem repRW_off {ω : Wd} {H0 H : Hp} {w : RW} {v : V} (n : noXR w = true) (h : RepRW ⟨K, ⟨f, x⟩⟩ ω H0 H w v) : RepRW ⟨K, ⟨f, none⟩⟩ ω H0 H w v := by
  cases w with
  | d y => exact rep_off n h
  | loc n => exact h
  | own c =>
    obtain ⟨a, h1, h2, h3, h4, h5⟩ := h
    exact ⟨a, h1, h2, h3, h4, cell_off (by cases c <;> exact n) h5⟩
theorem envR_on {ω : Wd} {env : Env} {σ : L2.St} (h : EnvR ⟨K, ⟨f, none⟩⟩ ω env σ) : EnvR ⟨K, ⟨f, x⟩⟩ ω env σ :=
  ⟨h.1, fun i w e => let ⟨v, h1, h2⟩ := h.2 i w e; ⟨v, h1, repW_on h2⟩⟩
theorem envR_off {ω : Wd} {env : Env} {σ : L2.St} (n : noXE env = true) (h : EnvR ⟨K, ⟨f, x⟩⟩ ω env σ) : EnvR ⟨K, ⟨f, none⟩⟩ ω env σ :=
  ⟨h.1, fun i w e => let ⟨v, h1, h2⟩ := h.2 i w e; ⟨v, h1, repW_off (List.all_eq_true.mp n _ (List.mem_of_getElem? e)) h2⟩⟩
end
end Dn

set_option Elab.async false
set_option linter.all false
set_option maxRecDepth 100000
set_option maxHeartbeats 4000000
/-! # Dn, part B: the handled error: e.f, isinstance(e, C), isinstance(e, (C, D)) -/
namespace Dn
open PySem PySem.Spec L2

/-- where an error is known to be handled, the context is that of its suite -/
def XOk (X : Cx) (ca : CA) : Prop := ∀ a cls d, ca.x = some (a, cls, d) → ∃ (X0 : Cx) (oe : Obj) (pn : List (Addr × Obj)), X = Cx.suite X0 a ((a, oe) :: pn) ∧ Zc cls d oe ∧ ∃ vs, oe.data = .fields vs
def attX (tb : List Str) (f : Str) (fo : ES) : ES := fun env => (fo env).bind fun w => fun S => match w.toW with
  | .d (.exn C ks vs) => if C ∈ tb then match (ks.zip vs).lookup f with
      | some d => .ok (.d d) S
      | none => .stuck
    else .stuck
  | _ => .stuck
def xisS (tb : List (Str × Bool)) (fo : ES) : ES := fun env => (fo env).bind fun w => fun S => match w.toW with
  | .d (.exn C ks vs) => match tb.lookup C with
      | some b => .ok (.d (.bl b)) S
      | none => .stuck
  | _ => .stuck
structure AttOk (K : PySem.W.Frag) (C : Addr) (f : Str) : Prop where
  ga : PySem.W.findIn K (.ref C) "__getattribute__" = some (some (.builtin "BaseException.__getattribute__"))
  gg : PySem.W.findIn K (.ref C) "__getattr__" = some none
  ex : PySem.W.subIn K (.ref C) (.type "BaseException") = some true
  hd : PySem.W.hasDictIn K C = true
  no : PySem.W.findIn K (.ref C) f = some none
/-- a class by name: of the module, or a built-in one -/
inductive KL where
  | own (x : Str) | bi (x : Str) (T : String)
def KL.name : KL → Str
  | .own x => x
  | .bi x _ => x
def KL.v (ca : CA) : KL → V
  | .own x => .ref (ca.f x)
  | .bi _ T => .ty T
def KL.u (ca : CA) : KL → Value
  | .own x => .ref (ca.f x)
  | .bi _ T => .type T
def KLOk (mg : Str → Option Value) (ca : CA) : KL → Prop
  | .own x => mg x = some (.ref (ca.f x))
  | .bi x T => mg x = none ∧ bootBuiltins x = some (.type T) ∧ x ≠ "__name__"
section
variable {X : Cx} {ca : CA} {Wx : WX} {o : Expr} {pos : Pos} {fo : ES}
theorem zip_lookup {G : RC} {F : Hp} {f : Str} {d : D} : ∀ {ks : List Str} {vs : List D} {ws : List V}, Reps G F vs ws → (ks.zip vs).lookup f = some d → ∃ v, (ks.zip ws).lookup f = some v ∧ Rep G F d v
  | [], vs, ws, _, h => by simp at h
  | k :: ks, [], ws, _, h => by simp at h
  | k :: ks, y :: vs, ws, r, h => by
    obtain ⟨v, ws, rfl, r1, r2⟩ := r.inv_cons
    simp only [List.zip_cons_cons, List.lookup_cons] at h ⊢
    cases e : f == k with
    | true => rw [e] at h; cases h; exact ⟨v, rfl, r1⟩
    | false => rw [e] at h; exact zip_lookup r2 h
theorem klv {c : KL} : ClsV (c.v ca) (c.u ca) := by
  cases c with
  | own x => exact .own _
  | bi x T => exact .ty _
theorem klvs : ∀ {cs : List KL}, PySem.Paired ClsV (cs.map (KL.v ca)) (cs.map (KL.u ca))
  | [] => .nil
  | c :: cs => .cons klv klvs
theorem pe_kl {c : KL} {x : Str} (hx : x = c.name) (h : KLOk X.mg ca c) (hg : Gl X x) (hdb : (x == ("__debug__" : Str)) = false) : PE X (.Name x pos) (tC (c.v ca)) := by
  subst hx
  cases c with
  | own y => exact pe_glob hg h rfl hdb
  | bi y T => exact pe_bltn hg h.1 h.2.1 rfl h.2.2 hdb
theorem pe_attX {f : Str} {tb : List Str} (hT : ∀ C ∈ tb, AttOk X.K (ca.f C) f) (xo : XOk X ca) (ho : PE X o (tE (GX X ca) Wx fo)) (hb : attributeBase o f X.env (eval o X.env) = eval o X.env) :
    PE X (.Attribute o f pos) (tE (GX X ca) Wx (attX tb f fo)) := by
  refine ⟨fun pins s σ H Q I h => ?_⟩
  obtain ⟨ω, env, ok, er, p⟩ := h
  refine attr_of hb (thn (ho.run pins s σ H _ I (bindW ok er p)) fun u s1 hh => ?_)
  obtain ⟨x, H1, I1, rx, ω1, w, le1, ok1, r1, er1, p1⟩ := hh
  cases hw : w.toW with
  | loc n => simp only [hw] at p1; exact p1.elim
  | d y =>
    rw [hw] at r1
    cases y with
    | exn C ks vs =>
      simp only [hw] at p1
      split at p1
      rotate_left
      · exact p1.elim
      rename_i hC
      cases hl : (ks.zip vs).lookup f with
      | none => simp only [hl] at p1; exact p1.elim
      | some d =>
        simp only [hl] at p1
        have r1 : Rep (GX X ca) ω1.F (.exn C ks vs) x := r1
        unfold Rep at r1
        obtain ⟨a, cls, dv, ws, hx, rfl, hcls, hk, hr⟩ := r1
        obtain ⟨v, hv, rv⟩ := zip_lookup hr hl
        obtain ⟨X0, oe, pn, rfl, hz, fv, hdat⟩ := xo a cls dv hx
        rcases hk with ⟨rfl, _⟩ | ⟨dd, rfl, hF⟩
        · simp at hl
        have T := hT C hC
        obtain rfl : u = Value.ref a := rx
        subst hcls
        obtain ⟨ha, _⟩ := I1.pin (a, oe) (List.mem_append_left _ List.mem_cons_self)
        have hx : ObjOk X0.prog X0.w H1 s1.heap dd (.xd (ks.zip ws)) := I1.hok dd _ (ok1.sub _ _ hF)
        obtain ⟨mA, hns, hrr⟩ := hx
        obtain ⟨od, ho', hl'⟩ := lookIn_ns hns
        obtain ⟨u, hu, ru⟩ := RelO.some_of (v := v) (o := mA f) (by rw [← hv]; exact hrr f)
        have J : PySem.W.InstAt s1.heap a oe (ca.f C) (some od) := ⟨ha, hz.1, by unfold PySem.W.notCls; rw [hdat] <;> rfl, by rw [hz.2]; exact ho'⟩
        exact HandSPX.exc_get I1.kIn J T.ga T.gg T.ex (PySem.W.findObj_own T.hd T.no rfl (by rw [hl', hu])) (handed_of ru) ⟨v, H1, I1.tok _, ru, p1 ω1 H1 v rfl le1 ok1 rv⟩
    | _ => simp only [hw] at p1; exact p1.elim
/-- what the handled error is -/
theorem exn_at {ω : Wd} {H : Hp} {C : Str} {ks : List Str} {vs : List D} {x : V} {pins : List (Addr × Obj)} {s : Shared} {σ : L2.St} (xo : XOk X ca) (ok : ω.Ok (GX X ca) H) (I : Inv X pins σ H s) (r : Rep (GX X ca) ω.F (.exn C ks vs) x) (T : ExcC X.K (ca.f C)) :
    ∃ a, x = .ref a ∧ PySem.W.KitX X.K (.ref a) (.ref (ca.f C)) (fun h => ∃ ox od, PySem.W.InstAt h a ox (ca.f C) od) ∧ ∃ ox od, PySem.W.InstAt s.heap a ox (ca.f C) od := by
  unfold Rep at r
  obtain ⟨a, cls, dv, ws, hx, rfl, hcls, hk, hr⟩ := r
  obtain ⟨X0, oe, pn, rfl, hz, fv, hdat⟩ := xo a cls dv hx
  obtain ⟨ha, _⟩ := I.pin (a, oe) (List.mem_append_left _ List.mem_cons_self)
  subst hcls
  have nc : PySem.W.notCls oe = true := by unfold PySem.W.notCls; rw [hdat] <;> rfl
  have Z : ∀ (ox : Obj) (od : Option Obj), PySem.W.KitX X0.K (.ref a) (.ref (ca.f C)) (fun h => PySem.W.InstAt h a ox (ca.f C) od) := fun ox od =>
    PySem.W.kitx_exc (gt := none) (by obtain ⟨z, hz', _⟩ := PySem.W.any_some T.hd; rw [hz']; rfl) T.hg T.hk T.hs T.ha T.hn T.ht T.hm
  refine ⟨a, rfl, ⟨fun M h X ⟨ox, od, i⟩ => (Z ox od).ty M h X i, fun M h X ⟨ox, od, i⟩ => (Z ox od).it M h X i, (Z oe none).ne, fun X ⟨ox, od, i⟩ k => (Z ox od).ca X i k⟩, ?_⟩
  rcases hk with ⟨_, rfl⟩ | ⟨dd, rfl, hF⟩
  · exact ⟨oe, none, ha, hz.1, nc, by rw [hz.2]; trivial⟩
  · obtain ⟨od, hod⟩ : ∃ od, s.heap.get? dd = some od := by
      obtain ⟨mA, ⟨od, _, _, hod, _⟩, _⟩ := (I.hok dd _ (ok.sub _ _ hF) : ObjOk X0.prog X0.w H s.heap dd (.xd (ks.zip ws)))
      exact ⟨od, hod⟩
    exact ⟨oe, some od, ha, hz.1, nc, by rw [hz.2]; exact hod⟩
/-- one class -/
theorem pe_xis1 {c : KL} {tb : List (Str × Bool)} {x : Str} {q q2 : Pos} (hT : ∀ C b, tb.lookup C = some b → ExcC X.K (ca.f C) ∧ PySem.W.kitOne X.K (.ref (ca.f C)) (c.u ca) = some b) (hc : KLOk X.mg ca c) (xo : XOk X ca) (ho : PE X o (tE (GX X ca) Wx fo))
    (hx : x = c.name) (hg1 : Gl X "isinstance") (hm1 : X.mg "isinstance" = none) (hg : Gl X x) (hdb : (x == ("__debug__" : Str)) = false) (he : starEach [o, .Name x q2] X.env = (false, eval o X.env) :: starEach [.Name x q2] X.env) :
    PE X (.Call (.Name "isinstance" q) [o, .Name x q2] [] pos) (tE (GX X ca) Wx (xisS tb fo)) := by
  have hr : CallR X (.builtin "isinstance") (fun xs H Q => ∃ (ω : Wd) (y z : V) (C : Str) (ks : List Str) (vs : List D) (b : Bool), xs = [y, z] ∧ ω.Ok (GX X ca) H ∧ Rep (GX X ca) ω.F (.exn C ks vs) y ∧ z = c.v ca ∧ tb.lookup C = some b ∧ Q (.bl b) H) := by
    intro pins s σ H xs us Q I r ⟨ω, y, z, C, ks, vs, b, e1, ok, ry, e2, hl, q⟩
    subst e1; subst e2
    obtain ⟨u1, u2, rfl, r1, r2⟩ := vals2 r
    obtain ⟨T, hk⟩ := hT C b hl
    obtain ⟨a, rfl, Z, hi⟩ := exn_at xo ok I ry T
    obtain rfl : u1 = Value.ref a := r1
    have e := (klv (ca := ca) (c := c)).eq r2
    subst e
    exact PySem.W.kia_one Z I.kIn hi hk (fun z => nomatch z) fun tk => ⟨.bl b, H, I.tok tk, rfl, q⟩
  refine peImp (pe_callB hr hg1 hm1 (by decide +kernel) (pa_cons ho (pa_cons (pe_kl hx hc hg hdb) pa_nil (by rfl)) he) (by decide) (by decide) he (by rfl)) fun σ H Q h => ?_
  obtain ⟨ω, env, ok, er, p⟩ := h
  refine tE_mono (bindW ok er p) fun v H1 ⟨ω1, w, le1, ok1, r1, er1, p1⟩ => ?_
  cases hw : w.toW with
  | loc n => simp only [hw] at p1; exact p1.elim
  | d y =>
    rw [hw] at r1
    cases y with
    | exn C ks vs =>
      simp only [hw] at p1
      cases hl : tb.lookup C with
      | none => simp only [hl] at p1; exact p1.elim
      | some b =>
        simp only [hl] at p1
        exact ⟨ω1, v, _, C, ks, vs, b, rfl, ok1, r1, rfl, hl, p1 ω1 H1 _ rfl le1 ok1 (rep_bl (G := GX X ca) (F := ω1.F) b)⟩
    | _ => simp only [hw] at p1; exact p1.elim
/-- several classes -/
theorem pe_xisT {cs : List KL} {tb : List (Str × Bool)} {es : List Expr} {q p2 : Pos} {j : Nat} (hT : ∀ C b, tb.lookup C = some b → ExcC X.K (ca.f C) ∧ PySem.W.kitAny X.K (.ref (ca.f C)) (cs.map (KL.u ca)) = some b) (xo : XOk X ca) (ho : PE X o (tE (GX X ca) Wx fo))
    (hes : PA X es (fun σ H Q => Q (cs.map (KL.v ca)) H)) (hn : cs.length ≤ 1000) (hg1 : Gl X "isinstance") (hm1 : X.mg "isinstance" = none) (he : starEach [o, .Tuple es j p2] X.env = (false, eval o X.env) :: starEach [.Tuple es j p2] X.env) :
    PE X (.Call (.Name "isinstance" q) [o, .Tuple es j p2] [] pos) (tE (GX X ca) Wx (xisS tb fo)) := by
  have hr : CallR X (.builtin "isinstance") (fun xs H Q => ∃ (ω : Wd) (y : V) (tp : Addr) (C : Str) (ks : List Str) (vs : List D) (b : Bool), xs = [y, .ref tp] ∧ ω.Ok (GX X ca) H ∧ Rep (GX X ca) ω.F (.exn C ks vs) y ∧ H tp = some (.tup (cs.map (KL.v ca))) ∧ tb.lookup C = some b ∧ Q (.bl b) H) := by
    intro pins s σ H xs us Q I r ⟨ω, y, tp, C, ks, vs, b, e1, ok, ry, e2, hl, q⟩
    subst e1
    obtain ⟨u1, u2, rfl, r1, r2⟩ := vals2 r
    obtain ⟨T, hk⟩ := hT C b hl
    obtain ⟨a, rfl, Z, hi⟩ := exn_at xo ok I ry T
    obtain rfl : u1 = Value.ref a := r1
    cases (show u2 = Value.ref tp from r2)
    obtain ⟨_, its, rv, o', h1, h2, n, h3⟩ := (show ObjOk X.prog X.w H s.heap tp (.tup _) from I.hok tp _ e2)
    have e3 := ClsV.all klvs rv
    subst e3
    obtain ⟨oc, od, dt, sl⟩ := o'
    simp only at h2 h3
    subst h2 h3
    exact PySem.W.kia_tup Z I.kIn hi h1 hk (fun z => nomatch z) fun tk => ⟨.bl b, H, I.tok tk, rfl, q⟩
  refine peImp (pe_callB hr hg1 hm1 (by decide +kernel) (pa_cons ho (pa_cons (pe_tup hes) pa_nil (by rfl)) he) (by decide) (by decide) he (by rfl)) fun σ H Q h => ?_
  obtain ⟨ω, env, ok, er, p⟩ := h
  refine tE_mono (bindW ok er p) fun v H1 ⟨ω1, w, le1, ok1, r1, er1, p1⟩ => ?_
  cases hw : w.toW with
  | loc n => simp only [hw] at p1; exact p1.elim
  | d y =>
    rw [hw] at r1
    cases y with
    | exn C ks vs =>
      simp only [hw] at p1
      cases hl : tb.lookup C with
      | none => simp only [hl] at p1; exact p1.elim
      | some b =>
        simp only [hl] at p1
        refine ⟨by rw [List.length_map, sizeLine_eq]; omega, fun tp htp => ?_⟩
        have le2 := Le.laid (o := .tup (cs.map (KL.v ca))) ok1 htp
        have ok2 := ok1.laid (o := .tup (cs.map (KL.v ca))) htp
        exact ⟨ω1, v, tp, C, ks, vs, b, rfl, ok2, r1, upd_same, hl, p1 ω1 _ _ rfl (le1.trans le2) ok2 (rep_bl (G := GX X ca) (F := ω1.F) b)⟩
    | _ => simp only [hw] at p1; exact p1.elim
end
end Dn

set_option Elab.async false
set_option linter.all false
set_option maxRecDepth 100000
set_option maxHeartbeats 4000000
/-! # own errors whose __init__ says super().__init__(text) and keeps one field: the run of __init__ -/
namespace Dn
namespace Ex
open PySem PySem.W PySem.Calls PyProof.Rows PySem.HandSPX

def iA (f : Str) (p1 p2 : Pos) : Arguments := { posonlyargs := [], args := [{ arg := "self", annotation := none, pos := p1 }, { arg := f, annotation := none, pos := p2 }], vararg := none, kwonlyargs := [], kw_defaults := [], kwarg := none, defaults := [] }
def iB (f m : Str) (j : Nat) (p0 p1 p2 p3 p4 p5 q1 q2 q3 q4 : Pos) : List Stmt :=
  [.Expr (.Call (.Attribute (.Call (.Name "super" p0) [] [] p1) "__init__" p2) [.Constant (.str m) j p3] [] p4) p5, .Assign [.Attribute (.Name "self" q1) f q2] (.Name f q3) q4]
structure InitAt (prog : Program) (K : Frag) (C fI : Addr) (fd : FuncData) (f m : Str) : Prop where
  lk : ∃ oc od osl, K.lookup fI = some ⟨oc, od, .func fd, osl⟩
  par : ∃ p1 p2, fd.params = iA f p1 p2
  body : ∃ j p0 p1 p2 p3 p4 p5 q1 q2 q3 q4, fd.body = .stmts (iB f m j p0 p1 p2 p3 p4 p5 q1 q2 q3 q4) ∧ (p2.endLine == p4.line) = true
  kind : fd.scope.kind = .function
  co : fd.scope.isCoroutine = false
  gen : fd.scope.isGenerator = false
  ns : fd.scope.names.lookup ("self" : Str) = some .local
  nf : fd.scope.names.lookup f = some .local
  nsup : fd.scope.names.lookup ("super" : Str) = some .globalImplicit
  ncls : fd.scope.names.lookup ("__class__" : Str) = some .free
  nocell : ∀ x ∈ fd.scope.names, x.2 ≠ .cell
  fd1 : (f == ("__debug__" : Str)) = false
  fd2 : (f == ("self" : Str)) = false
  glob : fd.globals = mainGlobals
  blt : fd.builtins = builtinsNs
  dfl : fd.defaults = .none
  kwd : fd.kwdefaults = .none
  clo : ∃ cc cl cld csl, fd.closure = [(("__class__" : Str), cc)] ∧ K.lookup cc = some ⟨cl, cld, .cell (some (.ref C)), csl⟩
  code : ∃ cda ccl cdd vs ccs file tf, fd.code = .ref cda ∧ K.lookup cda = some ⟨ccl, cdd, .fields vs, ccs⟩ ∧ vs[2]? = some (.str file tf) ∧ ((prog.main.file : Str) == file) = true
  cod : codeIn K fd.code fd.qualname = true
structure ClsAt (K : Frag) (C fI : Addr) (f : Str) : Prop where
  cls : ∃ nm q N bs bm sn sub ab col dd k0 k1 k2 k3 k5, K.lookup C = some (excClassObj nm q C N bs bm true sn sub ab col dd k0 k1 k2 k3 k5 "ValueError.__new__") ∧ refsVE bm = true
  sa : findIn K (.ref C) "__setattr__" = some (some (.builtin "object.__setattr__"))
  noN : findIn K (.ref C) f = some none
  iC : findIn K (.ref C) "__init__" = some (some (.ref fI))
  tI : typeIn K (.ref fI) = some (.type "function")
  sup : ks_superIn K C C "__init__" = some (some (.builtin "ValueError.__init__"))
  suB : subIn K (.ref C) (.type "ValueError") = some true
  msub : mroIn K C (.ref C) = some true
  third : nsIn K cStatics "thirdparty.any" = some none
/-- the arguments are bound as they stand -/
def BindF (f : Str) : Prop := ∀ (fd : FuncData) (p1 p2 : Pos) (x v : Value), fd.params = iA f p1 p2 → fd.defaults = .none → fd.kwdefaults = .none → bindArgs fd ⟨[x, v], []⟩ = pure [(("self" : Str), x), (f, v)]
/-- what __init__ leaves of a fresh exception at x -/
structure InitEnd (h h' : Heap) (x C dx t1 : Addr) (f : Str) (v : Value) : Prop where
  keep : ∀ b o, b ≠ x → h.get? b = some o → h'.get? b = some o
  obj : h'.get? x = some { cls := .ref C, dict := some dx, data := .fields #[.ref t1, .none, .none, .none, .bool false, .none] }
  dbig : h.objs.size ≤ dx
  dne : dx ≠ x
  ns : h'.Ns1 dx (fun y => if y = f then some v else none)
theorem one_size (v : Value) : [v].length ≤ sizeLine := by
  rw [sizeLine_eq]
  exact (by decide : 1 ≤ 16777216)
section
variable {prog : Program} {w : World} {A : Around} {E : Value → Shared → Prop} {R : Result → Shared → Prop} {s : Shared} {K : Frag} {mg mb : Str → Option Value} {C fI : Addr} {f m : Str} {fd : FuncData}
theorem call_mw {h : Heap} {g : Array GenState} {d : Drawn} {t : Nat} {os : OsState} {nm q : Str} {C N u x t0 : Addr} {bs bm : List Value} {hdct : Bool} {sn : List Str} {sub : List Value} {ab : Bool} {col : Option Bool} {dd : Option Addr} {k0 k1 k2 k3 k5 : Option Value} {rest : List Value} {Q : Value → Shared → Prop}
    (hC : h.get? C = some (excClassObj nm q C N bs bm hdct sn sub ab col dd k0 k1 k2 k3 k5 "ValueError.__new__")) (he : h.get? x = some (excO C t0)) (hu : h.get? u = some (kxs_mw "ValueError.__init__" x)) (hz : rest.length ≤ sizeLine)
    (hq : ∀ h' t1, (∀ b o, b ≠ x → h.get? b = some o → h'.get? b = some o) → h'.get? x = some (excO C t1) → Q .none ⟨h', g, d, t, os⟩) :
    wpAny (model prog w) A (call (.ref u) rest) Q E ⟨h, g, d, t, os⟩ := by
  refine wpAny_call (codeAny_of_tree ?_)
  show wpAny _ A.in1 (callAny (.ref u) ⟨rest, []⟩) _ _ _
  simp only [callAny]
  refine wpAny_bind (wpAny_load hu ?_)
  simp only [kxs_mw, show (Value.type "method-wrapper" == Value.type "method" || Value.type "method-wrapper" == Value.type "builtin_function_or_method" || Value.type "method-wrapper" == Value.type "method-wrapper") = true by decide, if_true]
  refine KFB.if_so (by decide) ?_
  refine wpAny_bind (check_bound_init F.excBase_ValueError.toExcCallFacts hC he rfl ?_)
  refine wpAny_bind (wpAny_pure (wpAny_pure ?_))
  refine ⟨plainId_quiet F.excBase_ValueError.init.plain _, codeAny_builtin F.excBase_ValueError.initEntry ?_⟩
  exact exc_init_tree (cls := .ref C) (t0 := t0) (dv := none) (c2 := .none) (c3 := .none) (b4 := .bool false) he hz fun h' k e' _ => hq h' _ k e'
theorem init_run (bf : BindF f) (T : ClsAt K C fI f) (I : InitAt prog K C fI fd f m) {x t0 : Addr} {v : Value} (X : K.In s.heap) (G : s.heap.Ns mainGlobals mg) (hms : mg "super" = none) (B : s.heap.Ns builtinsNs mb) (hmb : mb "super" = bootBuiltins "super")
    (htop : (prog.main.scope.names.lookup ("super" : Str)).isSome = false) (hlim : s.heap.NoLimit) (hx : s.heap.get? x = some (excO C t0)) (hnx : K.lookup x = none) (hroom : A.depth < recursionLimit)
    (hq : ∀ h' tk dx t1, InitEnd s.heap h' x C dx t1 f v → R (.ok (.ret .none)) { s with heap := h', toks := tk }) :
    codeAny (model prog w) A (.call (.ref fI) ⟨[.ref x, v], []⟩) R s := by
  obtain ⟨oc, od, osl, ho⟩ := I.lk
  obtain ⟨pa, pb, hpar⟩ := I.par
  obtain ⟨j, p0, p1, p2, p3, p4, p5, q1, q2, q3, q4, hbody, hline⟩ := I.body
  obtain ⟨cc, ccl, ccd, ccsl, hclo, hcell⟩ := I.clo
  obtain ⟨cda, cdl, cdd, vs, cds, file, tf, hcode, hlc, hvs, hfile⟩ := I.code
  obtain ⟨nm, q, N, bs, bm, sn, sub, ab, col, dd, k0, k1, k2, k3, k5, hC, hbm⟩ := T.cls
  have hcl : clsIn K C = some { name := nm, bases := bs, mro := .ref C :: bm, ns := N, qualname := q, hasDict := true, slotNames := sn, subclasses := sub, abstract := ab, collection := col, hasDel := false } := by unfold clsIn; rw [hC] <;> rfl
  refine ks_codeAny_call_defAt (fd := fd) (body := iB f m j p0 p1 p2 p3 p4 p5 q1 q2 q3 q4) (binds := [("self", .ref x), (f, v)]) hroom (X _ _ ho) rfl hlim (codeRec_of X I.cod) hbody ?_ I.nocell ?_ (fun h₁ hn k => ?_) I.co I.gen I.kind
  · exact BindsTo.of_eq (bf fd pa pb _ _ hpar I.dfl I.kwd)
  · intro y hy
    rcases List.mem_cons.mp hy with rfl | hy
    · exact I.ns
    · rcases List.mem_cons.mp hy with rfl | hy
      · exact I.nf
      · cases hy
  · have hcd := I.kind
    have hnL : s.heap.objs.size ≠ x := Nat.ne_of_gt (Heap.lt_size hx)
    have X₁ : K.In h₁ := X.keeps k
    have hx₁ := k _ _ hx
    have hkind : (callEnv fd s.heap.objs.size fI).scope.kind = .function := I.kind
    have hcl' : (callEnv fd s.heap.objs.size fI).cells.lookup ("__class__" : Str) = some cc := by
      show fd.closure.lookup ("__class__" : Str) = some cc
      rw [hclo]; simp
    have bS : (List.reverse [(("self" : Str), Value.ref x), (f, v)]).lookup ("self" : Str) = some (.ref x) := by
      have e : (("self" : Str) == f) = false := by
        have := I.fd2
        rw [beq_eq_false_iff_ne] at this ⊢
        exact fun z => this z.symm
      simp [List.lookup, e]
    have bF : (List.reverse [(("self" : Str), Value.ref x), (f, v)]).lookup f = some v := by simp [List.lookup]
    have xC : x ≠ C := fun z => by rw [z, hC] at hnx; cases hnx
    have hint : interactive (callEnv fd s.heap.objs.size fI) = false := by
      unfold interactive
      rw [hkind]; rfl
    obtain ⟨oD, hD1, hD2⟩ : ∃ oD, h₁.get? C = some oD ∧ oD.data = .cls { name := nm, bases := bs, mro := .ref C :: bm, ns := N, qualname := q, hasDict := true, slotNames := sn, subclasses := sub, abstract := ab, collection := col, hasDel := false } := ⟨_, X₁ _ _ hC, rfl⟩
    have he : eval (.Call (.Attribute (.Call (.Name "super" p0) [] [] p1) "__init__" p2) [.Constant (.str m) j p3] [] p4) (callEnv fd s.heap.objs.size fI) = (do
        let ov ← attributeBase (.Call (.Name "super" p0) [] [] p1) "__init__" (callEnv fd s.heap.objs.size fI) (eval (.Call (.Name "super" p0) [] [] p1) (callEnv fd s.heap.objs.size fI))
        standAt p2.atName
        let (f, first) ← holding [ov] (getMethod ov "__init__" (do return (← importBound (.Call (.Name "super" p0) [] [] p1) (callEnv fd s.heap.objs.size fI)).getD true))
        callWith p4 f first (backTo p4 (starEach [.Constant (.str m) j p3] (callEnv fd s.heap.objs.size fI))) []) := by
      have z : ∀ ov, methodCall (.Call (.Name "super" p0) [] [] p1) "__init__" p2 p4 (callEnv fd s.heap.objs.size fI) ov 1 (backTo p4 (starEach [.Constant (.str m) j p3] (callEnv fd s.heap.objs.size fI))) [] = (do
          let (f, first) ← holding [ov] (getMethod ov "__init__" (do return (← importBound (.Call (.Name "super" p0) [] [] p1) (callEnv fd s.heap.objs.size fI)).getD true))
          callWith p4 f first (backTo p4 (starEach [.Constant (.str m) j p3] (callEnv fd s.heap.objs.size fI))) []) := fun ov => by
        unfold methodCall calleeOf methodCallPos
        rw [show methodCallForm 1 (backTo p4 (starEach [.Constant (.str m) j p3] (callEnv fd s.heap.objs.size fI))) [] = true from rfl]
        simp only [hline, if_true, Bool.not_true, Bool.false_or, pure_bind]
      show (do
        let ov ← attributeBase (.Call (.Name "super" p0) [] [] p1) "__init__" (callEnv fd s.heap.objs.size fI) (eval (.Call (.Name "super" p0) [] [] p1) (callEnv fd s.heap.objs.size fI))
        standAt p2.atName
        methodCall (.Call (.Name "super" p0) [] [] p1) "__init__" p2 p4 (callEnv fd s.heap.objs.size fI) ov 1 (backTo p4 (starEach [.Constant (.str m) j p3] (callEnv fd s.heap.objs.size fI))) []) = _
      simp only [z]
    refine ks_wpAt_execs_cons (ks_wpAt_Expr_any (ks_wpAt_MethodCall ?_ he) hint (by rfl))
    refine ks_wpAt_super_base (env := callEnv fd s.heap.objs.size fI) I.nsup I.ncls rfl rfl (X₁ _ _ ho) rfl (by rw [hpar]; rfl) hcode (X₁ _ _ hlc) rfl hvs hfile htop ?_
    refine ks_loadName_global hkind I.nsup (loadGlobal_builtin (env := callEnv fd s.heap.objs.size fI) (by show h₁.Ns fd.globals mg; rw [I.glob]; exact G.keeps k) hms (by show h₁.Ns fd.builtins mb; rw [I.blt]; exact B.keeps k) (hmb.trans (by decide +kernel)) ⟨rfl, ?_⟩)
    refine wpAny_loadName_free hkind I.ncls hcl' ⟨_, X₁ _ _ hcell, rfl⟩ ?_
    refine wpAny_loadName_local hkind I.ns hn bS ?_
    refine ks_wpAny_isType_cls hD1 hD2 ⟨rfl, ?_⟩
    refine ks_wpAny_call_super hD1 hD2 hx₁ rfl (fun c e => nomatch e) (looks_mroIn X₁ T.msub) (fun h₂ e₂ k₂ => ?_)
    have X₂ : K.In h₂ := X₁.keeps k₂
    have hx₂ := k₂ _ _ hx₁
    have hmr : ks_superIn K C C "__init__" = some (some (.builtin "ValueError.__init__")) := T.sup
    unfold ks_superIn at hmr
    rw [hcl] at hmr
    have I₂ : InstAt h₂ x (excO C t0) C none := ⟨hx₂, rfl, rfl, trivial⟩
    refine kxs_getMethod kxs_ValueError e₂ (looks_opaque X₂ T.third) (l₀ := .ref C :: bm) (fun A Q E s k q => wpAny_bind ((looks_clsIn X₂ hcl) A _ E s k (wpAny_pure q))) rfl X₂ hmr (I₂.type.andThen (looks_subIn X₂ T.suB)) xC rfl ?_
    have k₃ : ∀ b o, h₂.get? b = some o → (h₂.push (kxs_mw "ValueError.__init__" x)).get? b = some o := fun b o e => Heap.get?_push_of_some _ e
    refine kxs_callWith (i := "ValueError.__init__") (x := x) (u := h₂.objs.size) rfl ?_
    refine evalArgs_plain ?_
    refine Calls.spliced_cons (Calls.Constant_str (k := j) (pos := p3) (Calls.spliced_nil ?_))
    have X₃ : K.In (h₂.push (kxs_mw "ValueError.__init__" x)) := X₂.keeps k₃
    have hu : (h₂.push (kxs_mw "ValueError.__init__" x)).get? h₂.objs.size = some (kxs_mw "ValueError.__init__" x) := Heap.get?_push_at rfl rfl
    refine ⟨hu, ?_⟩
    refine call_mw (X₃ _ _ hC) (k₃ _ _ hx₂) hu (one_size _) fun h₄ t1 k₄ hx₄ => ?_
    -- self.f = f
    have kk : ∀ b o, b ≠ x → h₁.get? b = some o → h₄.get? b = some o := fun b o hb e => k₄ b o hb (k₃ b o (k₂ b o e))
    have X₄ : K.In h₄ := fun a o e => kk a o (fun z => by rw [z, hnx] at e; cases e) (X₁ a o e)
    have hn₄ : h₄.Ns s.heap.objs.size fun x_1 => List.lookup x_1 [(("self" : Str), Value.ref x), (f, v)].reverse := hn.at fun o e => kk _ o hnL e
    refine ks_wpAt_execs_cons (ks_wpAt_Assign_Attr ?_ (by rfl))
    refine wpAt_of_wpAny (wpAny_Name (wpAny_loadName_local hkind I.nf hn₄ bF ?_) I.fd1)
    refine wpAny_Name (wpAny_loadName_local hkind I.ns hn₄ bS ?_) rfl
    refine set_plain X₄ (ox := excO C t1) (od := none) ⟨hx₄, rfl, rfl, trivial⟩ T.sa ?_
    refine exc_osa X₄ hx₄ hcl (show refsVE (.ref C :: bm) = true from hbm) rfl T.noN (fun h₅ tk₅ dx k₅ dn dne hx₅ hn₅ => ?_)
    show _root_.PySem.wpAt _ _ _ (execs [] _) _ _ _
    refine wpAt_of_wpAny (wpAny_execs_nil ?_)
    refine hq h₅ tk₅ dx t1 ⟨fun b o hb e => k₅ b o hb (kk b o hb (k b o e)), hx₅, ?_, dne, hn₅⟩
    refine Nat.le_trans ?_ dn
    obtain ⟨oL, _, _, hL, _⟩ := hn₄
    exact Nat.le_of_lt (Heap.lt_size hL)
end
end Ex
end Dn

set_option Elab.async false
set_option linter.all false
set_option maxRecDepth 100000
set_option maxHeartbeats 4000000
/-! # own errors made, raised -/
namespace Dn
namespace Ex
open PySem PySem.W PySem.Calls PyProof.Rows PySem.HandSPX
/-- a made error -/
structure OwnMade (h h' : Heap) (e C d : Addr) (f : Str) (v : Value) : Prop where
  keep : ∀ b o, h.get? b = some o → h'.get? b = some o
  new : h.objs.size ≤ e
  obj : ∃ oe vs, h'.get? e = some oe ∧ oe.cls = .ref C ∧ oe.dict = some d ∧ oe.data = .fields vs ∧ vs[1]? = some .none
  dbig : h.objs.size ≤ d
  dne : d ≠ e
  ns : h'.Ns1 d (fun y => if y = f then some v else none)
section
variable {prog : Program} {w : World} {A : Around} {E : Value → Shared → Prop} {R : Result → Shared → Prop} {s : Shared} {K : Frag} {mg mb : Str → Option Value} {C fI : Addr} {f m : Str} {fd : FuncData}
theorem made (bf : BindF f) (T : ClsAt K C fI f) (I : InitAt prog K C fI fd f m) {v : Value} (X : K.In s.heap) (G : s.heap.Ns mainGlobals mg) (hms : mg "super" = none) (B : s.heap.Ns builtinsNs mb) (hmb : mb "super" = bootBuiltins "super")
    (htop : (prog.main.scope.names.lookup ("super" : Str)).isSome = false) (hlim : s.heap.NoLimit) (hroom : A.depth + 1 < recursionLimit)
    (hq : ∀ h' tk e d, OwnMade s.heap h' e C d f v → R (.ok (.ret (.ref e))) { s with heap := h', toks := tk }) :
    codeAny (model prog w) A (.call (.ref C) ⟨[v], []⟩) R s := by
  obtain ⟨nm, q, N, bs, bm, sn, sub, ab, col, dd, k0, k1, k2, k3, k5, hC, hbm⟩ := T.cls
  obtain ⟨hp, g, dr, tk, os⟩ := s
  have k : ∀ b o, hp.get? b = some o → ((hp.push (kdv_tup [v])).push (excO C hp.objs.size)).get? b = some o := fun b o e => Heap.get?_push_of_some _ (Heap.get?_push_of_some _ e)
  have hget : ((hp.push (kdv_tup [v])).push (excO C hp.objs.size)).get? (hp.objs.size + 1) = some (excO C hp.objs.size) := by heap_get
  have hnx : K.lookup (hp.objs.size + 1) = none := by
    cases e : K.lookup (hp.objs.size + 1) with
    | none => rfl
    | some o =>
      have z : hp.get? (hp.objs.size + 1) = some o := X _ _ e
      exact absurd (Nat.lt_of_succ_lt (Heap.lt_size z)) (Nat.lt_irrefl _)
  refine call_own F.excBase_ValueError (fun X => refsVE_contains X bm hbm) (X _ _ hC) (looks_findIn X T.iC) (fun self => bind_fn X self T.tI) (one_size v) ?_
  refine init_run (s := ⟨(hp.push (kdv_tup [v])).push (excO C hp.objs.size), g, dr, tk, os⟩) bf T I (X.keeps k) (G.keeps k) hms (B.keeps k) hmb htop (hlim.keeps k) hget hnx ?_ fun h' tk' dx t1 ⟨k', hx, dn, dne, hns⟩ => ?_
  · show A.depth + 1 < recursionLimit
    exact hroom
  · have old : ∀ b o, hp.get? b = some o → h'.get? b = some o := fun b o e => k' b o (Nat.ne_of_lt (Nat.lt_succ_of_lt (Heap.lt_size e))) (k b o e)
    have z : hp.objs.size + 1 + 1 ≤ dx := by
      first
        | (simpa only [Heap.size_push] using dn)
        | exact dn
        | (have q := dn; rw [Heap.size_push, Heap.size_push] at q; exact q)
    exact ⟨rfl, hq h' tk' (hp.objs.size + 1) dx ⟨old, Nat.le_succ _, ⟨_, _, hx, rfl, rfl, rfl, rfl⟩, Nat.le_trans (Nat.le_trans (Nat.le_succ _) (Nat.le_succ _)) z, dne, hns⟩⟩
end
end Ex
end Dn
namespace Dn
open PySem PySem.Spec L2 PyProof.Rows
theorem relO_one {f : Str} {v : V} {v' : Value} (r : RelV v v') (y : Str) : RelO (List.lookup y [(f, v)]) (if y = f then some v' else none) := by
  by_cases hw : y = f
  · subst hw
    rw [if_pos rfl]
    have q : List.lookup y [(y, v)] = some v := by simp [List.lookup]
    rw [q]
    exact r
  · rw [if_neg hw]
    have qw : (y == f) = false := by simpa using hw
    have q2 : List.lookup y [(f, v)] = none := by simp [List.lookup, qw]
    rw [q2]
    trivial
/-- an own error's class: what the written part says of it -/
structure ExcK (P : Program) (K : PySem.W.Frag) (mg : Str → Option Value) (C : Addr) (nm f : Str) : Prop where
  gC : mg nm = some (.ref C)
  kC : PySem.W.keepIn K (.ref C) = true
  exC : PySem.W.subIn K (.ref C) (.type "BaseException") = some true
  tyC : PySem.W.typeIn K (.ref C) = some (.type "type")
  bf : Ex.BindF f
  ini : ∃ fI fd m, Ex.ClsAt K C fI f ∧ Ex.InitAt P K C fI fd f m
  sup : mg "super" = none
  top : (P.main.scope.names.lookup ("super" : Str)).isSome = false
section
variable {X : Cx} {C : Addr} {nm f : Str}
def tMk1 (C : Addr) (f : Str) (ta : TA) : L2.St → Hp → XK → Prop := fun σ H Q => ta σ H fun vs H1 => ∃ v, vs = [v] ∧ ∀ d, H1 d = none → Q (.ref C) (some d) (upd H1 d (.xd [(f, v)]))
theorem pmk_one {a : Expr} {ta : TA} {p pos : Pos} {k : Nat} (T : ExcK X.prog X.K X.mg C nm f) (hr : Room k X.A) (ha : PA X [a] ta) (hg : Gl X nm) (hdb : (nm == ("__debug__" : Str)) = false)
    (he : starEach (a :: []) X.env = (false, eval a X.env) :: starEach [] X.env) (hpl : (backTo pos (starEach [] X.env)).any (·.1) = false := by rfl) :
    PMk X (.Call (.Name nm p) [a] [] pos) (tMk1 C f ta) := by
  intro pins s σ H Q I h
  refine wpAny_Call_Name_kw (ld_glob I hg T.gC ?_ hdb)
  refine PySem.W.callWith_K (h₀ := X.base) I.ok.mod.kin T.kC (thn (ha.run pos pins s σ H _ I h) fun us s1 hh => ?_) he hpl
  obtain ⟨vs, H1, I1, r1, v, ev, q1⟩ := hh
  subst ev
  refine ⟨I1.kIn, ?_⟩
  cases r1 with
  | cons rv rn =>
    rename_i v' us'
    cases rn
    show wpAny _ _ (call (.ref C) [v']) _ _ _
    have hlim := I1.nolimit
    obtain ⟨mb, hb1, hb2⟩ := I1.ok.mod.blt
    obtain ⟨fI, fd, m, T1, T2⟩ := T.ini
    have G1 := I1.ok.mod.glob.keeps I1.bk
    have B1 := hb1.keeps I1.bk
    obtain ⟨hp, g, dr, tk, os⟩ := s1
    refine wpAny_call (Ex.made T.bf T1 T2 I1.kIn G1 T.sup B1 (hb2 _ (by decide)) T.top hlim (by have := hr.dp; omega) fun h' tk' e d M => ?_)
    show MkP X pins σ Q (.ref e) ⟨h', g, dr, tk', os⟩
    obtain ⟨oe, fv, hoe, hc, hd, hdat, h1⟩ := M.obj
    have hns := M.ns
    obtain ⟨G', g1, g2⟩ := restrict h' fun b => decide (b ≠ e)
    have gk : ∀ b, b ≠ e → G'.get? b = h'.get? b := fun b hb => g1 b (decide_eq_true hb)
    have ge : G'.get? e = none := g2 e (by simp)
    have old : ∀ b o, hp.get? b = some o → G'.get? b = some o := fun b o q => (gk b (Nat.ne_of_lt (Nat.lt_of_lt_of_le (Heap.lt_size q) M.new))).trans (M.keep b o q)
    have ob : ObjOk X.prog X.w (upd H1 d (.xd [(f, v)])) G' d (.xd [(f, v)]) :=
      ⟨_, hns.at (fun o q => (gk d M.dne).trans q), fun y => relO_one rv y⟩
    have J : Inv X pins σ (upd H1 d (.xd [(f, v)])) ⟨G', g, dr, tk', os⟩ := I1.laid (t' := tk') old M.dbig ob
    refine ⟨e, oe, fv, ⟨G', g, dr, tk', os⟩, _, .ref C, some d, rfl, J, fun b o q => ?_, ge, hoe, ⟨hc, hd⟩, hdat, h1, ?_, rfl, I1.bare, raises_own T.exC T.tyC, q1 d (I1.hok.fresh M.dbig)⟩
    · by_cases hb : b = e
      · have q' : G'.get? b = some o := q
        rw [hb, ge] at q'; cases q'
      · exact (gk b hb).symm.trans q
    · rw [upd_ne (Ne.symm M.dne)]
      exact I1.hok.fresh M.new
end
end Dn

set_option Elab.async false
set_option linter.all false
set_option maxRecDepth 100000
set_option maxHeartbeats 4000000
/-! # Dn, part C: raise, try .. except C as e -/
namespace Dn
open PySem PySem.Spec L2

/-- raise C(e), C's __init__ keeps its argument as f -/
def rseS (nm f : Str) (fa : ES) : SS := fun env S => exS env (fa env S) fun w S' => match w.toW with
  | .d x => .err ⟨nm, [f], [x]⟩ env S'
  | _ => .stuck
/-- a suite's end: the name is let go -/
def finS (i : Nat) : SR → SR
  | .nx env S => if (noXE (env.set i none) && noXS S) = true then .nx (env.set i none) S else .stuck
  | .bk env S => if (noXE (env.set i none) && noXS S) = true then .bk (env.set i none) S else .stuck
  | .ct env S => if (noXE (env.set i none) && noXS S) = true then .ct (env.set i none) S else .stuck
  | .rt w S => if (noXR w && noXS S) = true then .rt w S else .stuck
  | _ => .stuck
/-- try: f, except C as e: g; tb: which classes are caught -/
def tryS (f : SS) (tb : List (Str × Bool)) (i : Nat) (g : SS) : SS := fun env S => match f env S with
  | .err e env' S' => match tb.lookup e.C with
    | some true => finS i (g (env'.set i (some (.d (.exn e.C e.ks e.vs)))) S')
    | some false => .err e env' S'
    | none => .stuck
  | r => r
section
variable {X : Cx} {ca : CA} {Wx : WX} {fa : ES} {f g : SS} {pos : Pos}
theorem rse_pre {nm fn : Str} {D : Ends} {σ : L2.St} {H : Hp} (h : tS (GX X ca) Wx (rseS nm fn fa) D σ H) : tMk1 (ca.f nm) fn (tA (GX X ca) Wx (consS fa nilS)) σ H fun cls d H' => Wx cls d σ H' := by
  obtain ⟨ω, env, ok, er, p⟩ := h
  unfold rseS exS at p
  unfold tMk1
  refine ⟨ω, env, ok, er, ?_⟩
  show PostA _ ω H _ _ (((fa env).bind fun w => (nilS env).bind fun ws => M.ret (w.toW :: ws)) ω.S)
  unfold M.bind
  cases e : fa env ω.S with
  | err x S' =>
    rw [e] at p
    intro ω' H' cls d e1 le ok' rx
    exact p ω' H' σ cls d e1 le ok' (er.mono le) rx
  | stuck => rw [e] at p; exact p.elim
  | ok w S' =>
    rw [e] at p
    cases hw : w.toW with
    | loc n => simp only [hw] at p; exact p.elim
    | d x =>
      simp only [hw] at p
      simp only [nilS, M.ret, hw]
      rintro ω1 H1 vs hs le1 ok1 ⟨v, us, rfl, rv, hn⟩
      cases hn
      refine ⟨v, rfl, fun d hd => ?_⟩
      have rv : Rep (GX X ca) ω1.F x v := rv
      obtain ⟨h1, h2, h3, h4⟩ := froz_ok (o := .xd [(fn, v)]) ok1 hd
      refine p (freezeAt ω1 d (.xd [(fn, v)])) _ σ _ (some d) hs (le1.trans h2) h1 (er.mono (le1.trans h2)) ⟨rfl, [v], .inr ⟨d, rfl, h4⟩, Reps.cons (Rep.mono h3 _ _ rv) Reps.nil⟩
theorem ps_rseS {nm fn : Str} {a : Expr} {p pos2 : Pos} {k : Nat} (hc : X.calm = true) (T : ExcK X.prog X.K X.mg (ca.f nm) nm fn) (hr : Room k X.A) (tk : Takes X Wx) (ha : PE X a (tE (GX X ca) Wx fa)) (hg : Gl X nm) (hdb : (nm == ("__debug__" : Str)) = false)
    (he : starEach (a :: []) X.env = (false, eval a X.env) :: starEach [] X.env) : PS X (.Raise (some (.Call (.Name nm p) [a] [] pos)) none pos2) (tS (GX X ca) Wx (rseS nm fn fa)) :=
  psImp (ps_raise hc tk (pmk_one T hr (pa_consS ha pa_nilS he) hg hdb he)) fun D σ H h => rse_pre h
theorem try_pre {tb : List (Str × Bool)} {i : Nat} {c : Value} {D : Ends} {σ : L2.St} {H : Hp} (hx : ca.x = none) (hT : ∀ C b, tb.lookup C = some b → PySem.W.exmOne X.K (.ref (ca.f C)) c = some b) (h : tS (GX X ca) Wx (tryS f tb i g) D σ H) :
    tS (GX X ca) (wAs X.K c i (fun a cls d => tS (GX X ⟨ca.f, some (a, cls, d)⟩) W0 g) Wx D) f D σ H := by
  obtain ⟨cf, cx⟩ := ca
  cases hx
  obtain ⟨ω, env, ok, er, p⟩ := h
  refine ⟨ω, env, ok, er, ?_⟩
  unfold tryS at p
  cases e : f env ω.S with
  | nx env' S' => simp only [e] at p; exact p
  | bk env' S' => simp only [e] at p; exact p
  | ct env' S' => simp only [e] at p; exact p
  | rt w S' => simp only [e] at p; exact p
  | stuck => simp only [e] at p; exact p.elim
  | err x env' S' =>
    simp only [e] at p
    intro ω1 H1 σ1 cls d hs1 le1 ok1 er1 rx
    obtain ⟨rfl, ws, hk, hr⟩ := rx
    cases hl : tb.lookup x.C with
    | none => simp only [hl] at p; exact p.elim
    | some b =>
      refine ⟨b, hT _ _ hl, fun hb a na => ?_, fun hb => ?_⟩
      · subst hb
        simp only [hl] at p
        have okx : ω1.Ok (GX X ⟨cf, some (a, .ref (cf x.C), d)⟩) H1 := ok_on ok1
        have erx : EnvR (GX X ⟨cf, some (a, .ref (cf x.C), d)⟩) ω1 (env'.set i (some (.d (.exn x.C x.ks x.vs)))) (σ1.set i (some (.ref a))) := by
          refine (envR_on er1).set ?_
          show Rep _ ω1.F (.exn x.C x.ks x.vs) _
          unfold Rep
          exact ⟨a, _, d, ws, rfl, rfl, rfl, hk, reps_on hr⟩
        refine ⟨ω1, _, okx, erx, ?_⟩
        rw [hs1]
        have q := SPost.step le1 p
        have nxE : ∀ {env2 : Env} {S2 : Store} {ω2 : Wd} {H2 : Hp} {σ2 : L2.St}, (noXE (env2.set i none) && noXS S2) = true → ω2.S = S2 → ω2.Ok (GX X ⟨cf, some (a, .ref (cf x.C), d)⟩) H2 → EnvR (GX X ⟨cf, some (a, .ref (cf x.C), d)⟩) ω2 env2 σ2 →
            ω2.Ok (GX X ⟨cf, none⟩) H2 ∧ EnvR (GX X ⟨cf, none⟩) ω2 (env2.set i none) (σ2.set i none) := by
          intro env2 S2 ω2 H2 σ2 hn hs ok2 er2
          rw [Bool.and_eq_true] at hn
          exact ⟨ok_off (by rw [hs]; exact hn.2) ok2, envR_off hn.1 er2.setNone⟩
        cases e2 : g (env'.set i (some (.d (.exn x.C x.ks x.vs)))) S' with
        | nx env2 S2 =>
          rw [e2] at q
          simp only [finS] at q
          split at q
          · rename_i hn
            intro ω2 H2 σ2 hs2 le2 ok2 er2
            obtain ⟨z1, z2⟩ := nxE hn hs2 ok2 er2
            exact q ω2 H2 _ hs2 le2 z1 z2
          · exact q.elim
        | bk env2 S2 =>
          rw [e2] at q
          simp only [finS] at q
          split at q
          · rename_i hn
            intro ω2 H2 σ2 hs2 le2 ok2 er2
            obtain ⟨z1, z2⟩ := nxE hn hs2 ok2 er2
            exact q ω2 H2 _ hs2 le2 z1 z2
          · exact q.elim
        | ct env2 S2 =>
          rw [e2] at q
          simp only [finS] at q
          split at q
          · rename_i hn
            intro ω2 H2 σ2 hs2 le2 ok2 er2
            obtain ⟨z1, z2⟩ := nxE hn hs2 ok2 er2
            exact q ω2 H2 _ hs2 le2 z1 z2
          · exact q.elim
        | rt w S2 =>
          rw [e2] at q
          simp only [finS] at q
          split at q
          · rename_i hn
            rw [Bool.and_eq_true] at hn
            intro ω2 H2 v hs2 le2 ok2 rw2
            exact q ω2 H2 v hs2 le2 (ok_off (by rw [hs2]; exact hn.2) ok2) (repRW_off hn.1 rw2)
          · exact q.elim
        | err y env2 S2 => rw [e2] at q; exact q.elim
        | stuck => rw [e2] at q; exact q.elim
      · subst hb
        simp only [hl] at p
        exact p ω1 H1 σ1 _ d hs1 le1 ok1 er1 ⟨rfl, ws, hk, hr⟩
theorem ps_tryS {tb : List (Str × Bool)} {i : Nat} {x n : Str} {c : Value} {body suite : List Stmt} {b₀ : Stmt} {np pos' : Pos} (hx : ca.x = none) (hT : ∀ C b, tb.lookup C = some b → PySem.W.exmOne X.K (.ref (ca.f C)) c = some b)
    (hs : X.stack = X.env :: X.outer) (hf : X.env.frame = some X.env.locals) (hN : X.N.Nodup) (hi : X.N[i]? = some n) (hln : X.env.kindOf n = some .local) (hc : Names X x c) (tk : Takes X Wx)
    (hb : ∀ (W : WX) (pn : List (Addr × Obj)) (xe : Value → Shared → Prop), Takes (X.tr pn xe) W → PassesOwn (model X.prog X.w) X.A X.env xe → PSs (X.tr pn xe) body (tS (GX X ca) W f))
    (hsu : ∀ (a : Addr) (oe : Obj) (cls : Value) (d : Option Addr) (pn : List (Addr × Obj)), Zc cls d oe → (∃ vs, oe.data = .fields vs) → PSs (X.suite a ((a, oe) :: pn)) (b₀ :: suite) (tS (GX X ⟨ca.f, some (a, cls, d)⟩) W0 g)) :
    PS X (.Try body [.ExceptHandler (some (.Name x np)) (some n) (b₀ :: suite) pos'] [] [] pos) (tS (GX X ca) Wx (tryS f tb i g)) :=
  psImp (ps_try_as hs hf hN hi hln hc tk hb hsu) fun D σ H h => try_pre hx hT h
end
end Dn

set_option Elab.async false
set_option linter.all false
set_option maxRecDepth 100000
set_option maxHeartbeats 4000000
/-! # Dn, part D: sets of keys that are counted or sorted at once; sorted lists -/
namespace Dn
open PySem PySem.Spec L2
section
variable {X : Cx} {ca : CA} {Wx : WX} {a : Expr} {fa : ES}
theorem keysV_of {G : RC} {ω : Wd} {H : Hp} {l : Addr} {xs : List D} {k : List Int ⊕ List Str} {ws : List V} (e : keysD xs = some k) (hq : IsSq G.K H l ws) (r : Reps G ω.F xs ws) :
    KeysV G.K H l k ∧ (∀ z, k = .inr z → ∀ x ∈ z, okS x) := by
  unfold keysD at e
  split at e
  · rename_i hl
    obtain ⟨rfl, h2, h3⟩ := keysL_rep e r
    refine ⟨?_, h2⟩
    cases k with
    | inl ns => exact ⟨hq, by rw [h3] at hl; simpa [vKeys] using hl⟩
    | inr ss => exact ⟨hq, by rw [h3] at hl; simpa [vKeys] using hl⟩
  · cases e
/-- a list or a tuple that is seen now -/
theorem seq_now {G : RC} {ω : Wd} {H : Hp} {d : D} {v : V} {xs : List D} (ok : ω.Ok G H) (h : d = .lst xs ∨ d = .tup xs) (n : Now G ω H d v) : ∃ l ws, v = .ref l ∧ IsSq G.K H l ws ∧ Reps G ω.F xs ws := by
  rcases h with rfl | rfl
  · obtain ⟨a, ws, rfl, h1, r⟩ := n
    exact ⟨a, ws, rfl, .inl (.of h1), r⟩
  · obtain ⟨a, ws, rfl, h1, r⟩ := now_tup ok n
    exact ⟨a, ws, rfl, .inr h1, r⟩
theorem pe_lnsetS {p p2 q pos : Pos} (hc : X.calm = true) (hg : Gl X "len") (hm : X.mg "len" = none) (hg2 : Gl X "set") (hm2 : X.mg "set" = none) (ha : PE X a (tE (GX X ca) Wx fa))
    (na : starEach [a] X.env = (false, eval a X.env) :: starEach [] X.env) : PE X (.Call (.Name "len" p) [.Call (.Name "set" p2) [a] [] q] [] pos) (tE (GX X ca) Wx (unS (liftD lnsetD) fa)) := by
  refine peImp (pe_lnset hc hg hm hg2 hm2 ha na) fun σ H Q h => ?_
  obtain ⟨ω, env, ok, er, p⟩ := h
  refine tE_mono (bindW ok er p) fun v H1 ⟨ω1, w, le1, ok1, r1, er1, p1⟩ => ?_
  have z := prim_of (ws := [w.toW]) ok1 le1 ⟨_, _, rfl, r1, rfl⟩ p1
  refine liftD_ok (G := GX X ca) (r := fun vs H Q => ∃ l ks, vs = [.ref l] ∧ KeysV X.K H l ks ∧ Q (.int (nKeys ks)) H) (fun ω H ds vs a Q ok n e p => ?_) z |> fun ⟨l, ks, e, h⟩ => ⟨l, ks, by cases e; rfl, h⟩
  have fin : ∀ {d : D} {xs : List D} {k : List Int ⊕ List Str}, ds = [d] → (d = .lst xs ∨ d = .tup xs) → keysD xs = some k → a = .d (.int (nKeys k)) → ∃ l ks, vs = [.ref l] ∧ KeysV X.K H l ks ∧ Q (.int (nKeys ks)) H := fun {d xs k} h1 h2 h3 h4 => by
    subst h1 h4
    obtain ⟨v, rfl, n1⟩ := nows1 n
    obtain ⟨l, ws, rfl, hq, r⟩ := seq_now ok h2 n1
    obtain ⟨h, _⟩ := keysV_of (G := GX X ca) h3 hq r
    exact ⟨l, k, rfl, h, end_d ok p (rep_int _)⟩
  unfold lnsetD at e
  split at e
  · obtain ⟨k, e1, e2⟩ := Option.map_eq_some_iff.mp e
    exact fin rfl (.inl rfl) e1 e2.symm
  · obtain ⟨k, e1, e2⟩ := Option.map_eq_some_iff.mp e
    exact fin rfl (.inr rfl) e1 e2.symm
  · cases e
theorem pe_srsetS {p p2 q pos : Pos} (hc : X.calm = true) (hg : Gl X "sorted") (hm : X.mg "sorted" = none) (hg2 : Gl X "set") (hm2 : X.mg "set" = none) (ha : PE X a (tE (GX X ca) Wx fa))
    (na : starEach [a] X.env = (false, eval a X.env) :: starEach [] X.env) : PE X (.Call (.Name "sorted" p) [.Call (.Name "set" p2) [a] [] q] [] pos) (tE (GX X ca) Wx (unS (liftD srsetD) fa)) := by
  refine peImp (pe_srset hc hg hm hg2 hm2 ha na) fun σ H Q h => ?_
  obtain ⟨ω, env, ok, er, p⟩ := h
  refine tE_mono (bindW ok er p) fun v H1 ⟨ω1, w, le1, ok1, r1, er1, p1⟩ => ?_
  have z := prim_of (ws := [w.toW]) ok1 le1 ⟨_, _, rfl, r1, rfl⟩ p1
  refine liftD_ok (G := GX X ca) (r := fun vs H Q => ∃ l ks, vs = [.ref l] ∧ KeysV X.K H l ks ∧ ∀ p, H p = none → Q (.ref p) (upd H p (.lst (oKeys ks)))) (fun ω H ds vs a Q ok n e p => ?_) z |> fun ⟨l, ks, e, h⟩ => ⟨l, ks, by cases e; rfl, h⟩
  have fin : ∀ {d : D} {xs : List D} {k : List Int ⊕ List Str}, ds = [d] → (d = .lst xs ∨ d = .tup xs) → keysD xs = some k → a = .own (.lst (srtKeys (ddKeys k))) → ∃ l ks, vs = [.ref l] ∧ KeysV X.K H l ks ∧ ∀ p, H p = none → Q (.ref p) (upd H p (.lst (oKeys ks))) := fun {d xs k} h1 h2 h3 h4 => by
    subst h1 h4
    obtain ⟨v, rfl, n1⟩ := nows1 n
    obtain ⟨l, ws, rfl, hq, r⟩ := seq_now ok h2 n1
    obtain ⟨h, h5⟩ := keysV_of (G := GX X ca) h3 hq r
    refine ⟨l, k, rfl, h, fun q hq => end_lst ok p ?_ hq⟩
    have z := srtKeys_rep (G := GX X ca) (F := ω.F) (dd_ok h5)
    cases k <;> exact z
  unfold srsetD at e
  split at e
  · obtain ⟨k, e1, e2⟩ := Option.map_eq_some_iff.mp e
    exact fin rfl (.inl rfl) e1 e2.symm
  · obtain ⟨k, e1, e2⟩ := Option.map_eq_some_iff.mp e
    exact fin rfl (.inr rfl) e1 e2.symm
  · cases e
/-! ### a < b < c -/
def blOf : RW → Option Bool
  | .d (.bl b) => some b
  | _ => none
def chnS (p p' : Prim) (fa fb fc : ES) : ES := fun env => (fa env).bind fun w => (fb env).bind fun u => (liftP p [w.toW, u.toW]).bind fun r => match blOf r with
  | some true => (fc env).bind fun z => liftP p' [u.toW, z.toW]
  | some false => M.ret (.d (.bl false))
  | none => fun _ => .stuck
/-- an operation, then the rest -/
theorem bindP {G : RC} {α β : Type} {R : Wd → Hp → α → β → Prop} {ω1 : Wd} {H1 : Hp} {σ : L2.St} {env : Env} {Q : β → Hp → Prop} {E : XK} {p : Prim} {ws : List W} {vs : List V} {k : RW → M α} (ok : ω1.Ok G H1) (er : EnvR G ω1 env σ) (r : RepWs G ω1 ws vs)
    (h : Post G R ω1 H1 Q E (((liftP p ws).bind k) ω1.S)) : tP G p vs H1 (fun v H2 => ∃ ω2 w, Le ω1 H1 ω2 H2 ∧ ω2.Ok G H2 ∧ RepRW G ω2 H1 H2 w v ∧ EnvR G ω2 env σ ∧ Post G R ω1 H1 Q E (k w ω2.S)) := by
  refine ⟨ω1, ws, ok, r, ?_⟩
  unfold M.bind liftP at h
  unfold liftP
  cases e : p ws ω1.S with
  | none => simp only [e] at h; exact h
  | some z =>
    obtain ⟨w, S'⟩ := z
    simp only [e] at h ⊢
    intro ω' H' v e1 le ok' rr
    exact ⟨ω', w, le, ok', rr, er.mono le, by rw [e1]; exact h⟩
theorem blOf_eq {w : RW} {b : Bool} (h : blOf w = some b) : w = .d (.bl b) := by
  unfold blOf at h
  split at h
  · cases h; rfl
  · cases h
variable {b c : Expr} {fb fc : ES} {pos : Pos}
theorem chnS_ok {q q' : Prim} {σ : L2.St} {H : Hp} {Q : VK} (h : tE (GX X ca) Wx (chnS q q' fa fb fc) σ H Q) :
    tChain (fun x y H Q => tP (GX X ca) q [x, y] H Q) (fun x y H Q => tP (GX X ca) q' [x, y] H Q) (tE (GX X ca) Wx fa) (tE (GX X ca) Wx fb) (tE (GX X ca) Wx fc) σ H Q := by
  obtain ⟨ω, env, ok, er, p⟩ := h
  refine tE_mono (bindW ok er p) fun v H1 ⟨ω1, w, le1, ok1, r1, er1, p1⟩ => ?_
  refine tE_mono (bindW ok1 er1 (PostE.step le1 p1)) fun u H2 ⟨ω2, w2, le2, ok2, r2, er2, p2⟩ => ?_
  have p2 := PostE.step le2 p2
  have z := bindP (σ := σ) (env := env) ok2 er2 (ws := [w.toW, w2.toW]) (vs := [v, u]) ⟨_, _, rfl, r1.mono le2, _, _, rfl, r2, rfl⟩ p2
  obtain ⟨ω', ws', ok', rw', p'⟩ := z
  refine ⟨ω', ws', ok', rw', p'.mono fun x H3 ⟨ω3, w3, le3, ok3, r3, er3, p3⟩ => ?_⟩
  cases e : blOf w3 with
  | none => simp only [e] at p3; exact p3.elim
  | some k =>
    simp only [e] at p3
    cases blOf_eq e
    have r3 : Rep (GX X ca) ω3.F (.bl k) x := r3
    unfold Rep at r3
    refine ⟨k, r3, ?_⟩
    cases k with
    | false => exact p3 ω3 H3 (.bl false) rfl le3 ok3 (rep_bl (G := GX X ca) (F := ω3.F) false)
    | true =>
      rw [if_pos rfl]
      refine tE_mono (bindW ok3 er3 (PostE.step le3 p3)) fun y H4 ⟨ω4, w4, le4, ok4, r4, er4, p4⟩ => ?_
      exact prim_of (ws := [w2.toW, w4.toW]) ok4 le4 ⟨_, _, rfl, r2.mono (le3.trans le4), _, _, rfl, r4, rfl⟩ p4
theorem pe_chnS {o o' : CmpOp} {q q' : DPrim} (ho : OpD X ca (compareOp o) q) (ho' : OpD X ca (compareOp o') q') (ha : PE X a (tE (GX X ca) Wx fa)) (hb : PE X b (tE (GX X ca) Wx fb)) (hc : PE X c (tE (GX X ca) Wx fc)) (hm : behindInMarks o' c = false) :
    PE X (.Compare a [o, o'] [b, c] pos) (tE (GX X ca) Wx (chnS (liftD q) (liftD q') fa fb fc)) :=
  peImp (pe_chain ho ho' ha hb hc hm) fun σ H Q h => chnS_ok h
theorem pt_chnS {o o' : CmpOp} {q q' : DPrim} (ho : OpD X ca (compareOp o) q) (ho' : OpD X ca (compareOp o') q') (ha : PE X a (tE (GX X ca) Wx fa)) (hb : PE X b (tE (GX X ca) Wx fb)) (hc : PE X c (tE (GX X ca) Wx fc)) (hm : behindInMarks o' c = false)
    (hbl : Bl (chnS (liftD q) (liftD q') fa fb fc)) : PT X (.Compare a [o, o'] [b, c] pos) (tB (GX X ca) Wx (tstS (chnS (liftD q) (liftD q') fa fb fc))) :=
  ptImp (pt_chain ho ho' ha hb hc hm) fun σ H Q h => chnS_ok (Q := fun x H' => ∃ k, x = .bl k ∧ Q k H') (tst_bl hbl h)
theorem bl_chn {q q' : DPrim} {fa fb fc : ES} (h : ∀ ds r, q' ds = some r → ∃ k, r = .d (.bl k)) : Bl (chnS (liftD q) (liftD q') fa fb fc) := by
  intro env S x S' e
  unfold chnS M.bind at e
  cases e1 : fa env S with
  | err x S1 => rw [e1] at e; cases e
  | stuck => rw [e1] at e; cases e
  | ok w S1 =>
    simp only [e1] at e
    cases e2 : fb env S1 with
    | err x S1 => rw [e2] at e; cases e
    | stuck => rw [e2] at e; cases e
    | ok u S2 =>
      simp only [e2] at e
      cases e3 : liftP (liftD q) [w.toW, u.toW] S2 with
      | err x S1 => rw [e3] at e; cases e
      | stuck => rw [e3] at e; cases e
      | ok r S3 =>
        simp only [e3] at e
        cases e4 : blOf r with
        | none => simp only [e4] at e; cases e
        | some k =>
          simp only [e4] at e
          cases k with
          | false => cases e; exact ⟨_, rfl⟩
          | true =>
            simp only at e
            cases e5 : fc env S3 with
            | err x S1 => simp only [e5] at e; cases e
            | stuck => simp only [e5] at e; cases e
            | ok z S4 =>
              simp only [e5] at e
              unfold liftP liftD at e
              cases e6 : viewAll S4 [u.toW, z.toW] with
              | none => simp only [e6] at e; cases e
              | some ds =>
                simp only [e6] at e
                cases e7 : q' ds with
                | none => simp only [e7, Option.map_none] at e; cases e
                | some r2 =>
                  simp only [e7, Option.map_some] at e
                  cases e
                  exact h _ _ e7
/-- expressions of one part -/
inductive O1 where
  | srset | lnset
  deriving DecidableEq
def O1.sem : O1 → ES → ES
  | .srset, f => unS (liftD srsetD) f
  | .lnset, f => unS (liftD lnsetD) f
end
end Dn

set_option Elab.async false
set_option linter.all false
set_option maxRecDepth 100000
set_option maxHeartbeats 4000000
/-! # Dn, part E: instances: made, their fields read and stored -/
namespace Dn
open PySem PySem.Spec L2
/-! ### a field read -/
def fldM (tb : List Str) (f : Str) (w : W) : M RW := fun S => match view S w with
  | some (.ins C ks vs) => if C ∈ tb then match (ks.zip vs).lookup f with
      | some d => .ok (.d d) S
      | none => .stuck
    else .stuck
  | _ => .stuck
def fldS (tb : List Str) (f : Str) (fo : ES) : ES := fun env => (fo env).bind fun w => fldM tb f w.toW
def FldOk (K : PySem.W.Frag) (C : Addr) (f : Str) : Prop := Cls K C ∧ NoAttr K C f
section
variable {X : Cx} {ca : CA} {Wx : WX} {o value : Expr} {pos pos' : Pos} {fo fe : ES}
theorem pe_fldS {f : Str} {tb : List Str} (hT : ∀ C ∈ tb, FldOk X.K (ca.f C) f) (ho : PE X o (tE (GX X ca) Wx fo)) (hb : attributeBase o f X.env (eval o X.env) = eval o X.env) :
    PE X (.Attribute o f pos) (tE (GX X ca) Wx (fldS tb f fo)) := by
  refine peImp (pe_fld ho hb) fun σ H Q h => ?_
  obtain ⟨ω, env, ok, er, p⟩ := h
  refine tE_mono (bindW ok er p) fun v H1 ⟨ω1, w, le1, ok1, r1, er1, p1⟩ => ?_
  unfold fldM at p1
  cases e : view ω1.S w.toW with
  | none => simp only [e] at p1; exact p1.elim
  | some d =>
    cases d with
    | ins C ks vs =>
      simp only [e] at p1
      split at p1
      rotate_left
      · exact p1.elim
      rename_i hC
      cases hl : (ks.zip vs).lookup f with
      | none => simp only [hl] at p1; exact p1.elim
      | some d =>
        simp only [hl] at p1
        obtain ⟨a, dx, ws, rfl, ha, hr⟩ := now_of ok1 r1 e
        obtain ⟨u, hu, ru⟩ := zip_lookup hr hl
        obtain ⟨c1, c2⟩ := hT C hC
        exact ⟨a, _, dx, _, u, rfl, ha, c1, c2, hu, p1 ω1 H1 u rfl le1 ok1 ru⟩
    | _ => simp only [e] at p1; exact p1.elim
/-! ### a field stored -/
def putP (f : Str) (d : D) : List Str → List D → Option (List Str × List D)
  | [], [] => some ([f], [d])
  | k :: ks, v :: vs => if k = f then some (k :: ks, d :: vs) else (putP f d ks vs).map fun p => (k :: p.1, v :: p.2)
  | _, _ => none
theorem putP_zip {G : RC} {F : Hp} {f : Str} {d : D} {y : V} (ry : Rep G F d y) : ∀ {ks : List Str} {vs : List D} {ws : List V} {p : List Str × List D}, Reps G F vs ws → putP f d ks vs = some p → ∃ ws', putF f y (ks.zip ws) = p.1.zip ws' ∧ Reps G F p.2 ws'
  | [], [], _, p, h, e => by
    cases e
    exact ⟨[y], by simp [putF], Reps.cons ry Reps.nil⟩
  | k :: ks, v :: vs, _, p, h, e => by
    obtain ⟨w, ws, rfl, h1, h2⟩ := h.inv_cons
    unfold putP at e
    split at e
    · rename_i hk
      cases e
      exact ⟨y :: ws, by simp [putF, hk], Reps.cons ry h2⟩
    · rename_i hk
      obtain ⟨q, h3, rfl⟩ := Option.map_eq_some_iff.mp e
      obtain ⟨ws', h4, h5⟩ := putP_zip ry h2 h3
      exact ⟨w :: ws', by simp [putF, hk, h4], Reps.cons h1 h5⟩
  | [], _ :: _, _, _, _, e => by cases e
  | _ :: _, [], _, _, _, e => by cases e
/-- o.f = e -/
def stfM (tb : List Str) (f : Str) (o y : W) (S : Store) : Option Store := match o, y with
  | .loc n, .d d => match S[n]? with
    | some (.ins C ks vs) => if C ∈ tb ∧ ks.length < 1000 then (putP f d ks vs).map fun p => S.set n (.ins C p.1 p.2) else none
    | _ => none
  | _, _ => none
def stfK (tb : List Str) (f : Str) (fo : ES) (env : Env) (y : RW) : M RW := (fo env).bind fun o => fun S => match stfM tb f o.toW y.toW S with
  | some S' => .ok (.d .non) S'
  | none => .stuck
def stfS (tb : List Str) (f : Str) (fo fe : ES) : SS := fun env S => exS env (((fe env).bind fun y => stfK tb f fo env y) S) fun _ S' => .nx env S'
theorem ps_stfS {f : Str} {tb : List Str} (hT : ∀ C ∈ tb, FldOk X.K (ca.f C) f) (ho : PE X o (tE (GX X ca) Wx fo)) (hv : PE X value (tE (GX X ca) Wx fe)) (hs : swapsWith value (some (.Attribute o f pos')) pos.line X.env = pure false) :
    PS X (.Assign [.Attribute o f pos'] value pos) (tS (GX X ca) Wx (stfS tb f fo fe)) := by
  refine psImp (ps_fld ho hv hs) fun D σ H h => ?_
  obtain ⟨ω, env, ok, er, p⟩ := h
  have key : Post (GX X ca) (fun ω' H' (_ : RW) (_ : Unit) => EnvR (GX X ca) ω' env σ) ω H (fun _ H' => D.nx σ H') (fun c d H' => Wx c d σ H') (((fe env).bind fun y => stfK tb f fo env y) ω.S) := by
    unfold stfS exS at p
    cases e : ((fe env).bind fun y => stfK tb f fo env y) ω.S with
    | ok w S' => rw [e] at p; exact fun ω' H' _ e1 le ok' r => p ω' H' σ e1 le ok' r
    | err x S' => rw [e] at p; exact fun ω' H' cls d e1 le ok' rx => p ω' H' σ cls d e1 le ok' (er.mono le) rx
    | stuck => rw [e] at p; exact p
  refine tE_mono (bindW ok er key) fun y H1 ⟨ω1, w, le1, ok1, r1, er1, p1⟩ => ?_
  unfold stfK at p1
  refine tE_mono (bindW ok1 er1 (Post.step le1 (fun _ _ _ _ z => z) p1)) fun x H2 ⟨ω2, w2, le2, ok2, r2, er2, p2⟩ => ?_
  have p2 := Post.step (R' := fun ω' H' (_ : RW) (_ : Unit) => EnvR (GX X ca) ω' env σ) le2 (fun _ _ _ _ z => z) p2
  have r1 := r1.mono le2
  cases e : stfM tb f w2.toW w.toW ω2.S with
  | none => simp only [e] at p2; exact p2.elim
  | some S' =>
    simp only [e] at p2
    unfold stfM at e
    split at e
    · rename_i n d h1 h2
      rw [h1] at r2
      rw [h2] at r1
      split at e
      · rename_i C ks vs hc
        split at e
        · rename_i hC
          obtain ⟨q, hq, rfl⟩ := Option.map_eq_some_iff.mp e
          obtain ⟨a, rfl, hm⟩ := r2
          obtain ⟨_, dx, ws, ha, hr⟩ := ok2.cell n _ a hc rfl hm
          obtain ⟨ws', z1, z2⟩ := putP_zip (G := GX X ca) (F := ω2.F) r1 hr hq
          obtain ⟨c1, c2⟩ := hT C hC.1
          refine ⟨a, _, dx, _, rfl, ha, c1, c2, ?_, ?_⟩
          · rw [List.length_zip]
            exact Nat.lt_of_le_of_lt (Nat.min_le_left _ _) hC.2
          · obtain ⟨ok3, le3⟩ := upd_cell (c' := .ins C q.1 q.2) ok2 hc rfl hm ⟨dx, ws', by rw [upd_same], z2⟩
            rw [z1]
            exact p2 _ _ () rfl le3 ok3 (er2.mono le3)
        · cases e
      · cases e
    · cases e
/-! ### a new instance -/
def newM (C : Str) (g : Sem) (ws : List W) : M RW := fun S => match g (.loc S.length :: ws) (S ++ [.ins C [] []]) with
  | .ok (.d .non) S' => match S'[S.length]? with
    | some c => if c.live = true then .ok (.own c) (S'.take S.length) else .stuck
    | none => .stuck
  | .err e S' => .err e (S'.take S.length)
  | _ => .stuck
def newF (C : Str) (g : Sem) (ds : List D) (fs : AS) : ES := fun env => (fs env).bind fun ws => newM C g (ws ++ ds.map W.d)
/-- defaults: plain data that need no heap -/
def Reps0 (G : RC) (ds : List D) (dvs : List V) : Prop := ∀ F, Reps G F ds dvs
theorem repWs_app {G : RC} {ω : Wd} : ∀ {ws us : List W} {vs xs : List V}, RepWs G ω ws vs → RepWs G ω us xs → RepWs G ω (ws ++ us) (vs ++ xs)
  | [], us, _, xs, h, t => by cases h; exact t
  | w :: ws, us, _, xs, ⟨u, r, rfl, h1, h2⟩, t => ⟨u, r ++ xs, rfl, h1, repWs_app h2 t⟩
theorem repWs_d {G : RC} {ω : Wd} : ∀ {ds : List D} {vs : List V}, Reps G ω.F ds vs → RepWs G ω (ds.map W.d) vs
  | [], _, h => by simp only [Reps] at h; exact h
  | d :: ds, _, h => by
    obtain ⟨v, vs, rfl, h1, h2⟩ := h.inv_cons
    exact ⟨v, vs, rfl, h1, repWs_d h2⟩
theorem repWs_mono {G : RC} {ω ω1 : Wd} (h : ∀ w u, RepW G ω w u → RepW G ω1 w u) : ∀ {ws : List W} {vs : List V}, RepWs G ω ws vs → RepWs G ω1 ws vs
  | [], _, r => r
  | w :: ws, _, ⟨u, us, rfl, h1, h2⟩ => ⟨u, us, rfl, h _ _ h1, repWs_mono h h2⟩
theorem new_pre {C : Str} {np : Nat} {g : Sem} {ds : List D} {dvs : List V} {fs : AS} {σ : L2.St} {H : Hp} {Q : VK} (hl : ∀ env S ws S', fs env S = .ok ws S' → ws.length + ds.length + 1 = np) (hd : Reps0 (GX X ca) ds dvs)
    (h : tE (GX X ca) Wx (newF C g ds fs) σ H Q) : tA (GX X ca) Wx fs σ H (fun vs H1 => ∀ x dx, H1 x = none → H1 dx = none → dx ≠ x → spOf (GX X ca) np g (.ref x :: (vs ++ dvs)) (upd (upd H1 dx (.own x)) x (.ins (ca.f C) dx [])) (fun v H2 => v = .non ∧ Q (.ref x) H2) (fun c d H' => Wx c d σ H')) := by
  obtain ⟨ω, env, ok, er, p⟩ := h
  refine ⟨ω, env, ok, er, ?_⟩
  unfold newF M.bind at p
  cases e1 : fs env ω.S with
  | err x S' => rw [e1] at p; exact p
  | stuck => rw [e1] at p; exact p
  | ok ws S' =>
    simp only [e1] at p
    intro ω1 H1 vs e2 le1 ok1 r1 x dx hx hdx hne
    subst e2
    have hx2 : (upd H1 dx (.own x)) x = none := by rw [upd_ne (Ne.symm hne)]; exact hx
    have okA : ω1.Ok (GX X ca) (upd H1 dx (.own x)) := ok1.laid hdx
    have leA : Le ω1 H1 ω1 (upd H1 dx (.own x)) := Le.laid ok1 hdx
    have okB := okA.laid (o := .ins (ca.f C) dx []) hx2
    have leB := Le.laid (o := .ins (ca.f C) dx []) okA hx2
    have own := own_new (G := GX X ca) (c := .ins C [] []) okA hx2 ⟨dx, [], by rw [upd_same], Reps.nil⟩
    obtain ⟨ω2, s2, le2, ok2, r2, kp⟩ := push_own okB leB own
    have le12 : Le ω1 H1 ω2 (upd (upd H1 dx (.own x)) x (.ins (ca.f C) dx [])) := leA.trans le2
    have lw := hl _ _ _ _ e1
    refine ⟨by simp only [List.length_cons, List.length_append, r1.length, (hd ω1.F).length]; omega, ω2, .loc ω1.S.length :: (ws ++ ds.map W.d), ok2, ⟨_, _, rfl, r2, repWs_mono kp (repWs_app r1 (repWs_d (hd ω1.F)))⟩, ?_⟩
    rw [s2]
    unfold newM at p
    have hlen : ω1.mu.length = ω1.S.length := ok1.len
    have fin : ∀ {ω3 : Wd} {H3 : Hp}, Le ω2 (upd (upd H1 dx (.own x)) x (.ins (ca.f C) dx [])) ω3 H3 → Le ω H (truncW ω3 ω1.S.length) H3 := fun {ω3 H3} le3 => le1.trans (trunc_le (le12.trans le3) (Nat.le_of_eq hlen))
    cases e3 : g (.loc ω1.S.length :: (ws ++ ds.map W.d)) (ω1.S ++ [.ins C [] []]) with
    | stuck => simp only [e3] at p; exact p
    | err y S3 =>
      simp only [e3] at p
      intro ω3 H3 cls d e4 le3 ok3 rx
      exact p (truncW ω3 ω1.S.length) H3 cls d (by rw [← e4]; rfl) (fin le3) (trunc_ok ok3 _) rx
    | ok r S3 =>
      intro ω3 H3 v e4 le3 ok3 rv
      cases r with
      | loc n => simp only [e3] at p; exact p.elim
      | own c => simp only [e3] at p; exact p.elim
      | d y =>
        cases y with
        | non =>
          simp only [e3] at p
          have rv : Rep (GX X ca) ω3.F .non v := rv
          unfold Rep at rv
          refine ⟨rv, ?_⟩
          subst e4
          cases hc : ω3.S[ω1.S.length]? with
          | none => simp only [hc] at p; exact p.elim
          | some c =>
            simp only [hc] at p
            split at p
            · rename_i hlv
              obtain ⟨q, eq, hm⟩ := r2
              cases eq
              have hm3 : ω3.mu[ω1.S.length]? = some x := pre_get le3.pre hm
              obtain ⟨hf, hcell⟩ := ok3.cell _ c x hc hlv hm3
              refine p (truncW ω3 ω1.S.length) H3 (.ref x) rfl (fin le3) (trunc_ok ok3 _) ⟨x, rfl, le1.dom x hx, hf, ?_, hcell⟩
              rintro ⟨k, c', h1, h2, h3⟩
              have e5 := ok3.inj k ω1.S.length c' c x (take_get h1).2 h2 hc hlv (take_get h3).2 hm3
              have := (take_get h1).1
              omega
            · exact p.elim
        | _ => simp only [e3] at p; exact p.elim
/-- an own def called, by its FnOk: what is raised is wished for at the caller's slots -/
theorem run_at {k : Nat} {f : Addr} {fd : FuncData} {ps : List Str} {sp : Sp} {ds : List Value} {dvs : List V} {pins : List (Addr × Obj)} {σ : L2.St} {H : Hp} {s : Shared} {Q : VK} {us : List Value} {vs : List V} (F : FnOk X.prog X.w X.K X.mg X.base (L2.CX X.prog X.w) k f fd ps sp) (hr : Room k X.A) (hb : Binds X.K fd ps ds) (hd : Vals dvs ds) (tk : Takes X Wx)
    (I : Inv X pins σ H s) (r : Vals vs us) (h : sp (vs ++ dvs) H Q (fun c d H' => Wx c d σ H')) : wpAny (model X.prog X.w) X.A (call (.ref f) us) (EP X pins σ Q) X.xe s :=
  run_fnSD F hr hb hd (E := fun σ c d H' => Wx c d σ H') (passAt tk σ) I r h
theorem run_new {C f : Addr} {k : Nat} {fd : FuncData} {ps : List Str} {sp : Sp} {ds : List Value} {dvs : List V} {pins : List (Addr × Obj)} {σ : L2.St} {H : Hp} {s : Shared} {Q : VK} {us : List Value} {vs : List V} (M : Mk X.K C f) (F : FnOk X.prog X.w X.K X.mg X.base (L2.CX X.prog X.w) k f fd ps sp) (hr : Room (k + 1) X.A)
    (hb : Binds X.K fd ps ds) (hd : Vals dvs ds) (tk : Takes X Wx) (I : Inv X pins σ H s) (r : Vals vs us)
    (h : ∀ x dx, H x = none → H dx = none → dx ≠ x → sp (.ref x :: (vs ++ dvs)) (upd (upd H dx (.own x)) x (.ins C dx [])) (fun v H2 => v = .non ∧ Q (.ref x) H2) (fun c d H' => Wx c d σ H')) :
    wpAny (model X.prog X.w) X.A (call (.ref C) us) (EP X pins σ Q) X.xe s := by
  have J := Inv.made (C := C) I
  have hq := h (s.heap.objs.size + 1) s.heap.objs.size (I.hok.fresh (Nat.le_succ _)) (I.hok.fresh (Nat.le_refl _)) (Nat.ne_of_lt (Nat.lt_succ_self _))
  have r2 : Vals (V.ref (s.heap.objs.size + 1) :: (vs ++ dvs)) (Value.ref (s.heap.objs.size + 1) :: (us ++ ds)) := .cons rfl (r.append hd)
  have hl : (Value.ref (s.heap.objs.size + 1) :: us ++ ds).length = ps.length := (r2.length.symm.trans (F.len _ _ _ _ hq) :)
  have go := F.run (X.A.under (.builtin "type.__call__" ⟨.ref C :: us, []⟩)) X.stack _ _ ⟨Value.ref (s.heap.objs.size + 1) :: us, []⟩ _ _ _ _ (hr.make C us []) (J.env0.make C us []) (hb _ (Value.ref (s.heap.objs.size + 1) :: us) J.kIn hl) r2 hq
  refine wpAny_call (make_map (f := f) I.kIn M.makes M.init (beq_iff_eq.mp M.fn) (codeAny_mono go fun r s1 z => ?_))
  cases r with
  | error e => exact passAt tk σ pins _ _ e s1 J z
  | ok fl =>
    cases fl with
    | ret u =>
      obtain ⟨v, H1, J1, rv, ev, q⟩ := J.after z
      cases ev
      exact ⟨rv, V.ref _, H1, J1, rfl, q⟩
    | _ => exact z.elim
/-- a class of the module that is made by its own __init__ -/
def NewOk (P : Program) (w : World) (K : PySem.W.Frag) (mg : Str → Option Value) (base : Heap) (ca : CA) (C : Str) (g : Sem) (np : Nat) (lvl : Nat) (ds : List D) : Prop :=
  ∃ f fd ps dvs dus, mg C = some (.ref (ca.f C)) ∧ Mk K (ca.f C) f ∧ FnOk P w K mg base (L2.CX P w) lvl f fd ps (spOf ⟨K, ca⟩ np g) ∧ Binds K fd ps dus ∧ Vals dvs dus ∧ Reps0 ⟨K, ca⟩ ds dvs
theorem pe_newS {C : Str} {g : Sem} {np lvl : Nat} {ds : List D} {fs : AS} {e : Expr} {es : List Expr} {p : Pos} (N : NewOk X.prog X.w X.K X.mg X.base ca C g np lvl ds) (hr : Room (lvl + 1) X.A) (hg : Gl X C) (tk : Takes X Wx) (ha : PA X (e :: es) (tA (GX X ca) Wx fs))
    (hl : ∀ env S ws S', fs env S = .ok ws S' → ws.length + ds.length + 1 = np) (hdb : (C == ("__debug__" : Str)) = false) (he : starEach (e :: es) X.env = (false, eval e X.env) :: starEach es X.env) (hpl : (backTo pos (starEach es X.env)).any (·.1) = false) :
    PE X (.Call (.Name C p) (e :: es) [] pos) (tE (GX X ca) Wx (newF C g ds fs)) := by
  obtain ⟨f, fd, ps, dvs, dus, hm, M, F, hb, hd, hR⟩ := N
  refine ⟨fun pins s σ H Q I h => wpAny_Call_Name_kw (ld_glob I hg hm ?_ hdb)⟩
  refine PySem.W.callWith_K (h₀ := X.base) I.ok.mod.kin M.kp (thn (ha.run pos pins s σ H _ I (new_pre hl hR h)) fun us s1 ⟨vs, H1, I1, r, q⟩ => ⟨I1.kIn, ?_⟩) he hpl
  exact run_new M F hr hb hd tk I1 r q
/-! ### a method called: the class by what stands there -/
/-- what a table of methods says -/
def MthOk (P : Program) (w : World) (K : PySem.W.Frag) (mg : Str → Option Value) (base : Heap) (ca : CA) (m : Str) (k : Nat) (tb : List (Str × FnE)) : Prop :=
  ∀ C en, tb.lookup C = some en → en.lvl ≤ k ∧ ∃ f fd ps, Cls K (ca.f C) ∧ Meth K (ca.f C) m f ∧ FnOk P w K mg base (L2.CX P w) en.lvl f fd ps (spOf ⟨K, ca⟩ en.np en.sem) ∧ Binds K fd ps []
def mthF (m : Str) (tb : List (Str × FnE)) (fo : ES) (fs : AS) : ES := fun env => (fo env).bind fun w => fun S => match view S w.toW with
  | some (.ins C ks _) => if m ∈ ks then .stuck else match tb.lookup C with
    | some en => ((fs env).bind fun ws => fun S' => if ws.length + 1 = en.np then en.sem (w.toW :: ws) S' else .stuck) S
    | none => .stuck
  | _ => .stuck
theorem lookup_none {m : Str} : ∀ {ks : List Str} {ws : List V}, m ∉ ks → (ks.zip ws).lookup m = none
  | [], _, _ => rfl
  | k :: ks, [], _ => rfl
  | k :: ks, w :: ws, h => by
    rw [List.zip_cons_cons, List.lookup_cons]
    have : (m == k) = false := by simpa using fun z => h (by simp [z])
    rw [this]
    exact lookup_none fun z => h (by simp [z])
theorem pe_mthS {m : Str} {k : Nat} {tb : List (Str × FnE)} {fs : AS} {es : List Expr} {apos : Pos} {pl : PySem.Sem Bool} (T : MthOk X.prog X.w X.K X.mg X.base ca m k tb) (hr : Room k X.A) (tk : Takes X Wx) (ho : PE X o (tE (GX X ca) Wx fo)) (ha : PA X es (tA (GX X ca) Wx fs))
    (hf : es = [] → fs = nilS) (hst : ∀ e r, es = e :: r → starEach (e :: r) X.env = (false, eval e X.env) :: starEach r X.env ∧ (backTo pos (starEach r X.env)).any (·.1) = false)
    (ht : eval (.Call (.Attribute o m apos) es [] pos) X.env = (do
      let ov ← eval o X.env
      standAt apos.atName
      let (f, first) ← holding [ov] (getMethod ov m pl)
      callWith pos f first (backTo pos (starEach es X.env)) (backToKw pos (keywordEach [] X.env)))) :
    PE X (.Call (.Attribute o m apos) es [] pos) (tE (GX X ca) Wx (mthF m tb fo fs)) := by
  refine ⟨fun pins s σ H Q I h => ?_⟩
  obtain ⟨ω, env, ok, er, p⟩ := h
  refine PySem.W.methodCall_KW (pl := pl) (thn (ho.run pins s σ H _ I (bindW ok er p)) fun u s1 ⟨x, H1, I1, rx, ω1, w, le1, ok1, r1, er1, p1⟩ => ?_) ht
  cases e : view ω1.S w.toW with
  | none => simp only [e] at p1; exact p1.elim
  | some d =>
    cases d with
    | ins C ks vs =>
      simp only [e] at p1
      split at p1
      · exact p1.elim
      rename_i hn
      cases hl : tb.lookup C with
      | none => simp only [hl] at p1; exact p1.elim
      | some en =>
        simp only [hl] at p1
        obtain ⟨hk, f, fd, ps, c, hm, F, hb⟩ := T C en hl
        obtain ⟨a, dx, ws, rfl, hat, hrp⟩ := now_of ok1 r1 e
        obtain rfl : u = Value.ref a := rx
        refine getmeth_ok I1 hat c hm (lookup_none hn) ?_
        have z := bindA (f := fs) ok1 er1 (PostE.step le1 p1)
        have run : ∀ {us : List Value} {s2 : Shared} {vs2 : List V} {H2 : Hp} {ω2 : Wd} {ws2 : List W}, Inv X pins σ H2 s2 → Vals vs2 us → Le ω1 H1 ω2 H2 → ω2.Ok (GX X ca) H2 → RepWs (GX X ca) ω2 ws2 vs2 →
            PostE (GX X ca) ω1 H1 Q (fun c d H' => Wx c d σ H') (if ws2.length + 1 = en.np then en.sem (w.toW :: ws2) ω2.S else .stuck) → wpAny (model X.prog X.w) X.A (call (.ref f) (Value.ref a :: us)) (EP X pins σ Q) X.xe s2 := fun {us s2 vs2 H2 ω2 ws2} I2 rv le2 ok2 r2 p2 => by
          split at p2
          · rename_i hlen
            refine run_at (us := .ref a :: us) (vs := .ref a :: vs2) (dvs := []) F (hr.mono hk) hb .nil tk I2 (.cons rfl rv) ?_
            rw [List.append_nil]
            exact ⟨by simp only [List.length_cons, r2.length]; exact hlen, ω2, w.toW :: ws2, ok2, ⟨_, _, rfl, r1.mono le2, r2⟩, PostE.step le2 p2⟩
          · exact p2.elim
        cases es with
        | nil =>
          have p2 := PostE.step le1 p1
          rw [hf rfl] at p2
          exact PySem.W.callWith_K0 (first := [.ref a]) I1.kIn hm.kp (run (vs2 := []) (ws2 := []) I1 .nil (Le.refl _ _ ok1) ok1 rfl p2)
        | cons e1 es =>
          obtain ⟨h1, h2⟩ := hst e1 es rfl
          refine PySem.W.callWith_K (first := [.ref a]) (h₀ := X.base) I1.ok.mod.kin hm.kp (thn (ha.run pos pins s1 σ H1 _ I1 z) fun us s2 ⟨vs2, H2, I2, rv, ω2, ws2, le2, ok2, r2, er2, p2⟩ => ⟨I2.kIn, run I2 rv le2 ok2 r2 p2⟩) h1 h2
    | _ => simp only [e] at p1; exact p1.elim
end
end Dn

set_option Elab.async false
set_option linter.all false
set_option maxRecDepth 100000
set_option maxHeartbeats 4000000
/-! # Dn, part F: own classes asked for by isinstance; own errors without a field -/
namespace Dn
open PySem PySem.Spec L2
/-- an instance's class, for isinstance -/
structure InsTy (K : PySem.W.Frag) (C : Addr) : Prop where
  cl : Cls K C
  ha : PySem.W.findIn K (.ref C) "__class__" = some (some (.builtin "object.__class__"))
  hn : PySem.W.specialIn K (.builtin "object.__class__") "__get__" = some (some (.builtin "getset_descriptor.__get__"))
  htk : PySem.W.takesIn K (.builtin "object.__class__") = some true
  hm : PySem.W.mroIn K C (.type "object") = some true
def tyNames : List String := ["NoneType", "bool", "int", "str", "list", "tuple"]
theorem tyN_in {d : D} {n : String} (h : tyN d = some n) : n ∈ tyNames := by
  cases d <;> simp only [tyN, Option.some.injEq, reduceCtorEq] at h <;> subst h <;> simp [tyNames]
def iscM (tb : List (Str × Bool)) (w : W) : M RW := fun S => match view S w with
  | some (.ins C _ _) => match tb.lookup C with
    | some b => .ok (.d (.bl b)) S
    | none => .stuck
  | some d => match tyN d with
    | some _ => .ok (.d (.bl false)) S
    | none => .stuck
  | none => .stuck
def iscS (tb : List (Str × Bool)) (fo : ES) : ES := fun env => (fo env).bind fun w => iscM tb w.toW
/-- what the table says -/
structure IscOk (K : PySem.W.Frag) (mg : Str → Option Value) (ca : CA) (x : Str) (tb : List (Str × Bool)) : Prop where
  g : mg x = some (.ref (ca.f x))
  b : ∀ n ∈ tyNames, PySem.W.kitOne K (.type n) (.ref (ca.f x)) = some false
  t : ∀ C b, tb.lookup C = some b → InsTy K (ca.f C) ∧ PySem.W.kitOne K (.ref (ca.f C)) (.ref (ca.f x)) = some b
section
variable {X : Cx} {ca : CA} {Wx : WX} {o : Expr} {pos : Pos} {fo : ES}
theorem pe_iscS {x : Str} {tb : List (Str × Bool)} {q q2 : Pos} (T : IscOk X.K X.mg ca x tb) (hg : Gl X "isinstance") (hm : X.mg "isinstance" = none) (hg2 : Gl X x) (hdb : (x == ("__debug__" : Str)) = false) (ho : PE X o (tE (GX X ca) Wx fo))
    (he : starEach [o, .Name x q2] X.env = (false, eval o X.env) :: starEach [.Name x q2] X.env) : PE X (.Call (.Name "isinstance" q) [o, .Name x q2] [] pos) (tE (GX X ca) Wx (iscS tb fo)) := by
  have h2 : PE X (.Name x q2) (tC (.ref (ca.f x))) := pe_glob hg2 T.g rfl hdb
  refine peImp (pe_callB call_isi hg hm (by decide +kernel) (pa_cons ho (pa_cons h2 pa_nil (by rfl)) he) (by decide) (by decide) he (by rfl)) fun σ H Q h => ?_
  obtain ⟨ω, env, ok, er, p⟩ := h
  refine tE_mono (bindW ok er p) fun v H1 ⟨ω1, w, le1, ok1, r1, er1, p1⟩ => ?_
  unfold iscM at p1
  have fin : ∀ {t : Value} {b : Bool}, TyX X.K H1 v t → PySem.W.kitOne X.K t (.ref (ca.f x)) = some b → PostE (GX X ca) ω H Q (fun c d H' => Wx c d σ H') (.ok (.d (.bl b)) ω1.S) → rIsi X.K [v, .ref (ca.f x)] H1 Q := fun {t b} ty hk p2 =>
    ⟨v, _, t, _, b, rfl, .own _, ty, hk, p2 ω1 H1 _ rfl le1 ok1 (rep_bl (G := GX X ca) (F := ω1.F) b)⟩
  cases e : view ω1.S w.toW with
  | none => simp only [e] at p1; exact p1.elim
  | some d =>
    have nw := now_of ok1 r1 e
    by_cases hi : ∃ C ks vs, d = .ins C ks vs
    · obtain ⟨C, ks, vs, rfl⟩ := hi
      simp only [e] at p1
      cases hl : tb.lookup C with
      | none => simp only [hl] at p1; exact p1.elim
      | some b =>
        simp only [hl] at p1
        obtain ⟨I, hk⟩ := T.t C b hl
        obtain ⟨a, dx, ws, rfl, ha, _⟩ := nw
        exact fin (.base (.ins ha I.cl I.ha I.hn I.htk I.hm)) hk p1
    · have p2 : Post (GX X ca) (fun ω' H' w v => RepRW (GX X ca) ω' H H' w v) ω H Q (fun c d H' => Wx c d σ H') (match tyN d with | some _ => Res.ok (RW.d (.bl false)) ω1.S | none => .stuck) := by
        cases d <;> first | exact absurd ⟨_, _, _, rfl⟩ hi | (simp only [e] at p1; exact p1)
      cases ht : tyN d with
      | none => rw [ht] at p2; exact p2.elim
      | some n =>
        rw [ht] at p2
        exact fin (tyX_now (G := GX X ca) ok1 ht nw) (T.b n (tyN_in ht)) p2
/-! ### raise X('..'), an own class over ValueError that has nothing of its own -/
def rs0S (nm : Str) : SS := fun env S => .err ⟨nm, [], []⟩ env S
structure ExcN (K : PySem.W.Frag) (mg : Str → Option Value) (ca : CA) (nm : Str) : Prop where
  g : mg nm = some (.ref (ca.f nm))
  i : PySem.W.excIn K (ca.f nm) [.type "ValueError", .type "Exception", .type "BaseException", .type "object"] "ValueError.__new__" = true
  k : PySem.W.keepIn K (.ref (ca.f nm)) = true
  s : PySem.W.subIn K (.ref (ca.f nm)) (.type "BaseException") = some true
  t : PySem.W.typeIn K (.ref (ca.f nm)) = some (.type "type")
theorem ps_rs0S {nm m : Str} {j : Nat} {p p2 pos2 : Pos} (hc : X.calm = true) (T : ExcN X.K X.mg ca nm) (tk : Takes X Wx) (hg : Gl X nm) (hdb : (nm == ("__debug__" : Str)) = false) :
    PS X (.Raise (some (.Call (.Name nm p) [.Constant (.str m) j p2] [] pos)) none pos2) (tS (GX X ca) Wx (rs0S nm)) :=
  psImp (ps_raise hc tk (pmk_own PySem.F.excBase_ValueError T.i T.g T.k (raises_own T.s T.t) hg hdb)) fun D σ H h => by
    obtain ⟨ω, env, ok, er, p⟩ := h
    exact p ω H σ (.ref (ca.f nm)) none rfl (Le.refl _ _ ok) ok er ⟨rfl, [], .inl ⟨rfl, rfl⟩, Reps.nil⟩
end
end Dn

set_option Elab.async false
set_option linter.all false
set_option maxRecDepth 100000
set_option maxHeartbeats 4000000
/-! # Dn, part 14: own syntax of expressions, its meaning, its check against the program's expressions -/
namespace Dn
open PySem PySem.Spec L2

/-- an expression's meaning: as a value, a test, an argument list, a slice's end, what is walked -/
structure Sx where
  e : ES := fun _ _ => .stuck
  t : BS := fun _ _ => .stuck
  a : AS := fun _ _ => .stuck
  o : OS := fun _ _ => .stuck
  i : IS := fun _ _ => .stuck
structure Ck where
  e : Expr → Bool := fun _ => false
  t : Expr → Bool := fun _ => false
  a : List Expr → Bool := fun _ => false
  o : Option Expr → Bool := fun _ => false
  i : Expr → Expr → Bool := fun _ _ => false
  f : List Expr → Bool := fun _ => false
structure Cs where
  s : Stmt → Bool := fun _ => false
  b : List Stmt → Bool := fun _ => false
/-- a rule of one's own: an expression out of two; something to walk; a statement -/
structure Ru where
  sem : Sx → Sx → ES
  chk : List Str → Scope → Ck → Ck → Expr → Bool
structure RuI where
  sem : Sx → Sx → IS
  chk : List Str → Scope → Ck → Ck → Expr → Expr → Bool
structure RuS where
  sem : Sx → Sx → Sx → SS → SS → SS
  chk : List Str → Scope → Ck → Ck → Ck → Cs → Cs → Stmt → Bool
/-- a rule of one's own for a comprehension: what is walked, a test; what is walked inside, a test; the element -/
structure RuC where
  sem : IS → BS → IS → BS → ES → ES
  chk : List Str → Scope → Ck → (Scope → Ck) → (Scope → Ck) → (Scope → Ck) → (Scope → Ck) → Expr → Bool
inductive IE where
  | var (i : Nat) | cst (d : D) | glb (x : Str) (d : D)
  | bin (o : BO) (a b : IE) | cmp (o : CO) (a b : IE) | isN (neg : Bool) (a : IE) | isi (t : TyK) (a : IE) | neg (a : IE) | op1 (o : O1) (a : IE) | chn (o o' : CO) (a b c : IE)
  | ix (a b : IE) | sl (a lo hi : IE)
  | not (a : IE) | and (a b : IE) | or (a b : IE) | and1 (a : IE) | or1 (a : IE) | ite (c a b : IE)
  | lst (s : IE) | tup (s : IE)
  | call (f : FnE) (s : IE) | blt (p : BP) (s : IE) | meth (m : MP) (o s : IE)
  | lc (own : List (Str × Nat)) (t : TGt) (it tst elt : IE)
  | att (tb : List Str) (f : Str) (a : IE) | xis (one : Bool) (cs : List KL) (tb : List (Str × Bool)) (a : IE) | hole (k : List Str → Scope → Expr → Bool) (f : ES) | ap (r : Ru) (a b : IE) | iap (r : RuI) (a b : IE) | apc (r : RuC) (a b c d e : IE)
  | nil | cons (a s : IE) | ono | osm (a : IE) | over (a : IE) | rng (s : IE) | yes
def sxE (f : ES) : Sx := { e := f, t := tstS f }
def IE.sem : IE → Sx
  | .var i => sxE (varS i)
  | .cst d => sxE (cstS d)
  | .glb _ d => sxE (cstS d)
  | .bin o a b => sxE (opS (liftD (bopD o)) a.sem.e b.sem.e)
  | .cmp o a b => sxE (opS (liftD (cmpD o)) a.sem.e b.sem.e)
  | .isN ng a => sxE (isNS ng a.sem.e)
  | .isi t a => sxE (isiS t a.sem.e)
  | .neg a => sxE (unS (liftD negD) a.sem.e)
  | .op1 o a => sxE (o.sem a.sem.e)
  | .chn o o' a b c => sxE (chnS (liftD (cmpD o)) (liftD (cmpD o')) a.sem.e b.sem.e c.sem.e)
  | .ix a b => sxE (opS (liftD ixD) a.sem.e b.sem.e)
  | .sl a lo hi => sxE (slS a.sem.e lo.sem.o hi.sem.o)
  | .not a => { e := notV a.sem.e, t := notS a.sem.t }
  | .and a b => { e := andV a.sem.e b.sem.e, t := andS a.sem.t b.sem.t }
  | .or a b => { e := orV a.sem.e b.sem.e, t := orS a.sem.t b.sem.t }
  | .and1 a => { e := a.sem.e, t := a.sem.t }
  | .or1 a => { e := a.sem.e, t := a.sem.t }
  | .ite c a b => { e := iteS c.sem.t a.sem.e b.sem.e }
  | .lst s => sxE (lstS s.sem.a)
  | .tup s => sxE (tupS s.sem.a)
  | .call f s => sxE (callF f.sem s.sem.a)
  | .blt p s => sxE (callS (liftP (liftD (bpD p))) s.sem.a)
  | .meth m o s => sxE (methS m.T (mpP m) o.sem.e s.sem.a)
  | .lc own t it tst elt => sxE (lcS (own.map (·.2)) t it.sem.i tst.sem.t elt.sem.e)
  | .att tb f a => sxE (attX tb f a.sem.e)
  | .xis _ _ tb a => sxE (xisS tb a.sem.e)
  | .hole _ f => sxE f
  | .ap r a b => sxE (r.sem a.sem b.sem)
  | .iap r a b => { i := r.sem a.sem b.sem }
  | .apc r a b c d e => sxE (r.sem a.sem.i b.sem.t c.sem.i d.sem.t e.sem.e)
  | .nil => { a := nilS }
  | .cons a s => { a := consS a.sem.e s.sem.a }
  | .ono => { o := noS }
  | .osm a => { o := intS a.sem.e }
  | .over a => { i := overS a.sem.e }
  | .rng s => { i := rngS s.sem.a }
  | .yes => { t := yesS }
/-! ### the check -/
def ln : List Nat → List Nat → Bool
  | [], [] => true
  | a :: as, b :: bs => Nat.beq a b && ln as bs
  | _, _ => false
theorem ln_eq : ∀ {a b : List Nat}, ln a b = true → a = b
  | [], [], _ => rfl
  | a :: as, b :: bs, h => by
    unfold ln at h
    rw [Bool.and_eq_true] at h
    rw [Nat.eq_of_beq_eq_true h.1, ln_eq h.2]
  | [], _ :: _, h => by cases h
  | _ :: _, [], h => by cases h
def sq (a b : Str) : Bool := ln a.cps.toList b.cps.toList
theorem sq_eq {a b : Str} (h : sq a b = true) : a = b := by
  have := ln_eq h
  obtain ⟨a⟩ := a
  obtain ⟨b⟩ := b
  congr 1
  exact Array.toList_inj.mp this
/-- is the name one of this kind -/
def kd (sc : Scope) (x : Str) (k : NameKind) : Bool := decide (sc.names.lookup x = some k)
def vis (sc : Scope) (x : Str) : Bool := kd sc x .local || kd sc x .cell || kd sc x .free
def stor (b : Bool) (sc : Scope) (x : Str) : Bool := kd sc x .local || (b && kd sc x .cell)
def atN (N : List Str) (i : Nat) (x : Str) : Bool := match N[i]? with
  | some y => sq y x
  | none => false
def dbg (x : Str) : Bool := !(x == ("__debug__" : Str))
def notStar : Expr → Bool
  | .Starred .. => false
  | _ => true
def plainBase : Expr → Bool
  | .Call .. => false
  | _ => true
def notSet : Expr → Bool
  | .Set .. => false
  | _ => true
def notSlice : Expr → Bool
  | .Slice .. => false
  | _ => true
def ckC : D → Const → Bool
  | .non, .none => true
  | .bl b, .bool c => b == c
  | .int i, .int j => decide (i = j)
  | .str s, .str t => sq s t && okB t
  | _, _ => false
def ckT (N : List Str) (b : Bool) (sc : Scope) : TGt → Expr → Bool
  | .nm i, .Name x _ => atN N i x && stor b sc x
  | .tp is, .Tuple es _ _ => go is es
  | _, _ => false
where
  go : List Nat → List Expr → Bool
    | [], [] => true
    | i :: is, .Name x _ :: es => atN N i x && stor b sc x && go is es
    | _, _ => false
def blkB (N : List Str) (sc scope : Scope) (own : List (Str × Nat)) : Bool :=
  decide (scope.kind = .function) && scope.names.all (fun y => decide (scope.names.lookup y.1 = some y.2)) && own.all (fun p => decide (N[p.2]? = some p.1)) &&
  scope.names.all (fun y => if y.2 = .free then kd sc y.1 .cell || kd sc y.1 .free else true) &&
  scope.names.all (fun y => if y.2 = .local ∨ y.2 = .cell then decide (y.1 ∈ own.map (·.1)) || decide (y.1 ∉ N) else true)
def ckE (f : Expr → Bool) : Ck := { e := f, t := f }
def ckVar (N : List Str) (i : Nat) (sc : Scope) : Expr → Bool
  | .Name x _ => atN N i x && vis sc x && dbg x && !(x == ("__classdict__" : Str))
  | _ => false
def ckCst (d : D) : Expr → Bool
  | .Constant c _ _ => ckC d c
  | _ => false
def ckGlb (y : Str) (sc : Scope) : Expr → Bool
  | .Name x _ => sq y x && kd sc x .globalImplicit && dbg x
  | _ => false
def ckBin (o : BO) (ka kb : Ck) : Expr → Bool
  | .BinOp a op b _ => decide (op = o.op) && ka.e a && kb.e b
  | _ => false
def ckCmp (o : CO) (ka kb : Ck) : Expr → Bool
  | .Compare a [op] [b] _ => decide (op = o.op) && ka.e a && kb.e b && notSet b
  | _ => false
def ckIsN (neg : Bool) (ka : Ck) : Expr → Bool
  | .Compare a [op] [.Constant .none _ _] _ => decide (op = if neg then .IsNot else .Is) && ka.e a
  | _ => false
def ckIsi (t : TyK) (sc : Scope) (ka : Ck) : Expr → Bool
  | .Call (.Name f _) [a, .Name g _] [] _ => sq f "isinstance" && sq g t.name && kd sc f .globalImplicit && kd sc g .globalImplicit && ka.e a && notStar a
  | _ => false
def ckNeg (ka : Ck) : Expr → Bool
  | .UnaryOp .USub a _ => ka.e a
  | _ => false
def ckSet (f : Str) (sc : Scope) (ka : Expr → Bool) : Expr → Bool
  | .Call (.Name x _) [.Call (.Name y _) [a] [] _] [] _ => sq f x && sq "set" y && kd sc x .globalImplicit && kd sc y .globalImplicit && ka a && notStar a
  | _ => false
def ckO1 (o : O1) (sc : Scope) (ka : Expr → Bool) : Expr → Bool := match o with
  | .srset => ckSet "sorted" sc ka
  | .lnset => ckSet "len" sc ka
def ckChn (o o' : CO) (ka kb kc : Ck) : Expr → Bool
  | .Compare a [op, op'] [b, c] _ => decide (op = o.op) && decide (op' = o'.op) && ka.e a && kb.e b && kc.e c && notSet b && notSet c
  | _ => false
def ckIx (ka kb : Ck) : Expr → Bool
  | .Subscript a b _ => ka.e a && kb.e b && notSlice b
  | _ => false
def ckSl (ka kl kh : Ck) : Expr → Bool
  | .Subscript a (.Slice lo hi none _) _ => ka.e a && kl.o lo && kh.o hi
  | _ => false
def ckNot (ka : Expr → Bool) : Expr → Bool
  | .UnaryOp .Not a _ => ka a
  | _ => false
def ckBool (o : BoolOp) (ka kb : Expr → Bool) : Expr → Bool
  | .BoolOp op (a :: b :: rest) p => decide (op = o) && ka a && kb (.BoolOp op (b :: rest) p)
  | _ => false
def ckBool1 (o : BoolOp) (ka : Expr → Bool) : Expr → Bool
  | .BoolOp op [a] p => decide (op = o) && ka a
  | _ => false
def ckIte (kc ka kb : Ck) : Expr → Bool
  | .IfExp c a b _ => kc.t c && ka.e a && kb.e b
  | _ => false
def ckLst (k : Ck) : Expr → Bool
  | .List es _ => k.a es && decide (es.length ≤ 1000)
  | _ => false
def ckTup (k : Ck) : Expr → Bool
  | .Tuple es _ _ => k.a es && decide (es.length ≤ 1000)
  | _ => false
def ckCall (nm : Str) (np : Nat) (sc : Scope) (k : Ck) : Expr → Bool
  | .Call (.Name x _) es [] _ => sq nm x && kd sc x .globalImplicit && dbg x && k.a es && Nat.beq es.length np
  | _ => false
def ckBlt (nm : Str) (sc : Scope) (k : Ck) : Expr → Bool
  | .Call (.Name x _) (e :: es) [] _ => sq nm x && kd sc x .globalImplicit && k.a (e :: es)
  | _ => false
def ckMeth (nm : Str) (ko k : Ck) : Expr → Bool
  | .Call (.Attribute o x ap) (e :: es) [] p => sq nm x && ko.e o && plainBase o && k.a (e :: es) && decide (es.length < 20) && (ap.endLine == p.line)
  | _ => false
def ckLc (N : List Str) (sc : Scope) (own : List (Str × Nat)) (t : TGt) (ki : Ck) (kt ke : Scope → Ck) : Expr → Bool
  | .ListComp elt [⟨tg, iter, ifs, 0⟩] scope _ => ki.i tg iter && notSet iter && blkB N sc scope own && ckT N false (relS scope sc) t tg && t.ids.all (fun i => (own.map (·.2)).contains i) && (kt (relS scope sc)).f ifs && (ke (relS scope sc)).e elt
  | _ => false
def ckAtt (f : Str) (k : Ck) : Expr → Bool
  | .Attribute o x _ => sq f x && k.e o && plainBase o
  | _ => false
def ckNames (sc : Scope) : List KL → List Expr → Bool
  | [], [] => true
  | c :: cs, .Name x _ :: es => sq x c.name && kd sc x .globalImplicit && dbg x && ckNames sc cs es
  | _, _ => false
def ckXis (one : Bool) (cs : List KL) (sc : Scope) (ka : Ck) : Expr → Bool
  | .Call (.Name f _) [a, b] [] _ => sq f "isinstance" && kd sc f .globalImplicit && ka.e a && notStar a && (match one, b with
    | true, .Name x p => ckNames sc cs [.Name x p]
    | false, .Tuple es _ _ => ckNames sc cs es && decide (cs.length ≤ 1000)
    | _, _ => false)
  | _ => false
def ckRng (sc : Scope) (k : Ck) : Expr → Bool
  | .Call (.Name x _) es [] _ => sq "range" x && kd sc x .globalImplicit && k.a es && (Nat.beq es.length 1 || Nat.beq es.length 2)
  | _ => false
def ckCons (ka k : Ck) : List Expr → Bool
  | e :: es => ka.e e && notStar e && k.a es
  | [] => false
def ckOne (k : Expr → Bool) : List Expr → Bool
  | [e] => k e
  | _ => false
def IE.chk (N : List Str) : IE → Scope → Ck
  | .var i, sc => ckE (ckVar N i sc)
  | .cst d, _ => ckE (ckCst d)
  | .glb x _, sc => ckE (ckGlb x sc)
  | .bin o a b, sc => ckE (ckBin o (a.chk N sc) (b.chk N sc))
  | .cmp o a b, sc => let f := ckCmp o (a.chk N sc) (b.chk N sc); { e := f, t := f, f := ckOne f }
  | .isN ng a, sc => let f := ckIsN ng (a.chk N sc); { e := f, t := f, f := ckOne f }
  | .isi t a, sc => let f := ckIsi t sc (a.chk N sc); { e := f, t := f, f := ckOne f }
  | .neg a, sc => ckE (ckNeg (a.chk N sc))
  | .op1 o a, sc => let f := ckO1 o sc (a.chk N sc).e; { e := f, t := f, f := ckOne f }
  | .chn o o' a b c, sc => let f := ckChn o o' (a.chk N sc) (b.chk N sc) (c.chk N sc); { e := f, t := f, f := ckOne f }
  | .ix a b, sc => ckE (ckIx (a.chk N sc) (b.chk N sc))
  | .sl a lo hi, sc => ckE (ckSl (a.chk N sc) (lo.chk N sc) (hi.chk N sc))
  | .not a, sc => { e := ckNot (a.chk N sc).e, t := ckNot (a.chk N sc).t, f := ckOne (ckNot (a.chk N sc).t) }
  | .and a b, sc => { e := ckBool .And (a.chk N sc).e (b.chk N sc).e, t := ckBool .And (a.chk N sc).t (b.chk N sc).t, f := ckOne (ckBool .And (a.chk N sc).t (b.chk N sc).t) }
  | .or a b, sc => { e := ckBool .Or (a.chk N sc).e (b.chk N sc).e, t := ckBool .Or (a.chk N sc).t (b.chk N sc).t, f := ckOne (ckBool .Or (a.chk N sc).t (b.chk N sc).t) }
  | .and1 a, sc => { e := ckBool1 .And (a.chk N sc).e, t := ckBool1 .And (a.chk N sc).t }
  | .or1 a, sc => { e := ckBool1 .Or (a.chk N sc).e, t := ckBool1 .Or (a.chk N sc).t }
  | .ite c a b, sc => { e := ckIte (c.chk N sc) (a.chk N sc) (b.chk N sc) }
  | .lst s, sc => ckE (ckLst (s.chk N sc))
  | .tup s, sc => ckE (ckTup (s.chk N sc))
  | .call f s, sc => let g := ckCall f.name f.np sc (s.chk N sc); { e := g, t := g, f := ckOne g }
  | .blt p s, sc => let g := ckBlt p.name sc (s.chk N sc); { e := g, t := g, f := ckOne g }
  | .meth m o s, sc => ckE (ckMeth m.name (o.chk N sc) (s.chk N sc))
  | .lc own t it tst elt, sc => ckE (ckLc N sc own t (it.chk N sc) (tst.chk N) (elt.chk N))
  | .att _ f a, sc => ckE (ckAtt f (a.chk N sc))
  | .xis one cs _ a, sc => let f := ckXis one cs sc (a.chk N sc); { e := f, t := f, f := ckOne f }
  | .hole k _, sc => ckE (k N sc)
  | .ap r a b, sc => let g := r.chk N sc (a.chk N sc) (b.chk N sc); { e := g, t := g, f := ckOne g }
  | .iap r a b, sc => { i := r.chk N sc (a.chk N sc) (b.chk N sc) }
  | .apc r a b c d e, sc => let g := r.chk N sc (a.chk N sc) (b.chk N) (c.chk N) (d.chk N) (e.chk N); { e := g, t := g, f := ckOne g }
  | .nil, _ => { a := fun es => es.isEmpty }
  | .cons a s, sc => { a := ckCons (a.chk N sc) (s.chk N sc) }
  | .ono, _ => { o := fun e => e.isNone }
  | .osm a, sc => { o := fun e => match e with | some e => (a.chk N sc).e e | none => false }
  | .over a, sc => { i := fun _ => (a.chk N sc).e }
  | .rng s, sc => { i := fun _ => ckRng sc (s.chk N sc) }
  | .yes, _ => { f := fun es => es.isEmpty }
/-- what a text leans on -/
structure Us where
  f : FnE → Prop
  g : Str → D → Prop
  c : Prop
  p : Prop
  a : List Str → Str → Prop
  k : Bool → List KL → List (Str × Bool) → Prop
  x : Str → Str → Prop
  e : KL → List (Str × Bool) → Prop
  h : (List Str → Scope → Expr → Bool) → ES → Prop
  r : Ru → Prop
  i : RuI → Prop
  s : RuS → Prop
  q : RuC → Prop
/-- the same, in a suite that handles an error -/
def Us.su (u : Us) : Us := { u with f := fun _ => False, c := False, p := False, x := fun _ _ => False, e := fun _ _ => False, h := fun _ _ => False, r := fun _ => False, i := fun _ => False, s := fun _ => False, q := fun _ => False }
def TGt.one : TGt → Bool
  | .nm _ => true
  | .tp _ => false
def IE.uses (u : Us) : IE → Prop
  | .glb x d => u.g x d
  | .call f s => u.f f ∧ s.uses u
  | .bin _ a b => a.uses u ∧ b.uses u
  | .cmp _ a b => a.uses u ∧ b.uses u
  | .isN _ a => a.uses u
  | .isi _ a => a.uses u
  | .neg a => a.uses u
  | .op1 o a => u.c ∧ a.uses u
  | .chn _ _ a b c => a.uses u ∧ b.uses u ∧ c.uses u
  | .ix a b => a.uses u ∧ b.uses u
  | .sl a b c => a.uses u ∧ b.uses u ∧ c.uses u
  | .not a => a.uses u
  | .and a b => a.uses u ∧ b.uses u
  | .or a b => a.uses u ∧ b.uses u
  | .and1 a => a.uses u
  | .or1 a => a.uses u
  | .ite a b c => a.uses u ∧ b.uses u ∧ c.uses u
  | .lst a => a.uses u
  | .tup a => a.uses u
  | .blt _ a => u.c ∧ a.uses u
  | .meth _ a b => a.uses u ∧ b.uses u
  | .lc _ _ a b c => u.c ∧ a.uses u ∧ b.uses u ∧ c.uses u
  | .att tb f a => u.a tb f ∧ a.uses u
  | .xis one cs tb a => u.k one cs tb ∧ a.uses u
  | .hole k f => u.h k f
  | .ap r a b => u.r r ∧ a.uses u ∧ b.uses u
  | .iap r a b => u.i r ∧ a.uses u ∧ b.uses u
  | .apc r a b c d e => (u.c ∧ u.q r) ∧ a.uses u ∧ b.uses u ∧ c.uses u ∧ d.uses u ∧ e.uses u
  | .cons a b => a.uses u ∧ b.uses u
  | .osm a => a.uses u
  | .over a => a.uses u
  | .rng a => a.uses u
  | _ => True
structure Us.Le (u v : Us) : Prop where
  f : ∀ e, u.f e → v.f e
  g : ∀ x d, u.g x d → v.g x d
  c : u.c → v.c
  p : u.p → v.p
  a : ∀ t f, u.a t f → v.a t f
  k : ∀ b t f, u.k b t f → v.k b t f
  x : ∀ n f, u.x n f → v.x n f
  e : ∀ n f, u.e n f → v.e n f
  h : ∀ k f, u.h k f → v.h k f
  r : ∀ k, u.r k → v.r k
  i : ∀ k, u.i k → v.i k
  s : ∀ k, u.s k → v.s k
  q : ∀ k, u.q k → v.q k
theorem Us.Le.su {u v : Us} (m : u.Le v) : u.su.Le v.su := ⟨fun _ h => h, m.g, fun h => h, fun h => h, m.a, m.k, fun _ _ h => h, fun _ _ h => h, fun _ _ h => h, fun _ h => h, fun _ h => h, fun _ h => h, fun _ h => h⟩
theorem IE.uses_mono {u v : Us} (m : u.Le v) : ∀ {ir : IE}, ir.uses u → ir.uses v := by
  intro ir
  induction ir <;> simp only [IE.uses] <;> (try exact fun h => h)
  all_goals first
    | exact m.g _ _
    | exact m.h _ _
    | (rename_i ih; exact ih)
    | (rename_i ih; exact fun h => ⟨m.f _ h.1, ih h.2⟩)
    | (rename_i ih; exact fun h => ⟨m.c h.1, ih h.2⟩)
    | (rename_i ih; exact fun h => ⟨m.a _ _ h.1, ih h.2⟩)
    | (rename_i ih; exact fun h => ⟨m.k _ _ _ h.1, ih h.2⟩)
    | (rename_i ih1 ih2; exact fun h => ⟨ih1 h.1, ih2 h.2⟩)
    | (rename_i ih1 ih2; exact fun h => ⟨m.r _ h.1, ih1 h.2.1, ih2 h.2.2⟩)
    | (rename_i ih1 ih2; exact fun h => ⟨m.i _ h.1, ih1 h.2.1, ih2 h.2.2⟩)
    | (rename_i ih1 ih2 ih3 ih4 ih5; exact fun h => ⟨⟨m.c h.1.1, m.q _ h.1.2⟩, ih1 h.2.1, ih2 h.2.2.1, ih3 h.2.2.2.1, ih4 h.2.2.2.2.1, ih5 h.2.2.2.2.2⟩)
    | (rename_i ih1 ih2 ih3; exact fun h => ⟨ih1 h.1, ih2 h.2.1, ih3 h.2.2⟩)
    | (rename_i ih1 ih2 ih3; exact fun h => ⟨m.c h.1, ih1 h.2.1, ih2 h.2.2.1, ih3 h.2.2.2⟩)
end Dn

set_option Elab.async false
set_option linter.all false
set_option maxRecDepth 100000
set_option maxHeartbeats 8000000
/-! # Dn, part 15: the check of expressions is sound -/
namespace Dn
open PySem PySem.Spec L2

def bNames : List Str := ["len", "list", "tuple", "int", "str", "all", "any", "range", "isinstance", "bool", "set", "sorted", "zip", "enumerate", "reversed", "max", "min", "sum"]
structure Good (X : Cx) (ca : CA) (Wx : WX) (N : List Str) (b : Bool) : Prop where
  N : X.N = N
  nd : X.N.Nodup
  un : X.A.units + 65 < cLine
  tk : Takes X Wx
  fn : b = true → ∀ x, X.fn x = true
  blt : ∀ x ∈ bNames, X.mg x = none
  xo : XOk X ca
  cx : X.calm = true → ca.x = none
  st : b = true → X.stack = X.env :: X.outer ∧ X.env.frame = some X.env.locals
def GlobOk (X : Cx) (ca : CA) (x : Str) (d : D) : Prop := ∃ v u, X.mg x = some u ∧ RelV v u ∧ ∀ F, Rep (GX X ca) F d v
def FnAt (X : Cx) (ca : CA) (en : FnE) : Prop := FnOkD X.prog X.w X.K X.mg X.base ca en ∧ Room en.lvl X.A
def KisAt (K : PySem.W.Frag) (mg : Str → Option Value) (ca : CA) (one : Bool) (cs : List KL) (tb : List (Str × Bool)) : Prop :=
  (∀ c ∈ cs, KLOk mg ca c) ∧ ∀ C b, tb.lookup C = some b → ExcC K (ca.f C) ∧ match one, cs with
    | true, [c] => PySem.W.kitOne K (.ref (ca.f C)) (c.u ca) = some b
    | true, _ => False
    | false, _ => PySem.W.kitAny K (.ref (ca.f C)) (cs.map (KL.u ca)) = some b
def ExcAt (K : PySem.W.Frag) (mg : Str → Option Value) (ca : CA) (c : KL) (tb : List (Str × Bool)) : Prop :=
  KLOk mg ca c ∧ ∀ C b, tb.lookup C = some b → PySem.W.exmOne K (.ref (ca.f C)) (c.u ca) = some b
/-- a context of the same run -/
structure Same (X X' : Cx) : Prop where
  prog : X'.prog = X.prog
  w : X'.w = X.w
  K : X'.K = X.K
  mg : X'.mg = X.mg
  base : X'.base = X.base
  A : X'.A = X.A
  calm : X'.calm = X.calm
def Plain (e : Expr) (env : PySem.Env) : Prop := (∀ whole, isTrue e env whole = (do let v ← whole; standAt e.pos; holding [v] (truthy v))) ∧ ∀ o vs p, e ≠ .BoolOp o vs p
def HoleAt (X : Cx) (ca : CA) (N : List Str) (k : List Str → Scope → Expr → Bool) (f : ES) : Prop :=
  ∀ (X' : Cx) (Wx' : WX) (b' : Bool), Same X X' → Good X' ca Wx' N b' → ∀ ex, k N X'.env.scope ex = true → PE X' ex (tE (GX X' ca) Wx' f) ∧ Plain ex X'.env
/-- the own defs, at a context; carried into a comprehension -/
structure Snd (X : Cx) (ca : CA) (Wx : WX) (ir : IE) (k : Ck) : Prop where
  e : ∀ ex, k.e ex = true → PE X ex (tE (GX X ca) Wx ir.sem.e)
  t : ∀ ex, k.t ex = true → PT X ex (tB (GX X ca) Wx ir.sem.t) ∧ ((∃ o vs p, ex = .BoolOp o vs p) → PW X ex (tB (GX X ca) Wx ir.sem.t))
  a : ∀ es, k.a es = true → PA X es (tA (GX X ca) Wx ir.sem.a)
  o : ∀ eo, k.o eo = true → PO X eo (tO (GX X ca) Wx ir.sem.o)
  i : ∀ tg ex, k.i tg ex = true → PI X tg ex (tI (GX X ca) Wx ir.sem.i)
  f : ∀ es, k.f es = true → PTs X es (tB (GX X ca) Wx ir.sem.t)
structure SndS (X : Cx) (ca : CA) (Wx : WX) (f : SS) (k : Cs) : Prop where
  s : ∀ st, k.s st = true → PS X st (tS (GX X ca) Wx f)
  b : ∀ st, k.b st = true → PSs X st (tS (GX X ca) Wx f)
/-- an expression read as a test -/
def Tst (X : Cx) (ca : CA) (Wx : WX) (ex : Expr) (f : ES) : Prop := PT X ex (tB (GX X ca) Wx (tstS f)) ∧ ∀ o vs p, ex ≠ .BoolOp o vs p
theorem tst_of {X : Cx} {ca : CA} {Wx : WX} {ex : Expr} {f : ES} (h : PE X ex (tE (GX X ca) Wx f)) (hp : Plain ex X.env) : PE X ex (tE (GX X ca) Wx f) ∧ Tst X ca Wx ex f := ⟨h, pt_tstS h hp.1, hp.2⟩
/-- a rule of one's own holds at a context -/
def RuAt (X : Cx) (ca : CA) (N : List Str) (r : Ru) : Prop := ∀ (Wx : WX) (b : Bool), Good X ca Wx N b → ∀ (a c : IE), Snd X ca Wx a (a.chk N X.env.scope) → Snd X ca Wx c (c.chk N X.env.scope) →
  ∀ ex, r.chk N X.env.scope (a.chk N X.env.scope) (c.chk N X.env.scope) ex = true → PE X ex (tE (GX X ca) Wx (r.sem a.sem c.sem)) ∧ Tst X ca Wx ex (r.sem a.sem c.sem)
def RiAt (X : Cx) (ca : CA) (N : List Str) (r : RuI) : Prop := ∀ (Wx : WX) (b : Bool), Good X ca Wx N b → ∀ (a c : IE), Snd X ca Wx a (a.chk N X.env.scope) → Snd X ca Wx c (c.chk N X.env.scope) →
  ∀ tg ex, r.chk N X.env.scope (a.chk N X.env.scope) (c.chk N X.env.scope) tg ex = true → PI X tg ex (tI (GX X ca) Wx (r.sem a.sem c.sem))
/-- .. inside a comprehension's own scope -/
def SndB (X : Cx) (ca : CA) (N : List Str) (a : IE) : Prop := ∀ (s : Shared) (H : Hp) (scope : Scope) (C : Addr) (cl : List (Str × Addr)) (fp : List Addr), Good (X.blk s H scope (compEnvC scope cl C X.env) fp) ca W0 N false ∧
  Snd (X.blk s H scope (compEnvC scope cl C X.env) fp) ca W0 a (a.chk N (relS scope X.env.scope))
def RcAt (X : Cx) (ca : CA) (N : List Str) (r : RuC) : Prop := ∀ (Wx : WX) (b : Bool), Good X ca Wx N b → X.calm = true → ∀ (a c d e f : IE), Snd X ca Wx a (a.chk N X.env.scope) → SndB X ca N c → SndB X ca N d → SndB X ca N e → SndB X ca N f →
  ∀ ex, r.chk N X.env.scope (a.chk N X.env.scope) (c.chk N) (d.chk N) (e.chk N) (f.chk N) ex = true → (PE X ex (tE (GX X ca) Wx (r.sem a.sem.i c.sem.t d.sem.i e.sem.t f.sem.e)) ∧ Tst X ca Wx ex (r.sem a.sem.i c.sem.t d.sem.i e.sem.t f.sem.e)) ∧
    ∀ (i : Nat) (mu : Bool) (x : Str) (p' p : Pos), X.N[i]? = some x → X.env.scope.names.lookup x = some .local → swapsWith ex (some (.Name x p')) p.line X.env = pure true → PS X (.Assign [.Name x p'] ex p) (tS (GX X ca) Wx (setS i mu (r.sem a.sem.i c.sem.t d.sem.i e.sem.t f.sem.e)))
def RsAt (X : Cx) (ca : CA) (N : List Str) (r : RuS) : Prop := ∀ (Wx : WX), Good X ca Wx N true → ∀ (a c d : IE) (f g : SS) (kf kg : Cs), Snd X ca Wx a (a.chk N X.env.scope) → Snd X ca Wx c (c.chk N X.env.scope) → Snd X ca Wx d (d.chk N X.env.scope) → SndS X ca Wx f kf → SndS X ca Wx g kg →
  ∀ st, r.chk N X.env.scope (a.chk N X.env.scope) (c.chk N X.env.scope) (d.chk N X.env.scope) kf kg st = true → PS X st (tS (GX X ca) Wx (r.sem a.sem c.sem d.sem f g))
def UsAt (X : Cx) (ca : CA) (N : List Str) : Us where
  f := FnAt X ca
  g := GlobOk X ca
  c := X.calm = true
  p := PassesOwn (model X.prog X.w) X.A X.env X.xe
  a := fun tb f => ∀ C ∈ tb, AttOk X.K (ca.f C) f
  k := KisAt X.K X.mg ca
  x := fun nm f => ExcK X.prog X.K X.mg (ca.f nm) nm f ∧ Room 0 X.A
  e := ExcAt X.K X.mg ca
  h := HoleAt X ca N
  r := fun r => ∀ X', Same X X' → RuAt X' ca N r
  i := fun r => ∀ X', Same X X' → RiAt X' ca N r
  s := fun r => ∀ X', Same X X' → RsAt X' ca N r
  q := fun r => ∀ X', Same X X' → RcAt X' ca N r

section
variable {X : Cx} {ca : CA} {Wx : WX} {N : List Str} {b : Bool}
theorem kd_eq {sc : Scope} {x : Str} {k : NameKind} (h : kd sc x k = true) : sc.names.lookup x = some k := of_decide_eq_true h
theorem vis_of {sc : Scope} {x : Str} (h : vis sc x = true) : Vis sc x := by
  simp only [vis, Bool.or_eq_true] at h
  rcases h with (h | h) | h
  · exact .inl (kd_eq h)
  · exact .inr (.inl (kd_eq h))
  · exact .inr (.inr (kd_eq h))
theorem stor_of (g : Good X ca Wx N b) {x : Str} (h : stor b X.env.scope x = true) : Loc X.env.scope x ∧ (X.fn x = true ∨ X.env.scope.names.lookup x = some .local) := by
  simp only [stor, Bool.or_eq_true, Bool.and_eq_true] at h
  rcases h with h | ⟨hb, h⟩
  · exact ⟨.inl (kd_eq h), .inr (kd_eq h)⟩
  · exact ⟨.inr (kd_eq h), .inl (g.fn hb x)⟩
theorem atN_of {i : Nat} {x : Str} (h : atN N i x = true) : N[i]? = some x := by
  unfold atN at h
  split at h
  · rename_i y e; rw [e, sq_eq h]
  · cases h
theorem dbg_of {x : Str} (h : dbg x = true) : (x == ("__debug__" : Str)) = false := by
  unfold dbg at h; simpa using h
theorem star_of {e : Expr} {es : List Expr} {env : PySem.Env} (h : notStar e = true) : starEach (e :: es) env = (false, eval e env) :: starEach es env := by
  cases e <;> first | rfl | cases h
theorem base_of {o : Expr} {x : Str} {env : PySem.Env} (h : plainBase o = true) : attributeBase o x env (eval o env) = eval o env := by
  cases o <;> first | rfl | cases h
theorem set_of {e : Expr} {env : PySem.Env} (h : notSet e = true) (x : Value) : foldedSetIterable e env x = pure x := by
  cases e <;> first | rfl | cases h
theorem beh_of {e : Expr} {op : CmpOp} (h : notSet e = true) : behindInMarks op e = false := by
  cases e <;> first | rfl | cases h
theorem ix_of {e : Expr} (h : notSlice e = true) : PlainIx e := by
  intro o i
  cases e <;> first | rfl | cases h
theorem args_plain {N : List Str} {sc : Scope} {env : PySem.Env} {pos : Pos} : ∀ {s : IE} {es : List Expr}, (s.chk N sc).a es = true → (backTo pos (starEach es env)).any (·.1) = false
  | .nil, es, h => by
    cases es with
    | nil => rfl
    | cons _ _ => cases h
  | .cons a s, es, h => by
    cases es with
    | nil => cases h
    | cons e es =>
      simp only [IE.chk, ckCons, Bool.and_eq_true] at h
      rw [star_of h.1.2]
      have := args_plain (pos := pos) (env := env) h.2
      simpa [backTo] using this
  | .var _, _, h => by cases h
  | .cst _, _, h => by cases h
  | .glb _ _, _, h => by cases h
  | .bin _ _ _, _, h => by cases h
  | .cmp _ _ _, _, h => by cases h
  | .isN _ _, _, h => by cases h
  | .isi _ _, _, h => by cases h
  | .neg _, _, h => by cases h
  | .op1 _ _, _, h => by cases h
  | .chn _ _ _ _ _, _, h => by cases h
  | .ix _ _, _, h => by cases h
  | .sl _ _ _, _, h => by cases h
  | .not _, _, h => by cases h
  | .and _ _, _, h => by cases h
  | .or _ _, _, h => by cases h
  | .and1 _, _, h => by cases h
  | .or1 _, _, h => by cases h
  | .ite _ _ _, _, h => by cases h
  | .lst _, _, h => by cases h
  | .tup _, _, h => by cases h
  | .call _ _, _, h => by cases h
  | .blt _ _, _, h => by cases h
  | .meth _ _ _, _, h => by cases h
  | .lc _ _ _ _ _, _, h => by cases h
  | .att _ _ _, _, h => by cases h
  | .xis _ _ _ _, _, h => by cases h
  | .hole _ _, _, h => by cases h
  | .ap _ _ _, _, h => by cases h
  | .iap _ _ _, _, h => by cases h
  | .apc _ _ _ _ _ _, _, h => by cases h
  | .ono, _, h => by cases h
  | .osm _, _, h => by cases h
  | .over _, _, h => by cases h
  | .rng _, _, h => by cases h
  | .yes, _, h => by cases h
theorem args_len {N : List Str} {sc : Scope} : ∀ {s : IE} {es : List Expr}, (s.chk N sc).a es = true → ∀ env S ws S', s.sem.a env S = .ok ws S' → ws.length = es.length := by
  intro s
  induction s with
  | nil =>
    intro es h env S ws S' e
    cases es with
    | nil => cases e; rfl
    | cons _ _ => cases h
  | cons a s _ ih =>
    intro es h env S ws S' e
    cases es with
    | nil => cases h
    | cons x es =>
      simp only [IE.chk, ckCons, Bool.and_eq_true] at h
      simp only [IE.sem, consS, M.bind, M.ret] at e
      split at e
      · split at e
        · rename_i hs
          cases e
          simp [ih h.2 _ _ _ _ hs]
        · cases e
        · cases e
      · cases e
      · cases e
  | _ => intro es h; cases h
theorem ckT_of {sc : Scope} (g : Good X ca Wx N b) (hc : X.calm = true) (hs : X.env.scope = sc) : ∀ {t : TGt} {e : Expr}, ckT N b sc t e = true → PG X e (gT X.K t)
  | .nm i, e, h => by
    subst hs
    cases e with
    | Name x p =>
      simp only [ckT, Bool.and_eq_true] at h
      obtain ⟨h1, h2⟩ := stor_of g h.2
      exact pg_name g.nd (by rw [g.N]; exact atN_of h.1) h1 h2
    | _ => cases h
  | .tp is, e, h => by
    subst hs
    cases e with
    | Tuple es k p =>
      have go : ∀ {is : List Nat} {es : List Expr}, ckT.go N b X.env.scope is es = true → PGs X es (gTs is) ∧ (assignEach es X.env).length = is.length ∧ (assignEach es X.env).findIdx? (·.1) = none := by
        intro is
        induction is with
        | nil =>
          intro es h
          cases es with
          | nil => exact ⟨pgs_nil, rfl, rfl⟩
          | cons _ _ => cases h
        | cons i is ih =>
          intro es h
          cases es with
          | nil => cases h
          | cons e es =>
            cases e with
            | Name x p =>
              simp only [ckT.go, Bool.and_eq_true] at h
              obtain ⟨h1, h2⟩ := stor_of g h.1.2
              obtain ⟨i1, i2, i3⟩ := ih h.2
              refine ⟨pgs_cons (pg_name g.nd (by rw [g.N]; exact atN_of h.1.1) h1 h2) i1 (by rfl), ?_, ?_⟩
              · show (_ :: assignEach es X.env).length = _
                simp [i2]
              · show (_ :: assignEach es X.env).findIdx? _ = none
                simp [List.findIdx?_cons, i3]
            | _ => cases h
      obtain ⟨z1, z2, z3⟩ := go (show ckT.go N b X.env.scope is es = true from h)
      exact pg_tup hc z1 z2 z3
    | _ => cases h
theorem blk_of {sc scope : Scope} {own : List (Str × Nat)} (h : blkB N sc scope own = true) : BlkOk N sc scope own := by
  unfold blkB at h
  simp only [Bool.and_eq_true, decide_eq_true_eq, List.all_eq_true] at h
  obtain ⟨⟨⟨⟨h1, h2⟩, h3⟩, h4⟩, h5⟩ := h
  refine ⟨h1, fun y hy => h2 y hy, fun p hp => h3 p hp, fun y hy e => ?_, fun y hy e => ?_⟩
  · have := h4 y hy
    rw [if_pos e, Bool.or_eq_true] at this
    exact this.imp kd_eq kd_eq
  · have := h5 y hy
    rw [if_pos e, Bool.or_eq_true] at this
    simpa using this
theorem cmp_bl {o : CO} {ds : List D} {r : RW} (h : cmpD o ds = some r) : ∃ k, r = .d (.bl k) := by
  cases o <;> simp only [cmpD] at h
  all_goals first
    | (unfold inD inN at h; obtain ⟨k, _, e⟩ := Option.bind_eq_some_iff.mp h; cases e; exact ⟨_, rfl⟩)
    | (unfold notinD inN at h; obtain ⟨k, _, e⟩ := Option.bind_eq_some_iff.mp h; cases e; exact ⟨_, rfl⟩)
    | (unfold eqD at h; split at h <;> first | (split at h <;> first | (cases h; exact ⟨_, rfl⟩) | cases h) | (cases h; exact ⟨_, rfl⟩) | cases h)
    | (unfold neD at h; split at h <;> first | (split at h <;> first | (cases h; exact ⟨_, rfl⟩) | cases h) | (cases h; exact ⟨_, rfl⟩) | cases h)
    | (unfold ltD at h; split at h <;> first | (cases h; exact ⟨_, rfl⟩) | cases h)
    | (unfold leD at h; split at h <;> first | (cases h; exact ⟨_, rfl⟩) | cases h)
    | (unfold gtD at h; split at h <;> first | (cases h; exact ⟨_, rfl⟩) | cases h)
    | (unfold geD at h; split at h <;> first | (cases h; exact ⟨_, rfl⟩) | cases h)
theorem bl_op {q : DPrim} {fa fb : ES} (h : ∀ ds r, q ds = some r → ∃ k, r = .d (.bl k)) : Bl (opS (liftD q) fa fb) := by
  intro env S a S' e
  unfold opS M.bind at e
  cases e1 : fa env S with
  | err x S1 => rw [e1] at e; cases e
  | stuck => rw [e1] at e; cases e
  | ok w S1 =>
    simp only [e1] at e
    cases e2 : fb env S1 with
    | err x S1 => rw [e2] at e; cases e
    | stuck => rw [e2] at e; cases e
    | ok u S2 =>
      simp only [e2] at e
      unfold liftP liftD at e
      cases e3 : viewAll S2 [w.toW, u.toW] with
      | none => simp only [e3] at e; cases e
      | some ds =>
        simp only [e3] at e
        cases e4 : q ds with
        | none => simp only [e4, Option.map_none] at e; cases e
        | some r =>
          simp only [e4, Option.map_some] at e
          cases e
          exact h _ _ e4
theorem snd_e {ir : IE} {f : ES} {k : Expr → Bool} (hs : ir.sem = sxE f) (h : ∀ ex, k ex = true → PE X ex (tE (GX X ca) Wx f)) (ht : ∀ ex, k ex = true → (∀ whole, isTrue ex X.env whole = (do let v ← whole; standAt ex.pos; holding [v] (truthy v))) ∧ ∀ o vs p, ex ≠ .BoolOp o vs p) :
    Snd X ca Wx ir (ckE k) := by
  refine ⟨fun ex he => by rw [hs]; exact h ex he, fun ex he => ⟨by rw [hs]; exact pt_tstS (h ex he) (ht ex he).1, fun ⟨o, vs, p, z⟩ => absurd z ((ht ex he).2 o vs p)⟩, fun _ h => (nomatch h), fun _ h => (nomatch h), fun _ _ h => (nomatch h), fun _ h => (nomatch h)⟩
end
end Dn

set_option Elab.async false
set_option linter.all false
set_option maxRecDepth 100000
set_option maxHeartbeats 8000000
/-! # Dn, part 16: the check of expressions is sound -/
namespace Dn
open PySem PySem.Spec L2
section
variable {ca : CA} {N : List Str}
theorem bop_inv {o : BoolOp} {ka kb : Expr → Bool} {ex : Expr} (h : ckBool o ka kb ex = true) : ∃ a b rest p, ex = .BoolOp o (a :: b :: rest) p ∧ ka a = true ∧ kb (.BoolOp o (b :: rest) p) = true := by
  unfold ckBool at h
  split at h
  · simp only [Bool.and_eq_true, decide_eq_true_eq] at h
    obtain ⟨⟨rfl, h1⟩, h2⟩ := h
    exact ⟨_, _, _, _, rfl, h1, h2⟩
  · cases h
theorem bop1_inv {o : BoolOp} {ka : Expr → Bool} {ex : Expr} (h : ckBool1 o ka ex = true) : ∃ a p, ex = .BoolOp o [a] p ∧ ka a = true := by
  unfold ckBool1 at h
  split at h
  · simp only [Bool.and_eq_true, decide_eq_true_eq] at h
    obtain ⟨rfl, h1⟩ := h
    exact ⟨_, _, rfl, h1⟩
  · cases h
theorem not_inv {ka : Expr → Bool} {ex : Expr} (h : ckNot ka ex = true) : ∃ a p, ex = .UnaryOp .Not a p ∧ ka a = true := by
  unfold ckNot at h
  split at h
  · exact ⟨_, _, rfl, h⟩
  · cases h
theorem one_inv {k : Expr → Bool} {es : List Expr} (h : ckOne k es = true) : ∃ e, es = [e] ∧ k e = true := by
  unfold ckOne at h
  split at h
  · exact ⟨_, rfl, h⟩
  · cases h
theorem cmp_inv {o : CO} {ka kb : Ck} {ex : Expr} (h : ckCmp o ka kb ex = true) : ∃ a b p, ex = .Compare a [o.op] [b] p ∧ ka.e a = true ∧ kb.e b = true ∧ notSet b = true := by
  unfold ckCmp at h
  split at h
  · simp only [Bool.and_eq_true, decide_eq_true_eq] at h
    obtain ⟨⟨⟨rfl, h1⟩, h2⟩, h3⟩ := h
    exact ⟨_, _, _, rfl, h1, h2, h3⟩
  · cases h
theorem isN_inv {ng : Bool} {ka : Ck} {ex : Expr} (h : ckIsN ng ka ex = true) : ∃ a j p p2, ex = .Compare a [if ng then .IsNot else .Is] [.Constant .none j p2] p ∧ ka.e a = true := by
  unfold ckIsN at h
  split at h
  · simp only [Bool.and_eq_true, decide_eq_true_eq] at h
    obtain ⟨rfl, h1⟩ := h
    exact ⟨_, _, _, _, rfl, h1⟩
  · cases h
theorem isi_inv {t : TyK} {sc : Scope} {ka : Ck} {ex : Expr} (h : ckIsi t sc ka ex = true) : ∃ a p q r, ex = .Call (.Name "isinstance" q) [a, .Name t.name r] [] p ∧ kd sc "isinstance" .globalImplicit = true ∧ kd sc t.name .globalImplicit = true ∧ ka.e a = true ∧ notStar a = true := by
  unfold ckIsi at h
  split at h
  · simp only [Bool.and_eq_true] at h
    obtain ⟨⟨⟨⟨⟨h1, h2⟩, h3⟩, h4⟩, h5⟩, h6⟩ := h
    cases sq_eq h1; cases sq_eq h2
    exact ⟨_, _, _, _, rfl, h3, h4, h5, h6⟩
  · cases h
theorem call_inv {nm : Str} {np : Nat} {sc : Scope} {k : Ck} {ex : Expr} (h : ckCall nm np sc k ex = true) : ∃ es p q, ex = .Call (.Name nm q) es [] p ∧ kd sc nm .globalImplicit = true ∧ dbg nm = true ∧ k.a es = true ∧ es.length = np := by
  unfold ckCall at h
  split at h
  · simp only [Bool.and_eq_true] at h
    obtain ⟨⟨⟨⟨h1, h2⟩, h3⟩, h4⟩, h5⟩ := h
    cases sq_eq h1
    exact ⟨_, _, _, rfl, h2, h3, h4, Nat.eq_of_beq_eq_true h5⟩
  · cases h
theorem blt_inv {nm : Str} {sc : Scope} {k : Ck} {ex : Expr} (h : ckBlt nm sc k ex = true) : ∃ e es p q, ex = .Call (.Name nm q) (e :: es) [] p ∧ kd sc nm .globalImplicit = true ∧ k.a (e :: es) = true := by
  unfold ckBlt at h
  split at h
  · simp only [Bool.and_eq_true] at h
    obtain ⟨⟨h1, h2⟩, h3⟩ := h
    cases sq_eq h1
    exact ⟨_, _, _, _, rfl, h2, h3⟩
  · cases h
theorem rng_inv {sc : Scope} {k : Ck} {ex : Expr} (h : ckRng sc k ex = true) : ∃ es p q, ex = .Call (.Name "range" q) es [] p ∧ kd sc "range" .globalImplicit = true ∧ k.a es = true ∧ (es.length = 1 ∨ es.length = 2) := by
  unfold ckRng at h
  split at h
  · simp only [Bool.and_eq_true, Bool.or_eq_true] at h
    obtain ⟨⟨⟨h1, h2⟩, h3⟩, h4⟩ := h
    cases sq_eq h1
    exact ⟨_, _, _, rfl, h2, h3, h4.imp Nat.eq_of_beq_eq_true Nat.eq_of_beq_eq_true⟩
  · cases h
theorem set_inv {f : Str} {sc : Scope} {ka : Expr → Bool} {ex : Expr} (h : ckSet f sc ka ex = true) : ∃ a p p2 q pos, ex = .Call (.Name f p) [.Call (.Name "set" p2) [a] [] q] [] pos ∧ kd sc f .globalImplicit = true ∧ kd sc "set" .globalImplicit = true ∧ ka a = true ∧ notStar a = true := by
  unfold ckSet at h
  split at h
  · simp only [Bool.and_eq_true] at h
    obtain ⟨⟨⟨⟨⟨h1, h2⟩, h3⟩, h4⟩, h5⟩, h6⟩ := h
    cases sq_eq h1; cases sq_eq h2
    exact ⟨_, _, _, _, _, rfl, h3, h4, h5, h6⟩
  · cases h
theorem chn_inv {o o' : CO} {ka kb kc : Ck} {ex : Expr} (h : ckChn o o' ka kb kc ex = true) : ∃ a b c p, ex = .Compare a [o.op, o'.op] [b, c] p ∧ ka.e a = true ∧ kb.e b = true ∧ kc.e c = true ∧ notSet b = true ∧ notSet c = true := by
  unfold ckChn at h
  split at h
  · simp only [Bool.and_eq_true, decide_eq_true_eq] at h
    obtain ⟨⟨⟨⟨⟨⟨rfl, rfl⟩, h1⟩, h2⟩, h3⟩, h4⟩, h5⟩ := h
    exact ⟨_, _, _, _, rfl, h1, h2, h3, h4, h5⟩
  · cases h
theorem snd_call {X : Cx} {Wx : WX} {ir : IE} {f : ES} {k : Expr → Bool} (hs : ir.sem = sxE f) (h : ∀ ex, k ex = true → PE X ex (tE (GX X ca) Wx f)) (ht : ∀ ex, k ex = true → (∀ whole, isTrue ex X.env whole = (do let v ← whole; standAt ex.pos; holding [v] (truthy v))) ∧ ∀ o vs p, ex ≠ .BoolOp o vs p) :
    Snd X ca Wx ir { e := k, t := k, f := ckOne k } := by
  have z := snd_e hs h ht
  refine ⟨z.e, z.t, z.a, z.o, z.i, fun es h2 => ?_⟩
  obtain ⟨x, rfl, h3⟩ := one_inv h2
  exact pts_one (z.t x h3).1
theorem snd_tst {X : Cx} {Wx : WX} {ir : IE} {f : ES} {k : Expr → Bool} (hs : ir.sem = sxE f) (h : ∀ ex, k ex = true → PE X ex (tE (GX X ca) Wx f) ∧ Tst X ca Wx ex f) : Snd X ca Wx ir { e := k, t := k, f := ckOne k } := by
  refine ⟨fun ex he => by rw [hs]; exact (h ex he).1, fun ex he => ⟨by rw [hs]; exact (h ex he).2.1, fun ⟨o, vs, p, z⟩ => absurd z ((h ex he).2.2 o vs p)⟩, fun _ h => (nomatch h), fun _ h => (nomatch h), fun _ _ h => (nomatch h), fun es h2 => ?_⟩
  obtain ⟨x, rfl, h3⟩ := one_inv h2
  exact pts_one (by rw [hs]; exact (h x h3).2.1)
theorem args_star {sc : Scope} {env : PySem.Env} {s : IE} {e : Expr} {es : List Expr} (h : (s.chk N sc).a (e :: es) = true) :
    notStar e = true ∧ ∀ pos, (backTo pos (starEach es env)).any (·.1) = false := by
  cases s <;> first | (simp only [IE.chk, ckCons, Bool.and_eq_true] at h; exact ⟨h.1.2, fun pos => args_plain h.2⟩) | (exact (nomatch h))
theorem bp_in (p : BP) : p.name ∈ bNames := by cases p <;> simp [BP.name, bNames]
theorem ty_in (p : TyK) : p.name ∈ bNames := by cases p <;> simp [TyK.name, bNames]
theorem cst_ok {X : Cx} {Wx : WX} {d : D} {c : Const} {j : Nat} {p : Pos} (h : ckC d c = true) : PE X (.Constant c j p) (tE (GX X ca) Wx (cstS d)) := by
  unfold ckC at h
  split at h
  · exact tE_c (fun F => rep_non) pe_non
  · cases eq_of_beq h; exact tE_c (fun F => rep_bl _) pe_bl
  · cases of_decide_eq_true h; exact tE_c (fun F => rep_int _) pe_int
  · rw [Bool.and_eq_true] at h
    cases sq_eq h.1
    exact tE_c (fun F => rep_str (okS_of h.2)) pe_str
  · cases h
theorem few_of {sc : Scope} {env : PySem.Env} {s : IE} {e : Expr} {es : List Expr} {pos : Pos} (h : (s.chk N sc).a (e :: es) = true) (hl : es.length < 20) :
    ((backTo pos (starEach (e :: es) env)).all (fun x => !x.1) && (backToKw pos (keywordEach [] env)).all (fun x => x.1.isSome) && decide ((e :: es).length + ([] : List Keyword).length + (if ([] : List Keyword).isEmpty then 0 else 1) < 30)) = true := by
  have h1 : (backTo pos (starEach (e :: es) env)).any (·.1) = false := args_plain h
  have h2 : (backTo pos (starEach (e :: es) env)).all (fun x => !x.1) = true := by
    rw [List.any_eq_false] at h1
    rw [List.all_eq_true]
    intro x hx
    simpa using h1 x hx
  rw [h2]
  simp [backToKw, keywordEach]
  omega
theorem yes_ok {X : Cx} {Wx : WX} {σ : L2.St} {H : Hp} {Q : Bool → Hp → Prop} (h : tB (GX X ca) Wx yesS σ H Q) : tYes σ H Q := by
  obtain ⟨ω, env, ok, er, p⟩ := h
  exact p ω H true rfl (Le.refl _ _ ok) ok rfl
theorem ptsImp {X : Cx} {es : List Expr} {t t' : TT} (h : PTs X es t) (hi : ∀ σ H Q, t' σ H Q → t σ H Q) : PTs X es t' := ⟨fun pins s σ H Q I hw => h.run pins s σ H Q I (hi σ H Q hw)⟩
theorem good_blk {X : Cx} {Wx : WX} {b : Bool} {s : Shared} {H : Hp} {scope : Scope} {C : Addr} {cl : List (Str × Addr)} {fp : List Addr} (hc : X.calm = true) (g : Good X ca Wx N b) : Good (X.blk s H scope (compEnvC scope cl C X.env) fp) ca W0 N false where
  N := g.N
  nd := g.nd
  un := g.un
  tk := fun u s' ⟨a, B, sI, pins, σ, H, cls, d, e, I, nb, up, sky, na, os, ag, w⟩ => w.elim
  fn := fun h => nomatch h
  blt := g.blt
  xo := fun a cls d h => by rw [g.cx hc] at h; cases h
  cx := g.cx
  st := fun h => nomatch h
theorem blk_us {X : Cx} {s : Shared} {H : Hp} {scope : Scope} {C : Addr} {cl : List (Str × Addr)} {fp : List Addr} {ir : IE} (h : ir.uses (UsAt X ca N)) : ir.uses (UsAt (X.blk s H scope (compEnvC scope cl C X.env) fp) ca N) := by
  refine IE.uses_mono ?_ h
  exact ⟨fun _ h => h, fun _ _ h => h, fun h => h, fun _ => PassesOwn.never, fun _ _ h => h, fun _ _ _ h => h, fun _ _ h => h, fun _ _ h => h, fun k f h X' Wx' b' sm => h X' Wx' b' ⟨sm.prog, sm.w, sm.K, sm.mg, sm.base, sm.A, sm.calm⟩,
    fun r h X' sm => h X' ⟨sm.prog, sm.w, sm.K, sm.mg, sm.base, sm.A, sm.calm⟩, fun r h X' sm => h X' ⟨sm.prog, sm.w, sm.K, sm.mg, sm.base, sm.A, sm.calm⟩, fun r h X' sm => h X' ⟨sm.prog, sm.w, sm.K, sm.mg, sm.base, sm.A, sm.calm⟩, fun r h X' sm => h X' ⟨sm.prog, sm.w, sm.K, sm.mg, sm.base, sm.A, sm.calm⟩⟩
theorem names_ok {X : Cx} : ∀ {cs : List KL} {es : List Expr}, (∀ c ∈ cs, KLOk X.mg ca c) → ckNames X.env.scope cs es = true → PA X es (fun σ H Q => Q (cs.map (KL.v ca)) H)
  | [], [], _, _ => pa_nil
  | c :: cs, .Name x p :: es, hk, h => by
    simp only [ckNames, Bool.and_eq_true] at h
    obtain ⟨⟨⟨h1, h2⟩, h3⟩, h4⟩ := h
    exact pa_cons (pe_kl (sq_eq h1) (hk c (by simp)) (kd_eq h2) (dbg_of h3)) (names_ok (fun c hc => hk c (by simp [hc])) h4) (by rfl)
  | [], _ :: _, _, h => by cases h
  | c :: cs, [], _, h => by cases h
  | c :: cs, e :: es, hk, h => by
    cases e with
    | Name x p =>
      simp only [ckNames, Bool.and_eq_true] at h
      obtain ⟨⟨⟨h1, h2⟩, h3⟩, h4⟩ := h
      exact pa_cons (pe_kl (sq_eq h1) (hk c (by simp)) (kd_eq h2) (dbg_of h3)) (names_ok (fun c hc => hk c (by simp [hc])) h4) (by rfl)
    | _ => cases h
theorem xis_inv {one : Bool} {cs : List KL} {sc : Scope} {ka : Ck} {ex : Expr} (h : ckXis one cs sc ka ex = true) : ∃ a b p q, ex = .Call (.Name "isinstance" q) [a, b] [] p ∧ kd sc "isinstance" .globalImplicit = true ∧ ka.e a = true ∧ notStar a = true ∧
    ((one = true ∧ ∃ x p2, b = .Name x p2 ∧ ckNames sc cs [.Name x p2] = true) ∨ (one = false ∧ ∃ es j p2, b = .Tuple es j p2 ∧ ckNames sc cs es = true ∧ cs.length ≤ 1000)) := by
  unfold ckXis at h
  split at h
  · simp only [Bool.and_eq_true] at h
    obtain ⟨⟨⟨⟨h1, h2⟩, h3⟩, h4⟩, h5⟩ := h
    cases sq_eq h1
    refine ⟨_, _, _, _, rfl, h2, h3, h4, ?_⟩
    split at h5
    · exact .inl ⟨rfl, _, _, rfl, h5⟩
    · simp only [Bool.and_eq_true, decide_eq_true_eq] at h5
      exact .inr ⟨rfl, _, _, _, rfl, h5.1, h5.2⟩
    · cases h5
  · cases h
theorem snd (ir : IE) : ∀ {X : Cx} {Wx : WX} {b : Bool}, Good X ca Wx N b → ir.uses (UsAt X ca N) → Snd X ca Wx ir (ir.chk N X.env.scope) := by
  induction ir with
  | var i =>
    intro X Wx b g hu
    refine snd_e rfl (fun ex h => ?_) fun ex h => ?_ <;> (unfold ckVar at h; split at h)
    · simp only [Bool.and_eq_true] at h
      obtain ⟨⟨⟨h1, h2⟩, h3⟩, h4⟩ := h
      exact pe_varS (by rw [g.N]; exact atN_of h1) (vis_of h2) (dbg_of h3) (by simpa using h4)
    · cases h
    · exact ⟨fun _ => rfl, fun _ _ _ z => nomatch z⟩
    · cases h
  | cst d =>
    intro X Wx b g hu
    refine snd_e rfl (fun ex h => ?_) fun ex h => ?_ <;> (unfold ckCst at h; split at h)
    · exact cst_ok h
    · cases h
    · exact ⟨fun _ => rfl, fun _ _ _ z => nomatch z⟩
    · cases h
  | glb x d =>
    intro X Wx b g hu
    refine snd_e rfl (fun ex h => ?_) fun ex h => ?_ <;> (unfold ckGlb at h; split at h)
    · simp only [Bool.and_eq_true] at h
      obtain ⟨⟨h1, h2⟩, h3⟩ := h
      cases sq_eq h1
      obtain ⟨v, u, e1, e2, e3⟩ := hu
      exact tE_c e3 (pe_glob (kd_eq h2) e1 e2 (dbg_of h3))
    · cases h
    · exact ⟨fun _ => rfl, fun _ _ _ z => nomatch z⟩
    · cases h
  | bin o a c iha ihc =>
    intro X Wx b g hu
    refine snd_e rfl (fun ex h => ?_) fun ex h => ?_ <;> (unfold ckBin at h; split at h)
    · simp only [Bool.and_eq_true, decide_eq_true_eq] at h
      obtain ⟨⟨rfl, h1⟩, h2⟩ := h
      exact pe_opS (op_bop o) ((iha g hu.1).e _ h1) ((ihc g hu.2).e _ h2)
    · cases h
    · exact ⟨fun _ => rfl, fun _ _ _ z => nomatch z⟩
    · cases h
  | cmp o a c iha ihc =>
    intro X Wx b g hu
    have hp : ∀ ex, ckCmp o (a.chk N X.env.scope) (c.chk N X.env.scope) ex = true → PT X ex (tB (GX X ca) Wx (IE.cmp o a c).sem.t) := fun ex h => by
      obtain ⟨x, y, p, rfl, h1, h2, h3⟩ := cmp_inv h
      exact pt_cmpS (op_cmp g.un o) ((iha g hu.1).e _ h1) ((ihc g hu.2).e _ h2) (beh_of h3) (bl_op fun ds r => cmp_bl)
    refine ⟨fun ex h => ?_, fun ex h => ⟨hp ex h, fun ⟨o', vs, p', z⟩ => ?_⟩, fun _ h => (nomatch h), fun _ h => (nomatch h), fun _ _ h => (nomatch h), fun es h => ?_⟩
    · obtain ⟨x, y, p, rfl, h1, h2, h3⟩ := cmp_inv h
      exact pe_cmpS (op_cmp g.un o) ((iha g hu.1).e _ h1) ((ihc g hu.2).e _ h2) (beh_of h3)
    · obtain ⟨x, y, p, rfl, h1, h2, h3⟩ := cmp_inv h
      cases z
    · obtain ⟨x, rfl, h⟩ := one_inv h
      exact pts_one (hp _ h)
  | isN ng a iha =>
    intro X Wx b g hu
    have hp : ∀ ex, ckIsN ng (a.chk N X.env.scope) ex = true → PT X ex (tB (GX X ca) Wx (IE.isN ng a).sem.t) := fun ex h => by
      obtain ⟨x, j, p, p2, rfl, h1⟩ := isN_inv h
      cases ng
      · exact pt_isNS ((iha g hu).e _ h1)
      · exact pt_notNS ((iha g hu).e _ h1)
    refine ⟨fun ex h => ?_, fun ex h => ⟨hp ex h, fun ⟨o', vs, p', z⟩ => ?_⟩, fun _ h => (nomatch h), fun _ h => (nomatch h), fun _ _ h => (nomatch h), fun es h => ?_⟩
    · obtain ⟨x, j, p, p2, rfl, h1⟩ := isN_inv h
      cases ng
      · exact pe_isNS ((iha g hu).e _ h1)
      · exact pe_notNS ((iha g hu).e _ h1)
    · obtain ⟨x, j, p, p2, rfl, h1⟩ := isN_inv h
      cases z
    · obtain ⟨x, rfl, h⟩ := one_inv h
      exact pts_one (hp _ h)
  | isi t a iha =>
    intro X Wx b g hu
    have hp : ∀ ex, ckIsi t X.env.scope (a.chk N X.env.scope) ex = true → PE X ex (tE (GX X ca) Wx (isiS t a.sem.e)) := fun ex h => by
      obtain ⟨x, p, q, r, rfl, h1, h2, h3, h4⟩ := isi_inv h
      exact pe_isiS (kd_eq h1) (g.blt _ (by simp [bNames])) (kd_eq h2) (g.blt _ (ty_in t)) ((iha g hu).e _ h3) (star_of h4)
    have ht : ∀ ex, ckIsi t X.env.scope (a.chk N X.env.scope) ex = true → PT X ex (tB (GX X ca) Wx (tstS (isiS t a.sem.e))) := fun ex h => by
      have z := hp ex h
      obtain ⟨x, p, q, r, rfl, h1, h2, h3, h4⟩ := isi_inv h
      exact pt_tstS z (fun _ => rfl)
    refine ⟨hp, fun ex h => ⟨ht ex h, fun ⟨o', vs, p', z⟩ => ?_⟩, fun _ h => (nomatch h), fun _ h => (nomatch h), fun _ _ h => (nomatch h), fun es h => ?_⟩
    · obtain ⟨x, p, q, r, rfl, h1, h2, h3, h4⟩ := isi_inv h
      cases z
    · obtain ⟨x, rfl, h⟩ := one_inv h
      exact pts_one (ht _ h)
  | neg a iha =>
    intro X Wx b g hu
    refine snd_e rfl (fun ex h => ?_) fun ex h => ?_ <;> (unfold ckNeg at h; split at h)
    · exact pe_negS ((iha g hu).e _ h)
    · cases h
    · exact ⟨fun _ => rfl, fun _ _ _ z => nomatch z⟩
    · cases h
  | op1 o a iha =>
    intro X Wx b g hu
    cases o with
    | srset =>
      refine snd_call rfl (fun ex h => ?_) fun ex h => ?_
      · obtain ⟨a, p, p2, q, pos, rfl, h1, h2, h3, h4⟩ := set_inv h
        exact pe_srsetS hu.1 (kd_eq h1) (g.blt _ (by simp [bNames])) (kd_eq h2) (g.blt _ (by simp [bNames])) ((iha g hu.2).e _ h3) (star_of h4)
      · obtain ⟨a, p, p2, q, pos, rfl, h1, h2, h3, h4⟩ := set_inv h
        exact ⟨fun _ => rfl, fun _ _ _ z => nomatch z⟩
    | lnset =>
      refine snd_call rfl (fun ex h => ?_) fun ex h => ?_
      · obtain ⟨a, p, p2, q, pos, rfl, h1, h2, h3, h4⟩ := set_inv h
        exact pe_lnsetS hu.1 (kd_eq h1) (g.blt _ (by simp [bNames])) (kd_eq h2) (g.blt _ (by simp [bNames])) ((iha g hu.2).e _ h3) (star_of h4)
      · obtain ⟨a, p, p2, q, pos, rfl, h1, h2, h3, h4⟩ := set_inv h
        exact ⟨fun _ => rfl, fun _ _ _ z => nomatch z⟩
  | chn o o' a c d iha ihc ihd =>
    intro X Wx b g hu
    have hp : ∀ ex, ckChn o o' (a.chk N X.env.scope) (c.chk N X.env.scope) (d.chk N X.env.scope) ex = true → PT X ex (tB (GX X ca) Wx (IE.chn o o' a c d).sem.t) := fun ex h => by
      obtain ⟨x, y, z, p, rfl, h1, h2, h3, h4, h5⟩ := chn_inv h
      exact pt_chnS (op_cmp g.un o) (op_cmp g.un o') ((iha g hu.1).e _ h1) ((ihc g hu.2.1).e _ h2) ((ihd g hu.2.2).e _ h3) (beh_of h5) (bl_chn fun ds r => cmp_bl)
    refine ⟨fun ex h => ?_, fun ex h => ⟨hp ex h, fun ⟨o', vs, p', z⟩ => ?_⟩, fun _ h => (nomatch h), fun _ h => (nomatch h), fun _ _ h => (nomatch h), fun es h => ?_⟩
    · obtain ⟨x, y, z, p, rfl, h1, h2, h3, h4, h5⟩ := chn_inv h
      exact pe_chnS (op_cmp g.un o) (op_cmp g.un o') ((iha g hu.1).e _ h1) ((ihc g hu.2.1).e _ h2) ((ihd g hu.2.2).e _ h3) (beh_of h5)
    · obtain ⟨x, y, z2, p, rfl, h1, h2, h3, h4, h5⟩ := chn_inv h
      cases z
    · obtain ⟨x, rfl, h⟩ := one_inv h
      exact pts_one (hp _ h)
  | ix a c iha ihc =>
    intro X Wx b g hu
    refine snd_e rfl (fun ex h => ?_) fun ex h => ?_ <;> (unfold ckIx at h; split at h)
    · simp only [Bool.and_eq_true] at h
      exact pe_ixS ((iha g hu.1).e _ h.1.1) ((ihc g hu.2).e _ h.1.2) (ix_of h.2)
    · cases h
    · exact ⟨fun _ => rfl, fun _ _ _ z => nomatch z⟩
    · cases h
  | sl a lo hi iha ihl ihh =>
    intro X Wx b g hu
    refine snd_e rfl (fun ex h => ?_) fun ex h => ?_ <;> (unfold ckSl at h; split at h)
    · simp only [Bool.and_eq_true] at h
      exact pe_slS ((iha g hu.1).e _ h.1.1) ((ihl g hu.2.1).o _ h.1.2) ((ihh g hu.2.2).o _ h.2)
    · cases h
    · exact ⟨fun _ => rfl, fun _ _ _ z => nomatch z⟩
    · cases h
  | not a iha =>
    intro X Wx b g hu
    have hp : ∀ ex, ckNot (a.chk N X.env.scope).t ex = true → PT X ex (tB (GX X ca) Wx (IE.not a).sem.t) := fun ex h => by
      obtain ⟨x, p, rfl, h1⟩ := not_inv h
      exact pt_notS ((iha g hu).t _ h1).1
    refine ⟨fun ex h => ?_, fun ex h => ⟨hp ex h, fun ⟨o', vs, p', z⟩ => ?_⟩, fun _ h => (nomatch h), fun _ h => (nomatch h), fun _ _ h => (nomatch h), fun es h => ?_⟩
    · obtain ⟨x, p, rfl, h1⟩ := not_inv h
      exact pe_notVS ((iha g hu).e _ h1)
    · obtain ⟨x, p, rfl, h1⟩ := not_inv h
      cases z
    · obtain ⟨x, rfl, h⟩ := one_inv h
      exact pts_one (hp _ h)
  | and a c iha ihc =>
    intro X Wx b g hu
    have hp : ∀ ex, ckBool .And (a.chk N X.env.scope).t (c.chk N X.env.scope).t ex = true → PW X ex (tB (GX X ca) Wx (IE.and a c).sem.t) := fun ex h => by
      obtain ⟨x, y, r, p, rfl, h1, h2⟩ := bop_inv h
      exact pw_andS ((iha g hu.1).t _ h1).1 (((ihc g hu.2).t _ h2).2 ⟨_, _, _, rfl⟩)
    refine ⟨fun ex h => ?_, fun ex h => ⟨(hp ex h).pt, fun _ => hp ex h⟩, fun _ h => (nomatch h), fun _ h => (nomatch h), fun _ _ h => (nomatch h), fun es h => ?_⟩
    · obtain ⟨x, y, r, p, rfl, h1, h2⟩ := bop_inv h
      exact pe_andVS ((iha g hu.1).e _ h1) ((ihc g hu.2).e _ h2)
    · obtain ⟨x, rfl, h⟩ := one_inv h
      exact pts_one (hp _ h).pt
  | or a c iha ihc =>
    intro X Wx b g hu
    have hp : ∀ ex, ckBool .Or (a.chk N X.env.scope).t (c.chk N X.env.scope).t ex = true → PW X ex (tB (GX X ca) Wx (IE.or a c).sem.t) := fun ex h => by
      obtain ⟨x, y, r, p, rfl, h1, h2⟩ := bop_inv h
      exact pw_orS ((iha g hu.1).t _ h1).1 (((ihc g hu.2).t _ h2).2 ⟨_, _, _, rfl⟩)
    refine ⟨fun ex h => ?_, fun ex h => ⟨(hp ex h).pt, fun _ => hp ex h⟩, fun _ h => (nomatch h), fun _ h => (nomatch h), fun _ _ h => (nomatch h), fun es h => ?_⟩
    · obtain ⟨x, y, r, p, rfl, h1, h2⟩ := bop_inv h
      exact pe_orVS ((iha g hu.1).e _ h1) ((ihc g hu.2).e _ h2)
    · obtain ⟨x, rfl, h⟩ := one_inv h
      exact pts_one (hp _ h).pt
  | and1 a iha =>
    intro X Wx b g hu
    have hp : ∀ ex, ckBool1 .And (a.chk N X.env.scope).t ex = true → PW X ex (tB (GX X ca) Wx (IE.and1 a).sem.t) := fun ex h => by
      obtain ⟨x, p, rfl, h1⟩ := bop1_inv h
      exact pw_and1 ((iha g hu).t _ h1).1
    refine ⟨fun ex h => ?_, fun ex h => ⟨(hp ex h).pt, fun _ => hp ex h⟩, fun _ h => (nomatch h), fun _ h => (nomatch h), fun _ _ h => (nomatch h), fun es h => (nomatch h)⟩
    obtain ⟨x, p, rfl, h1⟩ := bop1_inv h
    exact pe_one ((iha g hu).e _ h1)
  | or1 a iha =>
    intro X Wx b g hu
    have hp : ∀ ex, ckBool1 .Or (a.chk N X.env.scope).t ex = true → PW X ex (tB (GX X ca) Wx (IE.or1 a).sem.t) := fun ex h => by
      obtain ⟨x, p, rfl, h1⟩ := bop1_inv h
      exact pw_or1 ((iha g hu).t _ h1).1
    refine ⟨fun ex h => ?_, fun ex h => ⟨(hp ex h).pt, fun _ => hp ex h⟩, fun _ h => (nomatch h), fun _ h => (nomatch h), fun _ _ h => (nomatch h), fun es h => (nomatch h)⟩
    obtain ⟨x, p, rfl, h1⟩ := bop1_inv h
    exact pe_one ((iha g hu).e _ h1)
  | ite c x y ihc ihx ihy =>
    intro X Wx b g hu
    refine ⟨fun ex h => ?_, fun ex h => (nomatch h), fun _ h => (nomatch h), fun _ h => (nomatch h), fun _ _ h => (nomatch h), fun es h => (nomatch h)⟩
    simp only [IE.chk] at h
    unfold ckIte at h
    split at h
    · simp only [Bool.and_eq_true] at h
      exact pe_iteS ((ihc g hu.1).t _ h.1.1).1 ((ihx g hu.2.1).e _ h.1.2) ((ihy g hu.2.2).e _ h.2)
    · cases h
  | lst s ihs =>
    intro X Wx b g hu
    refine snd_e rfl (fun ex h => ?_) fun ex h => ?_ <;> (unfold ckLst at h; split at h)
    · simp only [Bool.and_eq_true, decide_eq_true_eq] at h
      exact pe_lstS h.2 (args_len h.1) ((ihs g hu).a _ h.1)
    · cases h
    · exact ⟨fun _ => rfl, fun _ _ _ z => nomatch z⟩
    · cases h
  | tup s ihs =>
    intro X Wx b g hu
    refine snd_e rfl (fun ex h => ?_) fun ex h => ?_ <;> (unfold ckTup at h; split at h)
    · simp only [Bool.and_eq_true, decide_eq_true_eq] at h
      exact pe_tupS h.2 (args_len h.1) ((ihs g hu).a _ h.1)
    · cases h
    · exact ⟨fun _ => rfl, fun _ _ _ z => nomatch z⟩
    · cases h
  | call f s ihs =>
    intro X Wx b g hu
    have hp : ∀ ex, ckCall f.name f.np X.env.scope (s.chk N X.env.scope) ex = true → PE X ex (tE (GX X ca) Wx (callF f.sem s.sem.a)) := fun ex h => by
      obtain ⟨es, p, q, rfl, h1, h2, h3, h4⟩ := call_inv h
      have hl := args_len h3
      cases es with
      | nil =>
        have e0 : s.sem.a = nilS := by cases s <;> first | rfl | (exact (nomatch h3))
        rw [e0]
        exact pe_callF0S hu.1.1 hu.1.2 (kd_eq h1) g.tk h4.symm (dbg_of h2)
      | cons e es =>
        obtain ⟨z1, z2⟩ := args_star (env := X.env) h3
        exact pe_callFS hu.1.1 hu.1.2 (kd_eq h1) g.tk ((ihs g hu.2).a _ h3) (fun env S ws S' z => by rw [hl _ _ _ _ z, h4]) (dbg_of h2) (star_of z1) (z2 _)
    have ht : ∀ ex, ckCall f.name f.np X.env.scope (s.chk N X.env.scope) ex = true → PT X ex (tB (GX X ca) Wx (tstS (callF f.sem s.sem.a))) := fun ex h => by
      have z := hp ex h
      obtain ⟨es, p, q, rfl, h1, h2, h3, h4⟩ := call_inv h
      exact pt_tstS z (fun _ => rfl)
    refine ⟨hp, fun ex h => ⟨ht ex h, fun ⟨o', vs, p', z⟩ => ?_⟩, fun _ h => (nomatch h), fun _ h => (nomatch h), fun _ _ h => (nomatch h), fun es h => ?_⟩
    · obtain ⟨es, p, q, rfl, h1, h2, h3, h4⟩ := call_inv h
      cases z
    · obtain ⟨x, rfl, h⟩ := one_inv h
      exact pts_one (ht _ h)
  | blt f s ihs =>
    intro X Wx b g hu
    have hp : ∀ ex, ckBlt f.name X.env.scope (s.chk N X.env.scope) ex = true → PE X ex (tE (GX X ca) Wx (callS (liftP (liftD (bpD f))) s.sem.a)) := fun ex h => by
      obtain ⟨e, es, p, q, rfl, h1, h3⟩ := blt_inv h
      obtain ⟨z1, z2⟩ := args_star (env := X.env) h3
      exact pe_callBS hu.1 (kd_eq h1) (g.blt _ (bp_in f)) ((ihs g hu.2).a _ h3) (star_of z1) (z2 _)
    have ht : ∀ ex, ckBlt f.name X.env.scope (s.chk N X.env.scope) ex = true → PT X ex (tB (GX X ca) Wx (tstS (callS (liftP (liftD (bpD f))) s.sem.a))) := fun ex h => by
      have z := hp ex h
      obtain ⟨e, es, p, q, rfl, h1, h3⟩ := blt_inv h
      exact pt_tstS z (fun _ => rfl)
    refine ⟨hp, fun ex h => ⟨ht ex h, fun ⟨o', vs, p', z⟩ => ?_⟩, fun _ h => (nomatch h), fun _ h => (nomatch h), fun _ _ h => (nomatch h), fun es h => ?_⟩
    · obtain ⟨e, es, p, q, rfl, h1, h3⟩ := blt_inv h
      cases z
    · obtain ⟨x, rfl, h⟩ := one_inv h
      exact pts_one (ht _ h)
  | meth m o s iho ihs =>
    intro X Wx b g hu
    refine snd_e rfl (fun ex h => ?_) fun ex h => ?_ <;> (unfold ckMeth at h; split at h)
    · simp only [Bool.and_eq_true, decide_eq_true_eq] at h
      obtain ⟨⟨⟨⟨⟨h1, h2⟩, h3⟩, h4⟩, h5⟩, h6⟩ := h
      cases sq_eq h1
      obtain ⟨z1, z2⟩ := args_star (env := X.env) h4
      exact pe_methS ((iho g hu.1).e _ h2) ((ihs g hu.2).a _ h4) (base_of h3) (few_of h4 h5) h6 (star_of z1) (z2 _)
    · cases h
    · exact ⟨fun _ => rfl, fun _ _ _ z => nomatch z⟩
    · cases h
  | lc own t it tst elt ihi iht ihe =>
    intro X Wx b g hu
    refine snd_e rfl (fun ex h => ?_) fun ex h => ?_ <;> (unfold ckLc at h; split at h)
    · simp only [Bool.and_eq_true] at h
      obtain ⟨⟨⟨⟨⟨⟨h1, h2⟩, h3⟩, h4⟩, h5⟩, h6⟩, h7⟩ := h
      have hbk := blk_of h3
      refine peImp (pe_lc (own := own) hu.1 g.nd ((ihi g hu.2.1).i _ _ h1) (by rw [g.N]; exact hbk) (g := gT X.K t) (tt := tB (GX X ca) W0 tst.sem.t) (te := tE (GX X ca) W0 elt.sem.e) (fun s H C cl fp => ckT_of (good_blk hu.1 g) hu.1 rfl h4)
        (fun s H C cl fp => (iht (good_blk hu.1 g) (blk_us hu.2.2.1)).f _ h6) (fun s H C cl fp => (ihe (good_blk hu.1 g) (blk_us hu.2.2.2)).e _ h7) (set_of h2)) fun σ H Q hw => lcS_ok (fun i hi => ?_) hw
      have := List.all_eq_true.mp h5 i hi
      exact List.contains_iff_mem.mp this
    · cases h
    · exact ⟨fun _ => rfl, fun _ _ _ z => nomatch z⟩
    · cases h
  | att tb f a iha =>
    intro X Wx b g hu
    refine snd_e rfl (fun ex h => ?_) fun ex h => ?_ <;> (unfold ckAtt at h; split at h)
    · simp only [Bool.and_eq_true] at h
      obtain ⟨⟨h1, h2⟩, h3⟩ := h
      cases sq_eq h1
      exact pe_attX hu.1 g.xo ((iha g hu.2).e _ h2) (base_of h3)
    · cases h
    · exact ⟨fun _ => rfl, fun _ _ _ z => nomatch z⟩
    · cases h
  | xis one cs tb a iha =>
    intro X Wx b g hu
    have hp : ∀ ex, ckXis one cs X.env.scope (a.chk N X.env.scope) ex = true → PE X ex (tE (GX X ca) Wx (xisS tb a.sem.e)) := fun ex h => by
      obtain ⟨x, y, p, q, rfl, h1, h2, h3, h4⟩ := xis_inv h
      obtain ⟨k1, k2⟩ := hu.1
      rcases h4 with ⟨rfl, nm, p2, rfl, h5⟩ | ⟨rfl, es, j, p2, rfl, h5, h6⟩
      · match cs, k1, k2, h5 with
        | [c], k1, k2, h5 =>
          simp only [ckNames, Bool.and_eq_true] at h5
          exact pe_xis1 k2 (k1 c (by simp)) g.xo ((iha g hu.2).e _ h2) (sq_eq h5.1.1.1) (kd_eq h1) (g.blt _ (by simp [bNames])) (kd_eq h5.1.1.2) (dbg_of h5.1.2) (star_of h3)
        | [], _, _, h5 => simp [ckNames] at h5
        | _ :: _ :: _, _, _, h5 => simp [ckNames] at h5
      · exact pe_xisT k2 g.xo ((iha g hu.2).e _ h2) (names_ok k1 h5) h6 (kd_eq h1) (g.blt _ (by simp [bNames])) (star_of h3)
    have ht : ∀ ex, ckXis one cs X.env.scope (a.chk N X.env.scope) ex = true → PT X ex (tB (GX X ca) Wx (tstS (xisS tb a.sem.e))) := fun ex h => by
      have z := hp ex h
      obtain ⟨x, y, p, q, rfl, _⟩ := xis_inv h
      exact pt_tstS z (fun _ => rfl)
    refine ⟨hp, fun ex h => ⟨ht ex h, fun ⟨o', vs, p', z⟩ => ?_⟩, fun _ h => (nomatch h), fun _ h => (nomatch h), fun _ _ h => (nomatch h), fun es h => ?_⟩
    · obtain ⟨x, y, p, q, rfl, _⟩ := xis_inv h
      cases z
    · obtain ⟨x, rfl, h⟩ := one_inv h
      exact pts_one (ht _ h)
  | hole k f =>
    intro X Wx b g hu
    have z := fun ex h => hu X Wx b ⟨rfl, rfl, rfl, rfl, rfl, rfl, rfl⟩ g ex h
    exact snd_e rfl (fun ex h => (z ex h).1) fun ex h => (z ex h).2
  | ap r a c iha ihc =>
    intro X Wx b g hu
    have z := hu.1 X ⟨rfl, rfl, rfl, rfl, rfl, rfl, rfl⟩ Wx b g a c (iha g hu.2.1) (ihc g hu.2.2)
    exact snd_tst rfl z
  | iap r a c iha ihc =>
    intro X Wx b g hu
    have z := hu.1 X ⟨rfl, rfl, rfl, rfl, rfl, rfl, rfl⟩ Wx b g a c (iha g hu.2.1) (ihc g hu.2.2)
    exact ⟨fun ex h => (nomatch h), fun ex h => (nomatch h), fun es h => (nomatch h), fun e h => (nomatch h), fun tg e h => z tg e h, fun es h => (nomatch h)⟩
  | apc r a c d e f iha ihc ihd ihe ihf =>
    intro X Wx b g hu
    have z := hu.1.2 X ⟨rfl, rfl, rfl, rfl, rfl, rfl, rfl⟩ Wx b g hu.1.1 a c d e f (iha g hu.2.1) (fun s H scope C cl fp => ⟨good_blk hu.1.1 g, ihc (good_blk hu.1.1 g) (blk_us hu.2.2.1)⟩) (fun s H scope C cl fp => ⟨good_blk hu.1.1 g, ihd (good_blk hu.1.1 g) (blk_us hu.2.2.2.1)⟩)
      (fun s H scope C cl fp => ⟨good_blk hu.1.1 g, ihe (good_blk hu.1.1 g) (blk_us hu.2.2.2.2.1)⟩) (fun s H scope C cl fp => ⟨good_blk hu.1.1 g, ihf (good_blk hu.1.1 g) (blk_us hu.2.2.2.2.2)⟩)
    exact snd_tst rfl fun ex hx => (z ex hx).1
  | nil =>
    intro X Wx b g hu
    refine ⟨fun ex h => (nomatch h), fun ex h => (nomatch h), fun es h => ?_, fun _ h => (nomatch h), fun _ _ h => (nomatch h), fun es h => (nomatch h)⟩
    cases es with
    | nil => exact pa_nilS
    | cons _ _ => cases h
  | cons a s iha ihs =>
    intro X Wx b g hu
    refine ⟨fun ex h => (nomatch h), fun ex h => (nomatch h), fun es h => ?_, fun _ h => (nomatch h), fun _ _ h => (nomatch h), fun es h => (nomatch h)⟩
    cases es with
    | nil => cases h
    | cons e es =>
      simp only [IE.chk, ckCons, Bool.and_eq_true] at h
      exact pa_consS ((iha g hu.1).e _ h.1.1) ((ihs g hu.2).a _ h.2) (star_of h.1.2)
  | ono =>
    intro X Wx b g hu
    refine ⟨fun ex h => (nomatch h), fun ex h => (nomatch h), fun es h => (nomatch h), fun e h => ?_, fun _ _ h => (nomatch h), fun es h => (nomatch h)⟩
    cases e with
    | none => exact po_noS
    | some _ => cases h
  | osm a iha =>
    intro X Wx b g hu
    refine ⟨fun ex h => (nomatch h), fun ex h => (nomatch h), fun es h => (nomatch h), fun e h => ?_, fun _ _ h => (nomatch h), fun es h => (nomatch h)⟩
    cases e with
    | none => cases h
    | some e => exact po_intS ((iha g hu).e _ h)
  | over a iha =>
    intro X Wx b g hu
    exact ⟨fun ex h => (nomatch h), fun ex h => (nomatch h), fun es h => (nomatch h), fun e h => (nomatch h), fun tg e h => pi_overS ((iha g hu).e _ h), fun es h => (nomatch h)⟩
  | rng s ihs =>
    intro X Wx b g hu
    refine ⟨fun ex h => (nomatch h), fun ex h => (nomatch h), fun es h => (nomatch h), fun e h => (nomatch h), fun tg e h => ?_, fun es h => (nomatch h)⟩
    obtain ⟨es, p, q, rfl, h1, h3, h4⟩ := rng_inv h
    have hl := args_len h3
    rcases h4 with h4 | h4
    · match es, h4, h3, hl with
      | [x], _, h3, hl =>
        obtain ⟨z1, z2⟩ := args_star (env := X.env) h3
        exact pi_rng1S (kd_eq h1) (g.blt _ (by simp [bNames])) ((ihs g hu).a _ h3) (star_of z1) hl
    · match es, h4, h3, hl with
      | [x, y], _, h3, hl =>
        obtain ⟨z1, z2⟩ := args_star (env := X.env) h3
        have z3 : notStar y = true := by
          cases s with
          | cons a s =>
            simp only [IE.chk, ckCons, Bool.and_eq_true] at h3
            exact (args_star (env := X.env) h3.2).1
          | _ => exact (nomatch h3)
        exact pi_rng2S (kd_eq h1) (g.blt _ (by simp [bNames])) ((ihs g hu).a _ h3) (by rw [star_of z1, star_of z3]; rfl) (star_of z3) hl
  | yes =>
    intro X Wx b g hu
    refine ⟨fun ex h => (nomatch h), fun ex h => (nomatch h), fun es h => (nomatch h), fun e h => (nomatch h), fun tg e h => (nomatch h), fun es h => ?_⟩
    cases es with
    | nil => exact ptsImp pts_nil fun σ H Q hw => yes_ok hw
    | cons _ _ => cases h
end
end Dn

set_option Elab.async false
set_option linter.all false
set_option maxRecDepth 100000
set_option maxHeartbeats 8000000
/-! # Dn, part 17: own syntax of statements, its meaning, its check -/
namespace Dn
open PySem PySem.Spec L2

inductive IC where
  | skp | brk | cnt | ret (e : IE) | retN | drop (e : IE) | set (i : Nat) (mu : Bool) (e : IE) | setL (i : Nat) (mu : Bool) (e : IE) | asg (t : TGt) (e : IE) | sto (o i e : IE)
  | ife (c : IE) (f g : IC) | whl (n : Nat) (c : IE) (f : IC) | fr (t : TGt) (it : IE) (f : IC)
  | rse (nm f : Str) (e : IE) | tr1 (tb : List (Str × Bool)) (c : KL) (i : Nat) (f g : IC) | hole (k : List Str → Scope → Stmt → Bool) (f : SS) | sp (r : RuS) (a b c : IE) (f g : IC)
  | nil | cons (a s : IC) | frz (i : Nat) (s : IC)
def IC.sem : IC → SS
  | .skp => skipS
  | .brk => brkS
  | .cnt => cntS
  | .ret e => retS e.sem.e
  | .retN => Dn.retN
  | .drop e => dropS e.sem.e
  | .set i mu e => setS i mu e.sem.e
  | .setL i mu e => setS i mu e.sem.e
  | .asg t e => asgS t e.sem.e
  | .sto o i e => stoS o.sem.e i.sem.e e.sem.e
  | .ife c f g => ifS c.sem.t f.sem g.sem
  | .whl n c f => whileS c.sem.t f.sem n
  | .fr t it f => forS t it.sem.i f.sem
  | .rse nm f e => rseS nm f e.sem.e
  | .tr1 tb _ i f g => tryS f.sem tb i g.sem
  | .hole _ f => f
  | .sp r a b c f g => r.sem a.sem b.sem c.sem f.sem g.sem
  | .nil => skipS
  | .cons a s => seqS a.sem s.sem
  | .frz i s => seqS (frzS i) s.sem
def IC.uses (hs : (List Str → Scope → Stmt → Bool) → SS → Prop) (u : Us) : IC → Prop
  | .ret e => e.uses u
  | .drop e => e.uses u
  | .set _ _ e => e.uses u
  | .setL _ _ e => e.uses u
  | .asg _ e => u.c ∧ e.uses u
  | .sto o i e => o.uses u ∧ i.uses u ∧ e.uses u
  | .ife c f g => c.uses u ∧ f.uses hs u ∧ g.uses hs u
  | .whl _ c f => u.p ∧ c.uses u ∧ f.uses hs u
  | .fr _ it f => (u.p ∧ u.c) ∧ it.uses u ∧ f.uses hs u
  | .rse nm f e => (u.c ∧ u.x nm f) ∧ e.uses u
  | .tr1 tb c _ f g => (u.c ∧ u.e c tb) ∧ f.uses (fun _ _ => False) u ∧ g.uses (fun _ _ => False) u.su
  | .hole k f => hs k f
  | .sp r a b c f g => u.s r ∧ a.uses u ∧ b.uses u ∧ c.uses u ∧ f.uses hs u ∧ g.uses hs u
  | .cons a s => a.uses hs u ∧ s.uses hs u
  | .frz _ s => s.uses hs u
  | _ => True
theorem IC.uses_mono {hs hs' : (List Str → Scope → Stmt → Bool) → SS → Prop} {ic : IC} : ∀ {u v : Us}, (∀ k f, hs k f → hs' k f) → u.Le v → ic.uses hs u → ic.uses hs' v := by
  induction ic generalizing hs hs' <;> intro u v mh m <;> simp only [IC.uses] <;> (try exact fun h => h)
  case ret => exact IE.uses_mono m
  case drop => exact IE.uses_mono m
  case set => exact IE.uses_mono m
  case setL => exact IE.uses_mono m
  case asg => exact fun h => ⟨m.c h.1, IE.uses_mono m h.2⟩
  case sto => exact fun h => ⟨IE.uses_mono m h.1, IE.uses_mono m h.2.1, IE.uses_mono m h.2.2⟩
  case ife ih1 ih2 => exact fun h => ⟨IE.uses_mono m h.1, ih1 mh m h.2.1, ih2 mh m h.2.2⟩
  case whl ih => exact fun h => ⟨m.p h.1, IE.uses_mono m h.2.1, ih mh m h.2.2⟩
  case fr ih => exact fun h => ⟨⟨m.p h.1.1, m.c h.1.2⟩, IE.uses_mono m h.2.1, ih mh m h.2.2⟩
  case rse => exact fun h => ⟨⟨m.c h.1.1, m.x _ _ h.1.2⟩, IE.uses_mono m h.2⟩
  case tr1 ih1 ih2 => exact fun h => ⟨⟨m.c h.1.1, m.e _ _ h.1.2⟩, ih1 (fun _ _ h => h) m h.2.1, ih2 (fun _ _ h => h) m.su h.2.2⟩
  case hole => exact mh _ _
  case sp ih1 ih2 => exact fun h => ⟨m.s _ h.1, IE.uses_mono m h.2.1, IE.uses_mono m h.2.2.1, IE.uses_mono m h.2.2.2.1, ih1 mh m h.2.2.2.2.1, ih2 mh m h.2.2.2.2.2⟩
  case cons ih1 ih2 => exact fun h => ⟨ih1 mh m h.1, ih2 mh m h.2⟩
  case frz ih => exact ih mh m
def notComp : Expr → Bool
  | .ListComp .. => false
  | .SetComp .. => false
  | .DictComp .. => false
  | _ => true
/-- does x = [.. for ..] exchange the stores -/
def swB (e : Expr) (x : Str) (p : Pos) (sc : Scope) : Bool := match e with
  | .ListComp _ _ s q => decide (sc.kind = .function) && kd sc x .local && (p.line == q.line) && !(s.names.any fun (n, k) => n == x && (k == .local || k == .cell))
  | _ => false
def notTup : Expr → Bool
  | .Tuple .. => false
  | .List .. => false
  | _ => true
def csRet (k : Ck) : Stmt → Bool
  | .Return (some e) _ => k.e e
  | _ => false
def csRetN : Stmt → Bool
  | .Return none _ => true
  | _ => false
def csSkp : Stmt → Bool
  | .Pass _ => true
  | .Expr (.Constant (.str _) _ p) _ => true
  | _ => false
def csBrk : Stmt → Bool
  | .Break _ => true
  | _ => false
def csCnt : Stmt → Bool
  | .Continue _ => true
  | _ => false
def csDrop (k : Ck) : Stmt → Bool
  | .Expr e _ => k.e e && notComp e
  | _ => false
def okComp : Expr → Bool
  | .SetComp .. => false
  | .DictComp .. => false
  | _ => true
def csSet (N : List Str) (sc : Scope) (i : Nat) (k : Ck) : Stmt → Bool
  | .Assign [.Name x p'] e _ => decide (sc.kind = .function) && atN N i x && stor true sc x && k.e e && okComp e && !swB e x p' sc
  | _ => false
def csSetL (N : List Str) (sc : Scope) (i : Nat) (own : List (Str × Nat)) (t : TGt) (ki : Ck) (kt ke : Scope → Ck) : Stmt → Bool
  | .Assign [.Name x p'] (.ListComp elt gs scope q) p => atN N i x && kd sc x .local && swB (.ListComp elt gs scope q) x p' sc && ckLc N sc own t ki kt ke (.ListComp elt gs scope q)
  | _ => false
def csSetC (N : List Str) (sc : Scope) (i : Nat) (k : Ck) : Stmt → Bool
  | .Assign [.Name x p'] ex _ => atN N i x && kd sc x .local && okComp ex && swB ex x p' sc && k.e ex
  | _ => false
def csAsg (N : List Str) (sc : Scope) (t : TGt) (k : Ck) : Stmt → Bool
  | .Assign [.Tuple es j p'] e _ => ckT N true sc t (.Tuple es j p') && k.e e && notTup e && notComp e
  | _ => false
def csSto (ko ki ke : Ck) : Stmt → Bool
  | .Assign [.Subscript o i _] e _ => ko.e o && ki.e i && ke.e e && notComp e && notSlice i
  | _ => false
def csIf (kc : Ck) (kf kg : Cs) : Stmt → Bool
  | .If c p q _ => kc.t c && kf.b p && kg.b q
  | _ => false
def csWhl (kc : Ck) (kf : Cs) : Stmt → Bool
  | .While c p [] _ => kc.t c && kf.b p
  | _ => false
def csFor (N : List Str) (sc : Scope) (t : TGt) (ki : Ck) (kf : Cs) : Stmt → Bool
  | .For tg it p [] _ => ckT N true sc t tg && ki.i tg it && notSet it && kf.b p
  | _ => false
def csRse (nm : Str) (sc : Scope) (k : Ck) : Stmt → Bool
  | .Raise (some (.Call (.Name x _) [a] [] _)) none _ => sq nm x && kd sc x .globalImplicit && dbg x && k.e a && notStar a
  | _ => false
def csTry (N : List Str) (sc : Scope) (nm : Str) (i : Nat) (kf kg : Cs) : Stmt → Bool
  | .Try body [.ExceptHandler (some (.Name x _)) (some n) (b₀ :: suite) _] [] [] _ => sq nm x && kd sc x .globalImplicit && dbg x && atN N i n && kd sc n .local && kf.b body && kg.b (b₀ :: suite)
  | _ => false
def csCons (ka ks : Cs) : List Stmt → Bool
  | st :: r => ka.s st && ks.b r
  | [] => false
def IC.chk (N : List Str) : IC → Scope → Cs
  | .skp, _ => { s := csSkp }
  | .brk, _ => { s := csBrk }
  | .cnt, _ => { s := csCnt }
  | .ret e, sc => { s := csRet (e.chk N sc) }
  | .retN, _ => { s := csRetN }
  | .drop e, sc => { s := csDrop (e.chk N sc) }
  | .set i _ e, sc => { s := csSet N sc i (e.chk N sc) }
  | .setL i _ (.lc own t it tst elt), sc => { s := csSetL N sc i own t (it.chk N sc) (tst.chk N) (elt.chk N) }
  | .setL i _ (.apc r a b c d e), sc => { s := csSetC N sc i ((IE.apc r a b c d e).chk N sc) }
  | .setL _ _ _, _ => {}
  | .asg t e, sc => { s := csAsg N sc t (e.chk N sc) }
  | .sto o i e, sc => { s := csSto (o.chk N sc) (i.chk N sc) (e.chk N sc) }
  | .ife c f g, sc => { s := csIf (c.chk N sc) (f.chk N sc) (g.chk N sc) }
  | .whl _ c f, sc => { s := csWhl (c.chk N sc) (f.chk N sc) }
  | .fr t it f, sc => { s := csFor N sc t (it.chk N sc) (f.chk N sc) }
  | .rse nm _ e, sc => { s := csRse nm sc (e.chk N sc) }
  | .tr1 _ c i f g, sc => { s := csTry N sc c.name i (f.chk N sc) (g.chk N sc) }
  | .hole k _, sc => { s := k N sc }
  | .sp r a b c f g, sc => { s := r.chk N sc (a.chk N sc) (b.chk N sc) (c.chk N sc) (f.chk N sc) (g.chk N sc) }
  | .nil, _ => { b := fun es => es.isEmpty }
  | .cons a s, sc => { b := csCons (a.chk N sc) (s.chk N sc) }
  | .frz _ s, sc => { b := (s.chk N sc).b }
section
variable {X : Cx} {ca : CA} {Wx : WX} {N : List Str}
theorem sw_none {e : Expr} {tg : Option Expr} {l : Nat} {env : PySem.Env} (h : notComp e = true) : swapsWith e tg l env = pure false := by
  cases e <;> first | rfl | cases h
theorem swSole_none {e : Expr} {tg : Expr} {l : Nat} {env : PySem.Env} (h : notComp e = true) : swapsWithSole [tg] e l env = pure false := sw_none h
theorem swSt_none {e : Expr} {tg : Expr} {env : PySem.Env} (h : notTup e = true) : swappedStores [tg] e env = pure none := by
  cases tg <;> cases e <;> first | rfl | cases h
theorem swSt_sub {o i e : Expr} {p : Pos} {env : PySem.Env} : swappedStores [.Subscript o i p] e env = pure none := by
  cases e <;> rfl
theorem sw_eq {e : Expr} {x : Str} {p : Pos} {l : Nat} {env : PySem.Env} (hk : env.scope.kind = .function) (h : okComp e = true) : swapsWith e (some (.Name x p)) l env = pure (swB e x p env.scope) := by
  cases e with
  | ListComp elt gs s q =>
    have hb : env.blockKind = .function := by unfold PySem.Env.blockKind; rw [hk]; rfl
    unfold swapsWith swB kd
    have e : (env.kindOf x == some NameKind.local) = decide (List.lookup x env.scope.names = some NameKind.local) := by
      rw [Bool.eq_iff_iff, beq_iff_eq, decide_eq_true_eq]; rfl
    have e2 : (ScopeKind.function == ScopeKind.function) = true := by decide
    simp only [Expr.pos, hk, hb, decide_true, Bool.true_and, e, e2]
  | SetComp _ _ _ _ => cases h
  | DictComp _ _ _ _ _ => cases h
  | _ => rfl
theorem setLc_pre {own : List Nat} {t : TGt} {fi : IS} {tt : BS} {fe : ES} {i : Nat} {mu : Bool} {D : Ends} {σ : L2.St} {H : Hp} (hi : ∀ i ∈ t.ids, i ∈ own) (h : tS (GX X ca) Wx (setS i mu (lcS own t fi tt fe)) D σ H) :
    tAsg (tLc (tI (GX X ca) Wx fi) (gT X.K t) (tB (GX X ca) W0 tt) (tE (GX X ca) W0 fe) own) (gName i) D σ H := lcS_ok hi (set_pre h)
theorem lc_inv {sc : Scope} {own : List (Str × Nat)} {t : TGt} {ki : Ck} {kt ke : Scope → Ck} {elt : Expr} {gs : List Comprehension} {scope : Scope} {q : Pos} (h : ckLc N sc own t ki kt ke (.ListComp elt gs scope q) = true) :
    ∃ tg iter ifs, gs = [⟨tg, iter, ifs, 0⟩] ∧ ki.i tg iter = true ∧ notSet iter = true ∧ blkB N sc scope own = true ∧ ckT N false (relS scope sc) t tg = true ∧ (∀ i ∈ t.ids, i ∈ own.map (·.2)) ∧ (kt (relS scope sc)).f ifs = true ∧ (ke (relS scope sc)).e elt = true := by
  unfold ckLc at h
  split at h
  · rename_i heq
    cases heq
    simp only [Bool.and_eq_true] at h
    obtain ⟨⟨⟨⟨⟨⟨h1, h2⟩, h3⟩, h4⟩, h5⟩, h6⟩, h7⟩ := h
    exact ⟨_, _, _, rfl, h1, h2, h3, h4, fun i hi => List.contains_iff_mem.mp (List.all_eq_true.mp h5 i hi), h6, h7⟩
  · cases h
def HoleS (X : Cx) (ca : CA) (Wx : WX) (N : List Str) (k : List Str → Scope → Stmt → Bool) (f : SS) : Prop := ∀ st, k N X.env.scope st = true → PS X st (tS (GX X ca) Wx f)
theorem tr_us {pn : List (Addr × Obj)} {xe : Value → Shared → Prop} (hp : PassesOwn (model X.prog X.w) X.A X.env xe) : (UsAt X ca N).Le (UsAt (X.tr pn xe) ca N) :=
  ⟨fun _ h => h, fun _ _ h => h, fun h => h, fun _ => hp, fun _ _ h => h, fun _ _ _ h => h, fun _ _ h => h, fun _ _ h => h, fun k f h X' Wx' b' sm => h X' Wx' b' ⟨sm.prog, sm.w, sm.K, sm.mg, sm.base, sm.A, sm.calm⟩,
    fun r h X' sm => h X' ⟨sm.prog, sm.w, sm.K, sm.mg, sm.base, sm.A, sm.calm⟩, fun r h X' sm => h X' ⟨sm.prog, sm.w, sm.K, sm.mg, sm.base, sm.A, sm.calm⟩, fun r h X' sm => h X' ⟨sm.prog, sm.w, sm.K, sm.mg, sm.base, sm.A, sm.calm⟩, fun r h X' sm => h X' ⟨sm.prog, sm.w, sm.K, sm.mg, sm.base, sm.A, sm.calm⟩⟩
theorem su_us {a : Addr} {pn : List (Addr × Obj)} {x : Option (Addr × Value × Option Addr)} (hx : ca.x = none) : (UsAt X ca N).su.Le (UsAt (X.suite a pn) ⟨ca.f, x⟩ N) := by
  obtain ⟨cf, cx⟩ := ca
  cases hx
  exact ⟨fun _ h => h.elim, fun _ _ ⟨v, u, h1, h2, h3⟩ => ⟨v, u, h1, h2, fun F => rep_on (h3 F)⟩, fun h => h.elim, fun h => h.elim, fun _ _ h => h, fun b t f ⟨h1, h2⟩ => ⟨fun c hc => by
    have := h1 c hc
    cases c with
    | own y => exact this
    | bi y T => exact this, fun C bb hl => by
      obtain ⟨z1, z2⟩ := h2 C bb hl
      refine ⟨z1, ?_⟩
      have eu : KL.u (⟨cf, none⟩ : CA) = KL.u ⟨cf, x⟩ := by funext c; cases c <;> rfl
      revert z2
      split <;> intro z2
      · rw [← eu]; exact z2
      · exact z2
      · rw [← eu]; exact z2⟩, fun _ _ h => h.elim, fun _ _ h => h.elim, fun _ _ h => h.elim, fun _ h => h.elim, fun _ h => h.elim, fun _ h => h.elim, fun _ h => h.elim⟩
theorem sndS (ic : IC) : ∀ {X : Cx} {ca : CA} {Wx : WX}, Good X ca Wx N true → ic.uses (HoleS X ca Wx N) (UsAt X ca N) → SndS X ca Wx ic.sem (ic.chk N X.env.scope) := by
  induction ic with
  | skp =>
    intro X ca Wx g hu
    refine ⟨fun st h => ?_, fun _ h => (nomatch h)⟩
    simp only [IC.chk] at h
    unfold csSkp at h
    split at h
    · exact ps_passS
    · exact ps_docS
    · cases h
  | brk =>
    intro X ca Wx g hu
    refine ⟨fun st h => ?_, fun _ h => (nomatch h)⟩
    simp only [IC.chk] at h
    unfold csBrk at h
    split at h
    · exact ps_brkS
    · cases h
  | cnt =>
    intro X ca Wx g hu
    refine ⟨fun st h => ?_, fun _ h => (nomatch h)⟩
    simp only [IC.chk] at h
    unfold csCnt at h
    split at h
    · exact ps_cntS
    · cases h
  | ret e =>
    intro X ca Wx g hu
    refine ⟨fun st h => ?_, fun _ h => (nomatch h)⟩
    simp only [IC.chk] at h
    unfold csRet at h
    split at h
    · exact ps_retS ((snd e g hu).e _ h)
    · cases h
  | retN =>
    intro X ca Wx g hu
    refine ⟨fun st h => ?_, fun _ h => (nomatch h)⟩
    simp only [IC.chk] at h
    unfold csRetN at h
    split at h
    · exact ps_retNS
    · cases h
  | drop e =>
    intro X ca Wx g hu
    refine ⟨fun st h => ?_, fun _ h => (nomatch h)⟩
    simp only [IC.chk] at h
    unfold csDrop at h
    split at h
    · rw [Bool.and_eq_true] at h
      exact ps_dropS ((snd e g hu).e _ h.1) (sw_none h.2)
    · cases h
  | set i mu e =>
    intro X ca Wx g hu
    refine ⟨fun st h => ?_, fun _ h => (nomatch h)⟩
    simp only [IC.chk] at h
    unfold csSet at h
    split at h
    · simp only [Bool.and_eq_true, decide_eq_true_eq, Bool.not_eq_true'] at h
      obtain ⟨⟨⟨⟨⟨h1, h2⟩, h3⟩, h4⟩, h5⟩, h6⟩ := h
      obtain ⟨z1, z2⟩ := stor_of g h3
      exact ps_setS g.nd (by rw [g.N]; exact atN_of h2) z1 ((snd e g hu).e _ h4) (by rw [sw_eq h1 h5, h6]) z2
    · cases h
  | setL i mu e =>
    intro X ca Wx g hu
    cases e with
    | lc own t it tst elt =>
      refine ⟨fun st h => ?_, fun _ h => (nomatch h)⟩
      simp only [IC.chk] at h
      unfold csSetL at h
      split at h
      · rename_i x p' elt' gs scope q p
        simp only [Bool.and_eq_true] at h
        obtain ⟨⟨⟨h1, h2⟩, h3⟩, h4⟩ := h
        have hsw : swapsWith (.ListComp elt' gs scope q) (some (.Name x p')) p.line X.env = pure true := by
          have hk : X.env.scope.kind = .function := by
            unfold swB at h3
            simp only [Bool.and_eq_true, decide_eq_true_eq] at h3
            exact h3.1.1.1
          rw [sw_eq hk rfl, h3]
        obtain ⟨tg, iter, ifs, rfl, k1, k2, k3, k4, k5, k6, k7⟩ := lc_inv h4
        have hbk := blk_of k3
        exact psImp (ps_setLc (own := own) hu.1 g.nd (by rw [g.N]; exact atN_of h1) (kd_eq h2) hsw ((snd it g hu.2.1).i _ _ k1) (by rw [g.N]; exact hbk) (g := gT X.K t) (tt := tB (GX X ca) W0 tst.sem.t) (te := tE (GX X ca) W0 elt.sem.e) (fun s H C cl fp => ckT_of (good_blk hu.1 g) hu.1 rfl k4)
          (fun s H C cl fp => (snd tst (good_blk hu.1 g) (blk_us hu.2.2.1)).f _ k6) (fun s H C cl fp => (snd elt (good_blk hu.1 g) (blk_us hu.2.2.2)).e _ k7) (set_of k2)) fun D σ H hw => setLc_pre k5 hw
      · cases h
    | apc r a c d e f =>
      refine ⟨fun st h => ?_, fun _ h => (nomatch h)⟩
      simp only [IC.chk] at h
      unfold csSetC at h
      split at h
      · rename_i x p' ex p
        simp only [Bool.and_eq_true] at h
        obtain ⟨⟨⟨⟨h1, h2⟩, h3⟩, h4⟩, h5⟩ := h
        have hk : X.env.scope.kind = .function := by
          unfold swB at h4
          split at h4
          · simp only [Bool.and_eq_true, decide_eq_true_eq] at h4
            exact h4.1.1.1
          · cases h4
        have hsw : swapsWith ex (some (.Name x p')) p.line X.env = pure true := by rw [sw_eq hk h3, h4]
        have z := hu.1.2 X ⟨rfl, rfl, rfl, rfl, rfl, rfl, rfl⟩ Wx true g hu.1.1 a c d e f (snd a g hu.2.1) (fun s H scope C cl fp => ⟨good_blk hu.1.1 g, snd c (good_blk hu.1.1 g) (blk_us hu.2.2.1)⟩) (fun s H scope C cl fp => ⟨good_blk hu.1.1 g, snd d (good_blk hu.1.1 g) (blk_us hu.2.2.2.1)⟩)
          (fun s H scope C cl fp => ⟨good_blk hu.1.1 g, snd e (good_blk hu.1.1 g) (blk_us hu.2.2.2.2.1)⟩) (fun s H scope C cl fp => ⟨good_blk hu.1.1 g, snd f (good_blk hu.1.1 g) (blk_us hu.2.2.2.2.2)⟩)
        exact (z ex h5).2 i mu x p' p (by rw [g.N]; exact atN_of h1) (kd_eq h2) hsw
      · cases h
    | _ => exact ⟨fun st h => (nomatch h), fun _ h => (nomatch h)⟩
  | asg t e =>
    intro X ca Wx g hu
    refine ⟨fun st h => ?_, fun _ h => (nomatch h)⟩
    simp only [IC.chk] at h
    unfold csAsg at h
    split at h
    · simp only [Bool.and_eq_true] at h
      obtain ⟨⟨⟨h1, h2⟩, h3⟩, h4⟩ := h
      exact ps_asgS ((snd e g hu.2).e _ h2) (ckT_of g hu.1 rfl h1) (swSole_none h4) (swSt_none h3) (by rfl)
    · cases h
  | sto o i e =>
    intro X ca Wx g hu
    refine ⟨fun st h => ?_, fun _ h => (nomatch h)⟩
    simp only [IC.chk] at h
    unfold csSto at h
    split at h
    · rename_i o' i' p2 e' p
      simp only [Bool.and_eq_true] at h
      obtain ⟨⟨⟨⟨h1, h2⟩, h3⟩, h5⟩, h6⟩ := h
      exact ps_stoS ((snd e g hu.2.2).e _ h3) ((snd o g hu.1).e _ h1) ((snd i g hu.2.1).e _ h2) (swSole_none h5) swSt_sub (by rfl) (fun v => by cases i' <;> first | rfl | cases h6)
    · cases h
  | ife c f k ihf ihg =>
    intro X ca Wx g hu
    refine ⟨fun st h => ?_, fun _ h => (nomatch h)⟩
    simp only [IC.chk] at h
    unfold csIf at h
    split at h
    · simp only [Bool.and_eq_true] at h
      exact ps_ifS ((snd c g hu.1).t _ h.1.1).1 ((ihf g hu.2.1).b _ h.1.2) ((ihg g hu.2.2).b _ h.2)
    · cases h
  | whl n c f ihf =>
    intro X ca Wx g hu
    refine ⟨fun st h => ?_, fun _ h => (nomatch h)⟩
    simp only [IC.chk] at h
    unfold csWhl at h
    split at h
    · simp only [Bool.and_eq_true] at h
      exact ps_whileS n hu.1 ((snd c g hu.2.1).t _ h.1).1 ((ihf g hu.2.2).b _ h.2)
    · cases h
  | fr t it f ihf =>
    intro X ca Wx g hu
    refine ⟨fun st h => ?_, fun _ h => (nomatch h)⟩
    simp only [IC.chk] at h
    unfold csFor at h
    split at h
    · simp only [Bool.and_eq_true] at h
      exact ps_forS hu.1.1 hu.1.2 ((snd it g hu.2.1).i _ _ h.1.1.2) (ckT_of g hu.1.2 rfl h.1.1.1) ((ihf g hu.2.2).b _ h.2) (set_of h.1.2)
    · cases h
  | rse nm f e =>
    intro X ca Wx g hu
    refine ⟨fun st h => ?_, fun _ h => (nomatch h)⟩
    simp only [IC.chk] at h
    unfold csRse at h
    split at h
    · simp only [Bool.and_eq_true] at h
      obtain ⟨⟨⟨⟨h1, h2⟩, h3⟩, h4⟩, h5⟩ := h
      cases sq_eq h1
      exact ps_rseS hu.1.1 hu.1.2.1 hu.1.2.2 g.tk ((snd e g hu.2).e _ h4) (kd_eq h2) (dbg_of h3) (star_of h5)
    · cases h
  | tr1 tb c i f k ihf ihg =>
    intro X ca Wx g hu
    refine ⟨fun st h => ?_, fun _ h => (nomatch h)⟩
    simp only [IC.chk] at h
    unfold csTry at h
    split at h
    · simp only [Bool.and_eq_true] at h
      obtain ⟨⟨⟨⟨⟨⟨h1, h2⟩, h3⟩, h4⟩, h5⟩, h6⟩, h7⟩ := h
      have e1 := (sq_eq h1).symm
      have hx := g.cx hu.1.1
      obtain ⟨hk, hE⟩ := hu.1.2
      have hN : Names X _ (c.u ca) := ⟨kd_eq h2, dbg_of h3, by
        subst e1
        cases c with
        | own y => exact .inl hk
        | bi y T => exact .inr hk⟩
      refine ps_tryS hx hE (g.st rfl).1 (g.st rfl).2 g.nd (by rw [g.N]; exact atN_of h4) (kd_eq h5) hN g.tk (fun W pn xe htk hpx => ?_) (fun a oe cls d pn hz hf => ?_)
      · have g' : Good (X.tr pn xe) ca W N true := ⟨g.N, g.nd, g.un, htk, g.fn, g.blt, fun a cls d z => (by rw [hx] at z; cases z), g.cx, g.st⟩
        exact (ihf g' (IC.uses_mono (fun _ _ z => z.elim) (tr_us hpx) hu.2.1)).b _ h6
      · have g' : Good (X.suite a ((a, oe) :: pn)) ⟨ca.f, some (a, cls, d)⟩ W0 N true :=
          ⟨g.N, g.nd, g.un, fun u s' ⟨_, _, _, _, _, _, _, _, _, _, _, _, _, _, _, _, w⟩ => w.elim, g.fn, g.blt, fun a' cls' d' z => (by cases z; exact ⟨X, oe, pn, rfl, hz, hf⟩), fun z => (by cases z), g.st⟩
        exact (ihg g' (IC.uses_mono (fun _ _ z => z.elim) (su_us hx) hu.2.2)).b _ h7
    · cases h
  | hole k f =>
    intro X ca Wx g hu
    exact ⟨fun st h => hu st h, fun _ h => (nomatch h)⟩
  | sp r a b c f k ihf ihg =>
    intro X ca Wx g hu
    exact ⟨fun st h => hu.1 X ⟨rfl, rfl, rfl, rfl, rfl, rfl, rfl⟩ Wx g a b c _ _ _ _ (snd a g hu.2.1) (snd b g hu.2.2.1) (snd c g hu.2.2.2.1) (ihf g hu.2.2.2.2.1) (ihg g hu.2.2.2.2.2) st h, fun _ h => (nomatch h)⟩
  | nil =>
    intro X ca Wx g hu
    refine ⟨fun _ h => (nomatch h), fun st h => ?_⟩
    cases st with
    | nil => exact pss_nilS
    | cons _ _ => cases h
  | cons a s iha ihs =>
    intro X ca Wx g hu
    refine ⟨fun _ h => (nomatch h), fun st h => ?_⟩
    simp only [IC.chk] at h
    unfold csCons at h
    split at h
    · simp only [Bool.and_eq_true] at h
      exact pss_consS ((iha g hu.1).s _ h.1) ((ihs g hu.2).b _ h.2)
    · cases h
  | frz i s ihs =>
    intro X ca Wx g hu
    exact ⟨fun _ h => (nomatch h), fun st h => pss_frzS ((ihs g hu).b _ h)⟩
end
end Dn

set_option Elab.async false
set_option linter.all false
set_option maxRecDepth 100000
set_option maxHeartbeats 8000000
/-! # Dn, part 18: a def keeps the promise of its own text -/
namespace Dn
open PySem PySem.Spec L2

def GlobK (K : PySem.W.Frag) (mg : Str → Option Value) (ca : CA) (x : Str) (d : D) : Prop := ∃ v u, mg x = some u ∧ RelV v u ∧ ∀ F, Rep ⟨K, ca⟩ F d v
/-- a context of the module, with room k -/
structure InM (P : Program) (w : World) (K : PySem.W.Frag) (mg : Str → Option Value) (base : Heap) (k : Nat) (X : Cx) : Prop where
  prog : X.prog = P
  w : X.w = w
  K : X.K = K
  mg : X.mg = mg
  base : X.base = base
  room : Room k X.A
  calm : X.calm = true
/-- what a def's text leans on, told of the module: k is the room -/
def UsK (P : Program) (w : World) (K : PySem.W.Frag) (mg : Str → Option Value) (base : Heap) (ca : CA) (k : Nat) : Us where
  f := fun en => FnOkD P w K mg base ca en ∧ en.lvl ≤ k
  g := GlobK K mg ca
  c := True
  p := True
  a := fun tb f => ∀ C ∈ tb, AttOk K (ca.f C) f
  k := KisAt K mg ca
  x := fun nm f => ExcK P K mg (ca.f nm) nm f
  e := ExcAt K mg ca
  h := fun _ _ => False
  r := fun r => ∀ X N, InM P w K mg base k X → RuAt X ca N r
  i := fun r => ∀ X N, InM P w K mg base k X → RiAt X ca N r
  s := fun r => ∀ X N, InM P w K mg base k X → RsAt X ca N r
  q := fun r => ∀ X N, InM P w K mg base k X → RcAt X ca N r
theorem def_fn {P : Program} {w : World} {K : PySem.W.Frag} {mg : Str → Option Value} {base : Heap} {ca : CA} {x qual : Str} {params : Arguments} {body : List Stmt} {scope : Scope} {fA : Addr} {fd : FuncData} {dvs : List V} {kws : List (Str × V)}
    {N ps : List Str} {k : Nat} {ic : IC} (F : FunD K x qual params body scope dvs kws fA fd) (S : FnScope N ps scope) (hm : ∀ y ∈ bNames, mg y = none) (hx : ca.x = none)
    (hc : (ic.chk N scope).b body = true) (hu : ic.uses (fun _ _ => False) (UsK P w K mg base ca k)) :
    FnOk P w K mg base (L2.CX P w) (k + 1) fA fd ps (spOf ⟨K, ca⟩ ps.length (defS ps.length N.length ic.sem)) := by
  refine def_ok F S fun cdv A outer s H E hr => ?_
  have g : Good (cxOf (L2.CX P w) P w K mg base N qual scope fA cdv A outer s H E) ca (fun c d _ H => E c d H) N true :=
    { N := rfl, nd := S.nd, un := by have := hr.un; show (A.deeper _).units + 65 < cLine; omega, tk := takes_of rfl rfl rfl (E₁ := fun e' s'' => L2.CX P w outer H s E e' s'') rfl, fn := fun _ _ => rfl, blt := hm,
      xo := fun a cls d z => by (rw [hx] at z; cases z), cx := fun _ => hx, st := fun _ => ⟨rfl, rfl⟩ }
  refine (sndS ic g (IC.uses_mono (fun _ _ z => z.elim) ?_ hu)).b _ hc
  exact ⟨fun en z => ⟨z.1, hr.mono z.2⟩, fun _ _ z => z, fun _ => rfl, fun _ => PassesOwn.leaving, fun _ _ z => z, fun _ _ _ z => z, fun _ _ z => ⟨z, hr.mono (Nat.zero_le _)⟩, fun _ _ z => z, fun _ _ z => z.elim, fun r z X' sm => z X' N ⟨sm.prog, sm.w, sm.K, sm.mg, sm.base, by rw [sm.A]; exact hr, sm.calm⟩, fun r z X' sm => z X' N ⟨sm.prog, sm.w, sm.K, sm.mg, sm.base, by rw [sm.A]; exact hr, sm.calm⟩, fun r z X' sm => z X' N ⟨sm.prog, sm.w, sm.K, sm.mg, sm.base, by rw [sm.A]; exact hr, sm.calm⟩, fun r z X' sm => z X' N ⟨sm.prog, sm.w, sm.K, sm.mg, sm.base, by rw [sm.A]; exact hr, sm.calm⟩⟩
theorem def_of {P : Program} {w : World} {K : PySem.W.Frag} {mg : Str → Option Value} {base : Heap} {ca : CA} {x qual : Str} {params : Arguments} {body : List Stmt} {scope : Scope} {fA : Addr} {fd : FuncData}
    {N ps : List Str} {k : Nat} {ic : IC} (F : FunD K x qual params body scope [] [] fA fd) (S : FnScope N ps scope) (gl : mg x = some (.ref fA)) (bn : Binds K fd ps []) (hm : ∀ y ∈ bNames, mg y = none) (hx : ca.x = none)
    (hc : (ic.chk N scope).b body = true) (hu : ic.uses (fun _ _ => False) (UsK P w K mg base ca k)) :
    FnOkD P w K mg base ca ⟨x, ps.length, defS ps.length N.length ic.sem, k + 1⟩ :=
  ⟨fA, fd, ps, gl, F.kp, bn, rfl, def_fn F S hm hx hc hu⟩
/-- the law is called: the walk -/
theorem walk_dn {l : PySem.W.OpenLaw} {n k : Nat} {q : Program} {loose : List Str} {XP : (Str → Option Value) → Heap → Prop} {YP : World → Heap → Prop} {d : DefRec} {x : Str} {g : Sem}
    (hn : l.most = some n) (hn2 : n ≤ sizeLine) (hdf : d.params.defaults = []) (hr : Room k callerA)
    (hg : ∀ ns : List Int, ns.length ≤ n → ∃ S', g [.d (.scr ns)] [] = .ok (.d (.bl true)) S')
    (F : ∀ (w : World) (mg : Str → Option Value) (fa : Addr) (h : Heap), YP w h → h.Ns mainGlobals mg → mg d.name = some (.ref fa) →
      ∃ (K : PySem.W.Frag) (fd : FuncData) (ca : CA), K.In h ∧ (∀ (s : Shared) (u : Value), BindsTo s fd ⟨[u], []⟩ [(x, u)]) ∧
        ∀ base : Heap, K.In base → base.Ns mainGlobals mg → FnOk l.prog w K mg base (L2.CX l.prog w) k fa fd [x] (spOf ⟨K, ca⟩ 1 g)) :
    PySem.W.WalkO q loose XP YP l.row.toRowW d [] (fun f vs => PySem.call f vs) := by
  refine Att.attach_call hn hdf fun w s₀ s₁ mg mb fa o pm cd doc a vs ns G Y ho hd hcd hmg hobj hints hlen hgn => ?_
  obtain ⟨K, fd, ca, KX, hb, hF⟩ := F w mg fa _ Y G.T.g hmg
  refine law_call (CX := L2.CX l.prog w) KX G.T.g G.T.b G.T.builtins G.T.nolimit hgn hobj hints (Nat.le_trans hlen hn2) hr hF hb (fun H hO hS => ?_) fun H e s' z => ?_
  · obtain ⟨S', e⟩ := hg ns hlen
    refine ⟨rfl, ⟨H, [], []⟩, [.d (.scr ns)], ⟨Sub.refl H, rfl, fun n c a h => by simp at h, fun n m c c' a h => by simp at h⟩, ⟨_, _, rfl, ?_, rfl⟩, ?_⟩
    · show Rep ⟨K, ca⟩ H (.scr ns) _
      unfold Rep
      exact ⟨a, rfl, hS⟩
    · rw [e]
      intro ω' H' v _ _ _ rv
      have rv : Rep ⟨K, ca⟩ ω'.F (.bl true) v := rv
      unfold Rep at rv
      exact rv
  · obtain ⟨_, _, _, _, _, _, _, _, _, _, _, _, z⟩ := z
    exact z
/-- a def that nobody may call yet -/
theorem def_stuck {P : Program} {w : World} {K : PySem.W.Frag} {mg : Str → Option Value} {base : Heap} {ca : CA} {x qual : Str} {params : Arguments} {body : List Stmt} {scope : Scope} {fA : Addr} {fd : FuncData}
    {ps : List Str} {k : Nat} (F : FunD K x qual params body scope [] [] fA fd) (gl : mg x = some (.ref fA)) (bn : Binds K fd ps []) :
    FnOkD P w K mg base ca ⟨x, ps.length, fun _ _ => .stuck, k⟩ :=
  ⟨fA, fd, ps, gl, F.kp, bn, rfl, ⟨fun vs H Q E h => h.1, fun A outer s H args us vs Q E _ _ _ _ h => by obtain ⟨_, ω, ws, _, _, p⟩ := h; exact p.elim⟩⟩
end Dn

set_option Elab.async false
set_option linter.all false
set_option maxRecDepth 100000
set_option maxHeartbeats 8000000
/-! # Dn, part 19: what the written part says of the errors, decided -/
namespace Dn
open PySem PySem.Spec L2

def parB (f : Str) : Arguments → Bool
  | ⟨[], [⟨a, none, _⟩, ⟨b, none, _⟩], none, [], [], none, []⟩ => sq a "self" && sq b f
  | _ => false
def bodyB (f : Str) : FuncBody → Bool
  | .stmts [.Expr (.Call (.Attribute (.Call (.Name s _) [] [] _) i p2) [.Constant (.str _) _ _] [] p4) _, .Assign [.Attribute (.Name s2 _) f1 _] (.Name f2 _) _] =>
    sq s "super" && sq i "__init__" && sq s2 "self" && sq f1 f && sq f2 f && (p2.endLine == p4.line)
  | _ => false
def cloB (K : PySem.W.Frag) (C : Addr) : List (Str × Addr) → Bool
  | [(x, cc)] => sq x "__class__" && (match K.lookup cc with
    | some ⟨_, _, .cell (some (.ref D)), _⟩ => decide (D = C)
    | _ => false)
  | _ => false
def codB (P : Program) (K : PySem.W.Frag) : Value → Bool
  | .ref cda => (match K.lookup cda with
    | some ⟨_, _, .fields vs, _⟩ => (match (vs[2]? : Option Value) with
      | some (.str file _) => (P.main.file : Str) == file
      | _ => false)
    | _ => false)
  | _ => false
def scoB (f : Str) (sc : Scope) : Bool := decide (sc.kind = .function) && !sc.isCoroutine && !sc.isGenerator && kd sc "self" .local && kd sc f .local && kd sc "super" .globalImplicit && kd sc "__class__" .free && sc.names.all (fun x => decide (x.2 ≠ .cell))
def nonV : Value → Bool
  | .none => true
  | _ => false
def initB (P : Program) (K : PySem.W.Frag) (C fI : Addr) (f : Str) : Bool := match K.lookup fI with
  | some ⟨_, _, .func fd, _⟩ => parB f fd.params && bodyB f fd.body && scoB f fd.scope && decide (fd.globals = mainGlobals) && decide (fd.builtins = builtinsNs) && nonV fd.defaults && nonV fd.kwdefaults && cloB K C fd.closure && codB P K fd.code && PySem.W.codeIn K fd.code fd.qualname && !(f == ("__debug__" : Str)) && !(f == ("self" : Str))
  | _ => false
def clsB (K : PySem.W.Frag) (C : Addr) : Bool := match K.lookup C with
  | some ⟨.type t, _, .cls cd, sl⟩ => (match cd.mro, sl.toList with
    | .ref C' :: bm, [_, _, _, _, some (.builtin n), _] => decide (t = "type") && decide (C' = C) && decide (n = "ValueError.__new__") && !cd.hasDel && PySem.HandSPX.refsVE bm && cd.hasDict
    | _, _ => false)
  | _ => false
theorem clsB_of {K : PySem.W.Frag} {C : Addr} (h : clsB K C = true) : ∃ nm q N bs bm sn sub ab col dd k0 k1 k2 k3 k5, K.lookup C = some (excClassObj nm q C N bs bm true sn sub ab col dd k0 k1 k2 k3 k5 "ValueError.__new__") ∧ PySem.HandSPX.refsVE bm = true := by
  unfold clsB at h
  split at h
  · rename_i t dd cd sl ho
    split at h
    · rename_i C' bm k0 k1 k2 k3 n k5 hm hs
      simp only [Bool.and_eq_true, decide_eq_true_eq, Bool.not_eq_true'] at h
      obtain ⟨⟨⟨⟨⟨rfl, rfl⟩, rfl⟩, hdel⟩, ht⟩, hd⟩ := h
      obtain ⟨nm, bs, mro, ns, qn, hd', sn, sub, ab, col, del⟩ := cd
      dsimp only at hm hdel hd
      subst hm hdel hd
      have hsl : sl = #[k0, k1, k2, k3, some (.builtin "ValueError.__new__"), k5] := by
        obtain ⟨l⟩ := sl
        simp only at hs
        rw [hs]
      subst hsl
      exact ⟨nm, qn, ns, bs, bm, sn, sub, ab, col, dd, k0, k1, k2, k3, k5, ho, ht⟩
    · cases h
  · cases h
theorem parB_of {f : Str} {a : Arguments} (h : parB f a = true) : ∃ p1 p2, a = Ex.iA f p1 p2 := by
  unfold parB at h
  split at h
  · rw [Bool.and_eq_true] at h
    cases sq_eq h.1; cases sq_eq h.2
    exact ⟨_, _, rfl⟩
  · cases h
theorem bodyB_of {f : Str} {b : FuncBody} (h : bodyB f b = true) : ∃ m j p0 p1 p2 p3 p4 p5 q1 q2 q3 q4, b = .stmts (Ex.iB f m j p0 p1 p2 p3 p4 p5 q1 q2 q3 q4) ∧ (p2.endLine == p4.line) = true := by
  unfold bodyB at h
  split at h
  · simp only [Bool.and_eq_true] at h
    obtain ⟨⟨⟨⟨⟨h1, h2⟩, h3⟩, h4⟩, h5⟩, h6⟩ := h
    cases sq_eq h1; cases sq_eq h2; cases sq_eq h3; cases sq_eq h4; cases sq_eq h5
    exact ⟨_, _, _, _, _, _, _, _, _, _, _, _, rfl, h6⟩
  · cases h
theorem initB_of {P : Program} {K : PySem.W.Frag} {C fI : Addr} {f : Str} (h : initB P K C fI f = true) : ∃ fd m, Ex.InitAt P K C fI fd f m := by
  unfold initB at h
  split at h
  · rename_i oc od fd osl ho
    simp only [Bool.and_eq_true, decide_eq_true_eq, Bool.not_eq_true'] at h
    obtain ⟨⟨⟨⟨⟨⟨⟨⟨⟨⟨⟨h1, h2⟩, h3⟩, h4⟩, h5⟩, h6⟩, h7⟩, h8⟩, h9⟩, h10⟩, h11⟩, h12⟩ := h
    obtain ⟨m, j, p0, p1, p2, p3, p4, p5, q1, q2, q3, q4, hb, hl⟩ := bodyB_of h2
    unfold scoB at h3
    simp only [Bool.and_eq_true, decide_eq_true_eq, Bool.not_eq_true'] at h3
    obtain ⟨⟨⟨⟨⟨⟨⟨s1, s2⟩, s3⟩, s4⟩, s5⟩, s6⟩, s7⟩, s8⟩ := h3
    refine ⟨fd, m, ⟨oc, od, osl, ho⟩, parB_of h1, ⟨j, p0, p1, p2, p3, p4, p5, q1, q2, q3, q4, hb, hl⟩, s1, s2, s3, kd_eq s4, kd_eq s5, kd_eq s6, kd_eq s7, fun x hx => ?_, h11, h12, h4, h5, ?_, ?_, ?_, ?_, h10⟩
    · exact of_decide_eq_true (List.all_eq_true.mp s8 x hx)
    · cases e : fd.defaults <;> rw [e] at h6 <;> first | rfl | cases h6
    · cases e : fd.kwdefaults <;> rw [e] at h7 <;> first | rfl | cases h7
    · unfold cloB at h8
      split at h8
      · rename_i x cc hc
        rw [Bool.and_eq_true] at h8
        obtain ⟨c1, c2⟩ := h8
        cases sq_eq c1
        split at c2
        · rename_i cl cld D csl hcc
          cases of_decide_eq_true c2
          exact ⟨cc, cl, cld, csl, hc, hcc⟩
        · cases c2
      · cases h8
    · unfold codB at h9
      split at h9
      · rename_i cda hcd
        split at h9
        · rename_i ccl cdd vs ccs hv
          split at h9
          · rename_i file tf hf
            exact ⟨cda, ccl, cdd, vs, ccs, file, tf, hcd, hv, hf, h9⟩
          · cases h9
        · cases h9
      · cases h9
  · cases h
def eqV2 (a b : Option (Option Value)) : Bool := decide (a = b)
/-- an own error's class with a field f -/
def excKB (P : Program) (K : PySem.W.Frag) (x f : Str) : Bool :=
  He.eqO (PySem.W.nsIn K mainGlobals x) (some (some (.ref (He.ga K x)))) && PySem.W.keepIn K (.ref (He.ga K x)) && decide (PySem.W.subIn K (.ref (He.ga K x)) (.type "BaseException") = some true) && decide (PySem.W.typeIn K (.ref (He.ga K x)) = some (.type "type")) &&
  clsB K (He.ga K x) && He.eqO (PySem.W.findIn K (.ref (He.ga K x)) "__setattr__") (some (some (.builtin "object.__setattr__"))) && He.eqO (PySem.W.findIn K (.ref (He.ga K x)) f) (some none) &&
  He.eqO (PySem.W.findIn K (.ref (He.ga K x)) "__init__") (some (some (.ref (He.ma K (He.ga K x) "__init__")))) && decide (PySem.W.typeIn K (.ref (He.ma K (He.ga K x) "__init__")) = some (.type "function")) &&
  He.eqO (PySem.W.ks_superIn K (He.ga K x) (He.ga K x) "__init__") (some (some (.builtin "ValueError.__init__"))) && decide (PySem.W.subIn K (.ref (He.ga K x)) (.type "ValueError") = some true) && decide (PySem.W.mroIn K (He.ga K x) (.ref (He.ga K x)) = some true) &&
  He.eqO (PySem.W.nsIn K cStatics "thirdparty.any") (some none) && initB P K (He.ga K x) (He.ma K (He.ga K x) "__init__") f
theorem excK_of {P : Program} {K : PySem.W.Frag} {h : Heap} {mg : Str → Option Value} {x f : Str} (X : K.In h) (G : h.Ns mainGlobals mg) (bf : Ex.BindF f) (hsup : mg "super" = none) (htop : (P.main.scope.names.lookup ("super" : Str)).isSome = false) (c : excKB P K x f = true) :
    ExcK P K mg (He.ga K x) x f := by
  unfold excKB at c
  simp only [Bool.and_eq_true, decide_eq_true_eq] at c
  obtain ⟨⟨⟨⟨⟨⟨⟨⟨⟨⟨⟨⟨⟨c1, c2⟩, c3⟩, c4⟩, c5⟩, c6⟩, c7⟩, c8⟩, c9⟩, c10⟩, c11⟩, c12⟩, c13⟩, c14⟩ := c
  obtain ⟨fd, m, I⟩ := initB_of c14
  exact ⟨PySem.W.mg_of X G (He.eqO_ok c1), c2, c3, c4, bf, ⟨_, fd, m, ⟨clsB_of c5, He.eqO_ok c6, He.eqO_ok c7, He.eqO_ok c8, c9, He.eqO_ok c10, c11, c12, He.eqO_ok c13⟩, I⟩, hsup, htop⟩
def attB (K : PySem.W.Frag) (x f : Str) : Bool :=
  He.eqO (PySem.W.findIn K (.ref (He.ga K x)) "__getattribute__") (some (some (.builtin "BaseException.__getattribute__"))) && He.eqO (PySem.W.findIn K (.ref (He.ga K x)) "__getattr__") (some none) &&
  decide (PySem.W.subIn K (.ref (He.ga K x)) (.type "BaseException") = some true) && PySem.W.hasDictIn K (He.ga K x) && He.eqO (PySem.W.findIn K (.ref (He.ga K x)) f) (some none)
theorem att_of {K : PySem.W.Frag} {x f : Str} (c : attB K x f = true) : AttOk K (He.ga K x) f := by
  unfold attB at c
  simp only [Bool.and_eq_true, decide_eq_true_eq] at c
  obtain ⟨⟨⟨⟨c1, c2⟩, c3⟩, c4⟩, c5⟩ := c
  exact ⟨He.eqO_ok c1, He.eqO_ok c2, c3, c4, He.eqO_ok c5⟩
def excCB (K : PySem.W.Frag) (x : Str) : Bool :=
  He.eqO (PySem.W.findIn K (.ref (He.ga K x)) "__getattribute__") (some (some (.builtin "BaseException.__getattribute__"))) && He.eqO (PySem.W.findIn K (.ref (He.ga K x)) "__getattr__") (some none) &&
  decide (PySem.W.subIn K (.ref (He.ga K x)) (.type "BaseException") = some true) && PySem.W.hasDictIn K (He.ga K x) && He.eqO (PySem.W.findIn K (.ref (He.ga K x)) "__class__") (some (some (.builtin "object.__class__"))) &&
  He.eqO (PySem.W.specialIn K (.builtin "object.__class__") "__get__") (some (some (.builtin "getset_descriptor.__get__"))) && decide (PySem.W.takesIn K (.builtin "object.__class__") = some true) && decide (PySem.W.mroIn K (He.ga K x) (.type "object") = some true)
theorem excC_of {K : PySem.W.Frag} {x : Str} (c : excCB K x = true) : ExcC K (He.ga K x) := by
  unfold excCB at c
  simp only [Bool.and_eq_true, decide_eq_true_eq] at c
  obtain ⟨⟨⟨⟨⟨⟨⟨c1, c2⟩, c3⟩, c4⟩, c5⟩, c6⟩, c7⟩, c8⟩ := c
  exact ⟨He.eqO_ok c1, He.eqO_ok c2, c3, c4, He.eqO_ok c5, He.eqO_ok c6, c7, c8⟩
abbrev caK (K : PySem.W.Frag) : CA := ⟨He.ga K, none⟩
def kisB (K : PySem.W.Frag) (one : Bool) (cs : List KL) (tb : List (Str × Bool)) : Bool :=
  cs.all (fun c => match c with
    | .own x => He.eqO (PySem.W.nsIn K mainGlobals x) (some (some (.ref (He.ga K x))))
    | .bi x T => He.eqO (PySem.W.nsIn K mainGlobals x) (some none) && decide (bootBuiltins x = some (.type T)) && !(x == ("__name__" : Str))) &&
  tb.all (fun p => excCB K p.1 && match one, cs with
    | true, [c] => decide (PySem.W.kitOne K (.ref (He.ga K p.1)) (c.u (caK K)) = some p.2)
    | true, _ => false
    | false, _ => decide (PySem.W.kitAny K (.ref (He.ga K p.1)) (cs.map (KL.u (caK K))) = some p.2))
theorem lookup_mem' {α : Type} {tb : List (Str × α)} {C : Str} {b : α} (h : tb.lookup C = some b) : (C, b) ∈ tb := by
  induction tb with
  | nil => cases h
  | cons p r ih =>
    obtain ⟨k, v⟩ := p
    rw [List.lookup_cons] at h
    cases e : C == k with
    | true => rw [e] at h; cases h; rw [eq_of_beq e]; simp
    | false => rw [e] at h; exact List.mem_cons_of_mem _ (ih h)
theorem kl_of {K : PySem.W.Frag} {h : Heap} {mg : Str → Option Value} (X : K.In h) (G : h.Ns mainGlobals mg) {c : KL} (e : (match c with
    | .own x => He.eqO (PySem.W.nsIn K mainGlobals x) (some (some (.ref (He.ga K x))))
    | .bi x T => He.eqO (PySem.W.nsIn K mainGlobals x) (some none) && decide (bootBuiltins x = some (.type T)) && !(x == ("__name__" : Str))) = true) : KLOk mg (caK K) c := by
  cases c with
  | own x => exact PySem.W.mg_of X G (He.eqO_ok e)
  | bi x T =>
    simp only [Bool.and_eq_true, decide_eq_true_eq, Bool.not_eq_true', beq_eq_false_iff_ne] at e
    exact ⟨PySem.W.mg_none_of X G (He.eqO_ok e.1.1), e.1.2, e.2⟩
theorem kis_of {K : PySem.W.Frag} {h : Heap} {mg : Str → Option Value} (X : K.In h) (G : h.Ns mainGlobals mg) {one : Bool} {cs : List KL} {tb : List (Str × Bool)} (c : kisB K one cs tb = true) : KisAt K mg (caK K) one cs tb := by
  unfold kisB at c
  rw [Bool.and_eq_true, List.all_eq_true, List.all_eq_true] at c
  refine ⟨fun k hk => kl_of X G (c.1 k hk), fun C b hl => ?_⟩
  have z := c.2 _ (lookup_mem' hl)
  rw [Bool.and_eq_true] at z
  refine ⟨excC_of z.1, ?_⟩
  have z2 := z.2
  revert z2
  split <;> intro z2
  · exact of_decide_eq_true z2
  · exact nomatch z2
  · exact of_decide_eq_true z2
def excAB (K : PySem.W.Frag) (c : KL) (tb : List (Str × Bool)) : Bool := (match c with
    | .own x => He.eqO (PySem.W.nsIn K mainGlobals x) (some (some (.ref (He.ga K x))))
    | .bi x T => He.eqO (PySem.W.nsIn K mainGlobals x) (some none) && decide (bootBuiltins x = some (.type T)) && !(x == ("__name__" : Str))) &&
  tb.all fun p => decide (PySem.W.exmOne K (.ref (He.ga K p.1)) (c.u (caK K)) = some p.2)
theorem excA_of {K : PySem.W.Frag} {h : Heap} {mg : Str → Option Value} (X : K.In h) (G : h.Ns mainGlobals mg) {k : KL} {tb : List (Str × Bool)} (c : excAB K k tb = true) : ExcAt K mg (caK K) k tb := by
  unfold excAB at c
  rw [Bool.and_eq_true, List.all_eq_true] at c
  exact ⟨kl_of X G c.1, fun C b hl => of_decide_eq_true (c.2 _ (lookup_mem' hl))⟩
/-! the module's constants -/
theorem glob_int {K : PySem.W.Frag} {mg : Str → Option Value} {ca : CA} {x : Str} {i : Int} (h : ∃ t, mg x = some (.int i t)) : GlobK K mg ca x (.int i) := by
  obtain ⟨t, h⟩ := h
  exact ⟨.int i, _, h, ⟨t, rfl⟩, fun F => rep_int _⟩
theorem glob_str {K : PySem.W.Frag} {mg : Str → Option Value} {ca : CA} {x z : Str} (h : ∃ t, mg x = some (.str z t)) (o : okB z = true) : GlobK K mg ca x (.str z) := by
  obtain ⟨t, h⟩ := h
  exact ⟨.str z, _, h, ⟨t, rfl⟩, fun F => rep_str (okS_of o)⟩
theorem glob_tup {K : PySem.W.Frag} {mg : Str → Option Value} {ca : CA} {x : Str} {zs : List Str} (h : mg x = some (.ref (He.ga K x))) (t : He.tupB K x (zs.map He.Dv.str) = true) (o : zs.all okB = true) : GlobK K mg ca x (.tup (zs.map D.str)) := by
  refine ⟨.ref (He.ga K x), _, h, rfl, fun F => ?_⟩
  unfold Rep
  have e : ((zs.map He.Dv.str).map (He.Dv.v K)) = zs.map V.str := by rw [List.map_map]; rfl
  refine ⟨_, zs.map V.str, rfl, ?_, Reps.of_strs zs fun z hz => okS_of (List.all_eq_true.mp o z hz)⟩
  have := He.tupB_ok t F
  rw [e] at this
  exact this
/-! the hook -/
def asN (g : Addr → Option Obj) : Nat → List Addr
  | 0 => [mainGlobals, cStatics]
  | n + 1 => He.growD g (asN g n)
def obsN (n : Nat) (fa : List He.Fa) (fn : List He.DefD) (ex : PySem.W.Frag → Bool) (g : Addr → Option Obj) : He.AlD × Bool := (He.obsD fa fn (He.frG g (asN g n)), ex (He.frG g (asN g n)))
def hookN (n : Nat) (fa : List He.Fa) (fn : List He.DefD) (ex : PySem.W.Frag → Bool) : PySem.W.Hook where
  α := He.AlD × Bool
  obs := fun s => obsN n fa fn ex s.heap.get?
  val := fun _ => (He.valD fn, true)
  says := fun _ h => ∃ K : PySem.W.Frag, K.In h ∧ He.SaysD fa fn K ∧ ex K = true
  of := fun _ _ e => ⟨_, He.frG_in, congrArg (fun z : He.AlD × Bool => z.1) e, congrArg (fun z : He.AlD × Bool => z.2) e⟩
  keeps := fun _ _ _ ⟨K, hK, c⟩ k => ⟨K, PySem.W.Frag.In.keeps hK k, c⟩
theorem obsN_eq {n : Nat} {fa : List He.Fa} {fn : List He.DefD} {ex : PySem.W.Frag → Bool} {g : Addr → Option Obj} {s : Shared} (h : ∀ a, g a = s.heap.get? a) : obsN n fa fn ex g = (hookN n fa fn ex).obs s := by
  have e : g = s.heap.get? := funext h
  rw [e] <;> rfl
end Dn

set_option Elab.async false
set_option linter.all false
set_option maxRecDepth 100000
set_option maxHeartbeats 8000000
/-! # Dn, part 21: what a text does, reckoned: wishes about an expression, a statement -/
namespace Dn
open PySem PySem.Spec L2

def T {α : Type} (r : Res α) (P : α → Store → Prop) (E : Exn → Store → Prop) : Prop := match r with
  | .ok a S => P a S
  | .err e S => E e S
  | .stuck => False
/-- behind a statement: it goes on, it returns, it breaks, it raises -/
structure En where
  n : Env → Store → Prop
  r : RW → Store → Prop
  b : Env → Store → Prop := fun _ _ => False
  c : Env → Store → Prop := fun _ _ => False
  x : Exn → Env → Store → Prop := fun _ _ _ => False
def TS (r : SR) (Z : En) : Prop := match r with
  | .nx e S => Z.n e S
  | .rt w S => Z.r w S
  | .bk e S => Z.b e S
  | .ct e S => Z.c e S
  | .err e env S => Z.x e env S
  | .stuck => False
section
variable {α β : Type} {P : α → Store → Prop} {Q : β → Store → Prop} {E : Exn → Store → Prop} {S : Store} {env : Env} {Z : En}
@[simp] theorem T_ok {a : α} : T (.ok a S) P E = P a S := (rfl)
theorem T_bind {m : M α} {f : α → M β} : T ((m.bind f) S) Q E = T (m S) (fun a S' => T (f a S') Q E) E := by
  unfold M.bind
  cases m S <;> rfl
theorem T_ret {a : α} : T (M.ret a S) P E = P a S := rfl
theorem T_mono {r : Res α} {P' : α → Store → Prop} {E' : Exn → Store → Prop} (h : T r P E) (hp : ∀ a S, P a S → P' a S) (he : ∀ e S, E e S → E' e S) : T r P' E' := by
  cases r with
  | ok a S => exact hp _ _ h
  | err e S => exact he _ _ h
  | stuck => exact h
theorem TS_ex {r : Res α} {k : α → Store → SR} : TS (exS env r k) Z = T r (fun a S' => TS (k a S') Z) (fun e S' => Z.x e env S') := by
  cases r <;> rfl
theorem TS_seq {f g : SS} : TS (seqS f g env S) Z = TS (f env S) { Z with n := fun e S' => TS (g e S') Z } := by
  unfold seqS
  cases f env S <;> rfl
@[simp] theorem TS_skip : TS (skipS env S) Z = Z.n env S := (rfl)
theorem TS_if {c : BS} {f g : SS} : TS (ifS c f g env S) Z = T (c env S) (fun b S' => (b = true → TS (f env S') Z) ∧ (b = false → TS (g env S') Z)) (fun e S' => Z.x e env S') := by
  unfold ifS
  rw [TS_ex]
  congr 1
  funext b S'
  cases b <;> simp
theorem TS_mono {r : SR} {Z' : En} (h : TS r Z) (hn : ∀ e S, Z.n e S → Z'.n e S) (hr : ∀ w S, Z.r w S → Z'.r w S) (hb : ∀ e S, Z.b e S → Z'.b e S) (hc : ∀ e S, Z.c e S → Z'.c e S) (hx : ∀ y e S, Z.x y e S → Z'.x y e S) : TS r Z' := by
  cases r with
  | nx e S => exact hn _ _ h
  | rt w S => exact hr _ _ h
  | bk e S => exact hb _ _ h
  | ct e S => exact hc _ _ h
  | err y e S => exact hx _ _ _ h
  | stuck => exact h
@[simp] theorem TS_nx {e : Env} : TS (.nx e S) Z = Z.n e S := (rfl)
@[simp] theorem TS_rt {w : RW} : TS (.rt w S) Z = Z.r w S := (rfl)
@[simp] theorem TS_bk {e : Env} : TS (.bk e S) Z = Z.b e S := (rfl)
@[simp] theorem TS_ct {e : Env} : TS (.ct e S) Z = Z.c e S := (rfl)
end
/-! ### what follows, put off until the value is there -/
section
variable {α β : Type} {S : Store} {env : Env} {Z : En}
abbrev WP (α : Type) := α → Store → Prop
abbrev WE := Exn → Store → Prop
variable {P : WP RW} {E : WE} {PB : WP Bool} {PA : WP (List W)} {PO : WP (Option Int)} {p : Prim} {q : DPrim} {fa fb fo : ES} {ft fu : BS} {fs : AS} {fl fh : OS}
def slot (env : Env) (i : Nat) : Option W := (env[i]?).join
@[simp] theorem slot_0 {o : Option W} {r : Env} : slot (o :: r) 0 = o := by cases o <;> rfl
@[simp] theorem slot_s {o : Option W} {r : Env} {i : Nat} : slot (o :: r) (i + 1) = slot r i := (rfl)
def Tv (o : Option W) (P : WP RW) (S : Store) : Prop := match o with
  | some w => P (wRW w) S
  | none => False
@[simp] theorem Tv_d {x : D} : Tv (some (.d x)) P S = P (.d x) S := (rfl)
@[simp] theorem Tv_l {n : Nat} : Tv (some (.loc n)) P S = P (.loc n) S := (rfl)
@[simp] theorem T_var {i : Nat} : T (varS i env S) P E = Tv (slot env i) P S := by
  unfold varS slot
  cases h : env[i]? with
  | none => rfl
  | some o => cases o <;> rfl
@[simp] theorem T_cst {d : D} : T (cstS d env S) P E = P (.d d) S := (rfl)
@[simp] theorem toW_d {x : D} : (RW.d x).toW = .d x := (rfl)
@[simp] theorem toW_l {n : Nat} : (RW.loc n).toW = .loc n := (rfl)
@[simp] theorem toW_o {c : Cell} : (RW.own c).toW = .d c.toD := (rfl)
@[simp] theorem toD_lst {xs : List D} : (Cell.lst xs).toD = .lst xs := (rfl)
@[simp] theorem wRW_d {x : D} : wRW (.d x) = .d x := (rfl)
@[simp] theorem wRW_l {n : Nat} : wRW (.loc n) = .loc n := (rfl)
def Tr (o : Option (RW × Store)) (P : WP RW) : Prop := match o with
  | some (r, S) => P r S
  | none => False
@[simp] theorem Tr_some {r : RW} : Tr (some (r, S)) P = P r S := (rfl)
@[simp] theorem T_liftP {ws : List W} : T (liftP p ws S) P E = Tr (p ws S) P := by
  unfold liftP Tr
  cases p ws S with
  | none => rfl
  | some z => rfl
def Td (o : Option RW) (P : WP RW) (S : Store) : Prop := match o with
  | some r => P r S
  | none => False
@[simp] theorem Td_some {r : RW} : Td (some r) P S = P r S := (rfl)
def Tq (o : Option (List D)) (q : DPrim) (P : WP RW) (S : Store) : Prop := match o with
  | some ds => Td (q ds) P S
  | none => False
@[simp] theorem Tq_some {ds : List D} : Tq (some ds) q P S = Td (q ds) P S := (rfl)
@[simp] theorem Tr_liftD {ws : List W} : Tr (liftD q ws S) P = Tq (viewAll S ws) q P S := by
  unfold liftD
  cases viewAll S ws with
  | none => rfl
  | some ds =>
    show Tr ((q ds).map fun r => (r, S)) P = Td (q ds) P S
    cases q ds <;> rfl
@[simp] theorem view_d {x : D} : view S (.d x) = some x := (rfl)
def cellD : Option Cell → Option D
  | some c => if c.live = true then some c.toD else none
  | none => none
@[simp] theorem view_l {n : Nat} : view S (.loc n) = cellD (S[n]?) := by
  unfold view cellD
  first
    | (dsimp only; done)
    | (dsimp only; cases S[n]? <;> rfl)
@[simp] theorem cellD_lst {xs : List D} : cellD (some (.lst xs)) = some (.lst xs) := (rfl)
@[simp] theorem viewAll_nil : viewAll S [] = some [] := (rfl)
@[simp] theorem viewAll_cons {w : W} {ws : List W} : viewAll S (w :: ws) = (view S w).bind fun d => (viewAll S ws).map fun ds => d :: ds := by
  conv => lhs; unfold viewAll
  cases view S w with
  | none => rfl
  | some d => cases viewAll S ws <;> rfl
def Ko1 (p : Prim) (fb : ES) (env : Env) (P : WP RW) (E : WE) : WP RW := fun w S => T ((fb env).bind (fun u => liftP p [w.toW, u.toW]) S) P E
def Ko2 (p : Prim) (w : RW) (P : WP RW) : WP RW := fun u S => Tr (p [w.toW, u.toW] S) P
@[simp] theorem T_op : T (opS p fa fb env S) P E = T (fa env S) (Ko1 p fb env P E) E := T_bind
@[simp] theorem Ko1_ {w : RW} : Ko1 p fb env P E w S = T (fb env S) (Ko2 p w P) E := by
  unfold Ko1 Ko2
  rw [T_bind]
  congr 1
  funext u S'
  exact T_liftP
@[simp] theorem Ko2_ {w u : RW} : Ko2 p w P u S = Tr (p [w.toW, u.toW] S) P := (rfl)
def Ku (p : Prim) (P : WP RW) : WP RW := fun w S => Tr (p [w.toW] S) P
@[simp] theorem T_un : T (unS p fa env S) P E = T (fa env S) (Ku p P) E := by
  unfold unS
  rw [T_bind]
  congr 1
  funext u S'
  exact T_liftP
@[simp] theorem Ku_ {w : RW} : Ku p P w S = Tr (p [w.toW] S) P := (rfl)
/-! arguments -/
@[simp] theorem T_nil : T (nilS env S) PA E = PA [] S := (rfl)
def Kc1 (fs : AS) (env : Env) (PA : WP (List W)) (E : WE) : WP RW := fun w S => T ((fs env).bind (fun ws => M.ret (w.toW :: ws)) S) PA E
def Kc2 (w : RW) (PA : WP (List W)) : WP (List W) := fun ws S => PA (w.toW :: ws) S
@[simp] theorem T_cons : T (consS fa fs env S) PA E = T (fa env S) (Kc1 fs env PA E) E := T_bind
@[simp] theorem Kc1_ {w : RW} : Kc1 fs env PA E w S = T (fs env S) (Kc2 w PA) E := T_bind
@[simp] theorem Kc2_ {w : RW} {ws : List W} : Kc2 w PA ws S = PA (w.toW :: ws) S := (rfl)
def Kf (g : Sem) (P : WP RW) (E : WE) : WP (List W) := fun ws S => T (g ws S) P E
@[simp] theorem T_call {g : Sem} : T (callF g fs env S) P E = T (fs env S) (Kf g P E) E := T_bind
@[simp] theorem Kf_ {g : Sem} {ws : List W} : Kf g P E ws S = T (g ws S) P E := (rfl)
@[simp] theorem T_blt {g : Sem} : T (callS g fs env S) P E = T (fs env S) (Kf g P E) E := T_bind
def Kl (P : WP RW) : WP (List W) := fun ws S => Td ((asDs ws).map fun ds => .own (.lst ds)) P S
def Kt (P : WP RW) : WP (List W) := fun ws S => Td ((asDs ws).map fun ds => .d (.tup ds)) P S
theorem T_optM {o : Option RW} : T (optM o S) P E = Td o P S := by unfold optM; cases o <;> rfl
@[simp] theorem T_lst : T (lstS fs env S) P E = T (fs env S) (Kl P) E := by
  unfold lstS
  rw [T_bind]
  congr 1
  funext ws S'
  exact T_optM
@[simp] theorem T_tup : T (tupS fs env S) P E = T (fs env S) (Kt P) E := by
  unfold tupS
  rw [T_bind]
  congr 1
  funext ws S'
  exact T_optM
@[simp] theorem Kl_ {ws : List W} : Kl P ws S = Td ((asDs ws).map fun ds => .own (.lst ds)) P S := (rfl)
@[simp] theorem Kt_ {ws : List W} : Kt P ws S = Td ((asDs ws).map fun ds => .d (.tup ds)) P S := (rfl)
@[simp] theorem asDs_nil : asDs [] = some [] := (rfl)
@[simp] theorem asDs_cons {x : D} {r : List W} : asDs (.d x :: r) = (asDs r).map (x :: ·) := (rfl)
def Km (t : String) (p : Prim) (fs : AS) (env : Env) (P : WP RW) (E : WE) : WP RW := fun w S => isTy t S w.toW = true ∧ T ((fs env).bind (fun ws => liftP p (w.toW :: ws)) S) P E
def Km2 (p : Prim) (w : RW) (P : WP RW) : WP (List W) := fun ws S => Tr (p (w.toW :: ws) S) P
@[simp] theorem T_meth {t : String} : T (methS t p fo fs env S) P E = T (fo env S) (Km t p fs env P E) E := by
  unfold methS
  rw [T_bind]
  congr 1
  funext w S'
  show T (if isTy t S' w.toW = true then _ else _) P E = (isTy t S' w.toW = true ∧ _)
  split
  · rename_i h; simp [h]
  · rename_i h; simp [h, T]
@[simp] theorem Km_ {t : String} {w : RW} : Km t p fs env P E w S = (isTy t S w.toW = true ∧ T (fs env S) (Km2 p w P) E) := by
  unfold Km Km2
  rw [T_bind]
  congr 2
  funext ws S'
  exact T_liftP
@[simp] theorem Km2_ {w : RW} {ws : List W} : Km2 p w P ws S = Tr (p (w.toW :: ws) S) P := (rfl)
/-! tests -/
def Tt (o : Option D) (PB : WP Bool) (S : Store) : Prop := match o.bind truD with
  | some b => PB b S
  | none => False
def Kb (PB : WP Bool) : WP RW := fun w S => Tt (view S w.toW) PB S
theorem T_truW {w : W} : T (truW w S) PB E = Tt (view S w) PB S := by
  unfold truW Tt
  cases (view S w).bind truD <;> rfl
@[simp] theorem T_tst : T (tstS fa env S) PB E = T (fa env S) (Kb PB) E := by
  unfold tstS
  rw [T_bind]
  congr 1
  funext w S'
  exact T_truW
@[simp] theorem Kb_ {w : RW} : Kb PB w S = Tt (view S w.toW) PB S := (rfl)
@[simp] theorem Tt_bl {b : Bool} : Tt (some (.bl b)) PB S = PB b S := (rfl)
@[simp] theorem Tt_int {i : Int} : Tt (some (.int i)) PB S = PB (i != 0) S := (rfl)
@[simp] theorem Tt_str {x : Str} : Tt (some (.str x)) PB S = PB ((x.length : Int) != 0) S := (rfl)
@[simp] theorem Tt_lst {x : List D} : Tt (some (.lst x)) PB S = PB (!x.isEmpty) S := (rfl)
def Kn (PB : WP Bool) : WP Bool := fun b S => PB (!b) S
@[simp] theorem T_not : T (notS ft env S) PB E = T (ft env S) (Kn PB) E := T_bind
@[simp] theorem Kn_ {b : Bool} : Kn PB b S = PB (!b) S := (rfl)
def Ka (fu : BS) (env : Env) (PB : WP Bool) (E : WE) : WP Bool := fun b S => (b = true → T (fu env S) PB E) ∧ (b = false → PB false S)
def Kr (fu : BS) (env : Env) (PB : WP Bool) (E : WE) : WP Bool := fun b S => (b = true → PB true S) ∧ (b = false → T (fu env S) PB E)
@[simp] theorem T_and : T (andS ft fu env S) PB E = T (ft env S) (Ka fu env PB E) E := by
  unfold andS
  rw [T_bind]
  congr 1
  funext b S'
  unfold Ka
  cases b <;> simp [T_ret]
@[simp] theorem T_or : T (orS ft fu env S) PB E = T (ft env S) (Kr fu env PB E) E := by
  unfold orS
  rw [T_bind]
  congr 1
  funext b S'
  unfold Kr
  cases b <;> simp [T_ret]
@[simp] theorem Ka_ {b : Bool} : Ka fu env PB E b S = ((b = true → T (fu env S) PB E) ∧ (b = false → PB false S)) := (rfl)
@[simp] theorem Kr_ {b : Bool} : Kr fu env PB E b S = ((b = true → PB true S) ∧ (b = false → T (fu env S) PB E)) := (rfl)
def Knv (P : WP RW) : WP Bool := fun b S => P (.d (.bl (!b))) S
@[simp] theorem T_notV : T (notV fa env S) P E = T (fa env S) (Kb (Knv P)) E := by
  unfold notV
  rw [T_bind]
  congr 1
  funext w S'
  rw [T_bind, T_truW]
  rfl
@[simp] theorem Knv_ {b : Bool} : Knv P b S = P (.d (.bl (!b))) S := (rfl)
def Kav1 (fb : ES) (env : Env) (P : WP RW) (E : WE) : WP RW := fun w S => Tt (view S w.toW) (fun b S' => (b = true → T (fb env S') P E) ∧ (b = false → P (wRW w.toW) S')) S
def Kav (fb : ES) (env : Env) (w : RW) (P : WP RW) (E : WE) : WP Bool := fun b S => (b = true → T (fb env S) P E) ∧ (b = false → P (wRW w.toW) S)
@[simp] theorem T_andV : T (andV fa fb env S) P E = T (fa env S) (Kav1 fb env P E) E := by
  unfold andV
  rw [T_bind]
  congr 1
  funext w S'
  rw [T_bind, T_truW]
  unfold Kav1
  congr 1
  funext b S2
  cases b <;> simp [T_ret]
@[simp] theorem Kav1_ {w : RW} : Kav1 fb env P E w S = Tt (view S w.toW) (Kav fb env w P E) S := (rfl)
@[simp] theorem Kav_ {w : RW} {b : Bool} : Kav fb env w P E b S = ((b = true → T (fb env S) P E) ∧ (b = false → P (wRW w.toW) S)) := (rfl)
def Kov1 (fb : ES) (env : Env) (P : WP RW) (E : WE) : WP RW := fun w S => Tt (view S w.toW) (fun b S' => (b = true → P (wRW w.toW) S') ∧ (b = false → T (fb env S') P E)) S
def Kov (fb : ES) (env : Env) (w : RW) (P : WP RW) (E : WE) : WP Bool := fun b S => (b = true → P (wRW w.toW) S) ∧ (b = false → T (fb env S) P E)
@[simp] theorem T_orV : T (orV fa fb env S) P E = T (fa env S) (Kov1 fb env P E) E := by
  unfold orV
  rw [T_bind]
  congr 1
  funext w S'
  rw [T_bind, T_truW]
  unfold Kov1
  congr 1
  funext b S2
  cases b <;> simp [T_ret]
@[simp] theorem Kov1_ {w : RW} : Kov1 fb env P E w S = Tt (view S w.toW) (Kov fb env w P E) S := (rfl)
@[simp] theorem Kov_ {w : RW} {b : Bool} : Kov fb env w P E b S = ((b = true → P (wRW w.toW) S) ∧ (b = false → T (fb env S) P E)) := (rfl)
def Kisn (ng : Bool) (P : WP RW) : WP RW := fun w S => P (.d (.bl (if ng = true then !nonW w.toW else nonW w.toW))) S
@[simp] theorem T_isn {ng : Bool} : T (isNS ng fa env S) P E = T (fa env S) (Kisn ng P) E := T_bind
@[simp] theorem Kisn_ {ng : Bool} {w : RW} : Kisn ng P w S = P (.d (.bl (if ng = true then !nonW w.toW else nonW w.toW))) S := (rfl)
def Tb (o : Option Bool) (P : WP RW) (S : Store) : Prop := match o with
  | some b => P (.d (.bl b)) S
  | none => False
@[simp] theorem Tb_some {b : Bool} : Tb (some b) P S = P (.d (.bl b)) S := (rfl)
def Kisi (t : TyK) (P : WP RW) : WP RW := fun w S => Tb ((view S w.toW).bind (isT t)) P S
@[simp] theorem T_isi {t : TyK} : T (isiS t fa env S) P E = T (fa env S) (Kisi t P) E := by
  unfold isiS
  rw [T_bind]
  congr 1
  funext w S'
  unfold Kisi Tb
  cases (view S' w.toW).bind (isT t) <;> rfl
@[simp] theorem Kisi_ {t : TyK} {w : RW} : Kisi t P w S = Tb ((view S w.toW).bind (isT t)) P S := (rfl)
/-! slices -/
@[simp] theorem T_no : T (noS env S) PO E = PO none S := (rfl)
def Kint (PO : WP (Option Int)) : WP RW := fun w S => match w with
  | .d (.int i) => PO (some i) S
  | _ => False
@[simp] theorem T_int : T (intS fa env S) PO E = T (fa env S) (Kint PO) E := by
  unfold intS
  rw [T_bind]
  congr 1
  funext w S'
  unfold Kint
  cases w with
  | d x => cases x <;> rfl
  | loc n => rfl
  | own c => rfl
@[simp] theorem Kint_ {i : Int} : Kint PO (.d (.int i)) S = PO (some i) S := (rfl)
def Ks1 (fl fh : OS) (env : Env) (P : WP RW) (E : WE) : WP RW := fun w S => T ((fl env).bind (fun lo => (fh env).bind fun hi => fun S => match (view S w.toW).bind fun d => slD d lo hi with
  | some r => .ok r S
  | none => .stuck) S) P E
def Ks2 (w : RW) (fh : OS) (env : Env) (P : WP RW) (E : WE) : WP (Option Int) := fun lo S => T ((fh env).bind (fun hi => fun S => match (view S w.toW).bind fun d => slD d lo hi with
  | some r => .ok r S
  | none => .stuck) S) P E
def Ks3 (w : RW) (lo : Option Int) (P : WP RW) : WP (Option Int) := fun hi S => Td ((view S w.toW).bind fun d => slD d lo hi) P S
@[simp] theorem T_sl : T (slS fa fl fh env S) P E = T (fa env S) (Ks1 fl fh env P E) E := T_bind
@[simp] theorem Ks1_ {w : RW} : Ks1 fl fh env P E w S = T (fl env S) (Ks2 w fh env P E) E := T_bind
@[simp] theorem Ks2_ {w : RW} {lo : Option Int} : Ks2 w fh env P E lo S = T (fh env S) (Ks3 w lo P) E := by
  unfold Ks2
  rw [T_bind]
  congr 1
  funext hi S'
  unfold Ks3 Td
  cases (view S' w.toW).bind fun d => slD d lo hi <;> rfl
@[simp] theorem Ks3_ {w : RW} {lo hi : Option Int} : Ks3 w lo P hi S = Td ((view S w.toW).bind fun d => slD d lo hi) P S := (rfl)
/-! ### statements -/
variable {f g : SS}
def Kseq (g : SS) (Z : En) : Env → Store → Prop := fun e S => TS (g e S) Z
def En.sq (g : SS) (Z : En) : En := { Z with n := Kseq g Z }
@[simp] theorem sq_n : (Z.sq g).n = Kseq g Z := (rfl)
@[simp] theorem sq_r : (Z.sq g).r = Z.r := (rfl)
@[simp] theorem sq_b : (Z.sq g).b = Z.b := (rfl)
@[simp] theorem sq_c : (Z.sq g).c = Z.c := (rfl)
@[simp] theorem sq_x : (Z.sq g).x = Z.x := (rfl)
theorem TS_sq : TS (seqS f g env S) Z = TS (f env S) (Z.sq g) := TS_seq
theorem Kseq_ {e : Env} : Kseq g Z e S = TS (g e S) Z := rfl
def Kx (Z : En) (env : Env) : WE := fun e S => Z.x e env S
@[simp] theorem Kx_ {e : Exn} : Kx Z env e S = Z.x e env S := (rfl)
def Kret (Z : En) : WP RW := fun w S => Z.r w S
@[simp] theorem TS_ret : TS (retS fa env S) Z = T (fa env S) (Kret Z) (Kx Z env) := TS_ex
@[simp] theorem Kret_ {w : RW} : Kret Z w S = Z.r w S := (rfl)
@[simp] theorem TS_retN : TS (Dn.retN env S) Z = Z.r (.d .non) S := (rfl)
def Kdrop (Z : En) (env : Env) : WP RW := fun _ S => Z.n env S
@[simp] theorem TS_drop : TS (dropS fa env S) Z = T (fa env S) (Kdrop Z env) (Kx Z env) := TS_ex
@[simp] theorem Kdrop_ {w : RW} : Kdrop Z env w S = Z.n env S := (rfl)
def Kset (i : Nat) (mu : Bool) (Z : En) (env : Env) : WP RW := fun w S => TS (match mu, w with
  | true, .own c => .nx (env.set i (some (.loc S.length))) (S ++ [c])
  | _, w => .nx (env.set i (some w.toW)) S) Z
@[simp] theorem TS_set {i : Nat} {mu : Bool} : TS (setS i mu fa env S) Z = T (fa env S) (Kset i mu Z env) (Kx Z env) := TS_ex
@[simp] theorem Kset_d {i : Nat} {mu : Bool} {x : D} : Kset i mu Z env (.d x) S = Z.n (env.set i (some (.d x))) S := by cases mu <;> rfl
@[simp] theorem Kset_l {i : Nat} {mu : Bool} {n : Nat} : Kset i mu Z env (.loc n) S = Z.n (env.set i (some (.loc n))) S := by cases mu <;> rfl
@[simp] theorem Kset_t {i : Nat} {c : Cell} : Kset i true Z env (.own c) S = Z.n (env.set i (some (.loc S.length))) (S ++ [c]) := (rfl)
@[simp] theorem Kset_f {i : Nat} {c : Cell} : Kset i false Z env (.own c) S = Z.n (env.set i (some (.d c.toD))) S := (rfl)
def Kif (f g : SS) (Z : En) (env : Env) : WP Bool := fun b S => (b = true → TS (f env S) Z) ∧ (b = false → TS (g env S) Z)
@[simp] theorem TS_ife : TS (ifS ft f g env S) Z = T (ft env S) (Kif f g Z env) (Kx Z env) := TS_if
@[simp] theorem Kif_ {b : Bool} : Kif f g Z env b S = ((b = true → TS (f env S) Z) ∧ (b = false → TS (g env S) Z)) := (rfl)
def Kst1 (fo fi : ES) (Z : En) (env : Env) : WP RW := fun v S => T (fo env S) (fun o S => T (fi env S) (fun i S => Tr (setP [o.toW, i.toW, v.toW] S) fun _ S => Z.n env S) (Kx Z env)) (Kx Z env)
def Kst2 (fi : ES) (v : RW) (Z : En) (env : Env) : WP RW := fun o S => T (fi env S) (fun i S => Tr (setP [o.toW, i.toW, v.toW] S) fun _ S => Z.n env S) (Kx Z env)
def Kst3 (o v : RW) (Z : En) (env : Env) : WP RW := fun i S => Tr (setP [o.toW, i.toW, v.toW] S) (Kdrop Z env)
@[simp] theorem TS_sto {fi : ES} : TS (stoS fo fi fa env S) Z = T (fa env S) (Kst1 fo fi Z env) (Kx Z env) := by
  unfold stoS
  rw [TS_ex, T_bind]
  congr 1
  funext v S'
  rw [T_bind]
  unfold Kst1
  congr 1
  funext o S2
  rw [T_bind]
  congr 1
  funext i S3
  exact T_liftP
@[simp] theorem Kst1_ {fi : ES} {v : RW} : Kst1 fo fi Z env v S = T (fo env S) (Kst2 fi v Z env) (Kx Z env) := (rfl)
@[simp] theorem Kst2_ {fi : ES} {o v : RW} : Kst2 fi v Z env o S = T (fi env S) (Kst3 o v Z env) (Kx Z env) := (rfl)
@[simp] theorem Kst3_ {o i v : RW} : Kst3 o v Z env i S = Tr (setP [o.toW, i.toW, v.toW] S) (Kdrop Z env) := (rfl)
theorem TS_rse {nm fn : Str} : TS (rseS nm fn fa env S) Z = T (fa env S) (fun w S' => TS (match w.toW with
  | .d x => .err ⟨nm, [fn], [x]⟩ env S'
  | _ => .stuck) Z) (Kx Z env) := TS_ex
end
section
variable {S : Store} {env : Env} {Z : En} {P : WP RW} {E : WE}
/-- a def's end -/
def EnD (n : Nat) (P : RW → Store → Prop) (E : Exn → Store → Prop) : En where
  n := fun _ S' => P (.d .non) (S'.take n)
  r := fun w S' => T (exitR n w S') P E
  x := fun e _ S' => E e (S'.take n)
@[simp] theorem EnD_n {n : Nat} {e : Env} : (EnD n P E).n e S = P (.d .non) (S.take n) := (rfl)
@[simp] theorem EnD_r {n : Nat} {w : RW} : (EnD n P E).r w S = T (exitR n w S) P E := (rfl)
@[simp] theorem EnD_b {n : Nat} {e : Env} : (EnD n P E).b e S = False := (rfl)
@[simp] theorem EnD_c {n : Nat} {e : Env} : (EnD n P E).c e S = False := (rfl)
@[simp] theorem EnD_x {n : Nat} {y : Exn} {e : Env} : (EnD n P E).x y e S = E y (S.take n) := (rfl)
@[simp] theorem exit_d {n : Nat} {x : D} : T (exitR n (.d x) S) P E = P (.d x) (S.take n) := (rfl)
@[simp] theorem exit_o {n : Nat} {c : Cell} : T (exitR n (.own c) S) P E = P (.own c) (S.take n) := (rfl)
theorem T_def {np nN : Nat} {f : SS} {ws : List W} {P : RW → Store → Prop} (hl : ws.length = np) (h : TS (f (startE nN ws) S) (EnD S.length P E)) : T (defS np nN f ws S) P E := by
  unfold defS
  rw [if_pos hl]
  cases e : f (startE nN ws) S with
  | nx env' S' => rw [e] at h; exact h
  | rt w S' => rw [e] at h; exact h
  | bk env' S' => rw [e] at h; exact h.elim
  | ct env' S' => rw [e] at h; exact h.elim
  | err x env' S' => rw [e] at h; exact h
  | stuck => rw [e] at h; exact h.elim
theorem T_eq {r : Res α} {a : α} {S' : Store} (h : T r (fun b S2 => b = a ∧ S2 = S') (fun _ _ => False)) : r = .ok a S' := by
  cases r with
  | ok b S2 => obtain ⟨rfl, rfl⟩ := h; rfl
  | err e S2 => exact h.elim
  | stuck => exact h.elim
end
end Dn

set_option Elab.async false
set_option linter.all false
set_option maxRecDepth 100000
set_option maxHeartbeats 8000000
/-! # Dn, part 22: loops, comprehensions, errors, reckoned -/
namespace Dn
open PySem PySem.Spec L2
section
variable {S : Store} {env : Env} {Z : En} {P : WP RW} {E : WE} {fa fo fe : ES} {fs : AS} {f g : SS} {t : TGt} {fi : IS} {tt : BS}
abbrev WI := WP (Gs × List D)
variable {PI : WI}
def Kover (PI : WI) (E : WE) : WP RW := fun w S => T (itemsW w.toW S) PI E
@[simp] theorem T_over : T (overS fa env S) PI E = T (fa env S) (Kover PI E) E := T_bind
@[simp] theorem Kover_lst {xs : List D} : Kover PI E (.d (.lst xs)) S = PI ([], xs) S := (rfl)
@[simp] theorem Kover_own {xs : List D} : Kover PI E (.own (.lst xs)) S = PI ([], xs) S := (rfl)
@[simp] theorem Kover_tup {xs : List D} : Kover PI E (.d (.tup xs)) S = PI ([], xs) S := (rfl)
@[simp] theorem Kover_str {x : Str} : Kover PI E (.d (.str x)) S = PI ([], signsD x) S := (rfl)
def Krng (PI : WI) (E : WE) : WP (List W) := fun ws S => T ((match ws with
  | [.d (.int j)] => if -(2 ^ 62) ≤ j ∧ j < 2 ^ 62 then Res.ok (([], rngD 0 j.toNat) : Gs × List D) S else .stuck
  | [.d (.int i), .d (.int j)] => if -(2 ^ 62) ≤ i ∧ i < 2 ^ 62 ∧ -(2 ^ 62) ≤ j ∧ j < 2 ^ 62 then .ok ([], rngD i (j - i).toNat) S else .stuck
  | _ => .stuck)) PI E
@[simp] theorem T_rng : T (rngS fs env S) PI E = T (fs env S) (Krng PI E) E := T_bind
theorem T_ite {α : Type} {c : Prop} [Decidable c] {a : α} {Q : WP α} : T (if c then .ok a S else .stuck) Q E = (c ∧ Q a S) := by
  split
  · rename_i h; simp [T, h]
  · rename_i h; simp [T, h]
def okR (j : Int) : Prop := -(2 ^ 62) ≤ j ∧ j < 2 ^ 62
theorem okR_of {j : Int} (h : -1000000000 ≤ j) (h2 : j ≤ 1000000000) : okR j := by unfold okR; omega
@[simp] theorem Krng1 {j : Int} : Krng PI E [.d (.int j)] S = (okR j ∧ PI ([], rngD 0 j.toNat) S) := T_ite
@[simp] theorem Krng2 {i j : Int} : Krng PI E [.d (.int i), .d (.int j)] S = ((okR i ∧ okR j) ∧ PI ([], rngD i (j - i).toNat) S) := by
  have e : (okR i ∧ okR j) = (-(2 ^ 62) ≤ i ∧ i < 2 ^ 62 ∧ -(2 ^ 62) ≤ j ∧ j < 2 ^ 62) := by unfold okR; rw [and_assoc]
  rw [e]
  exact T_ite
def Kfor (t : TGt) (f : SS) (Z : En) (env : Env) : WI := fun a S => TS (forLoop a.1 t f S.length a.2 env S) Z
@[simp] theorem TS_for : TS (forS t fi f env S) Z = T (fi env S) (Kfor t f Z env) (Kx Z env) := TS_ex
@[simp] theorem Kfor_ {a : Gs × List D} : Kfor t f Z env a S = TS (forLoop a.1 t f S.length a.2 env S) Z := (rfl)
theorem gOk_nil : gOk [] S := fun p h => nomatch h
/-- a loop, by an invariant of what is left -/
def En.lp (n : Nat) (I : Env → Store → Prop) (Z : En) : En := { n := fun e S' => I (gcE n e) (S'.take n), c := fun e S' => I (gcE n e) (S'.take n), r := Z.r, b := Z.n, x := Z.x }
@[simp] theorem lp_n {n : Nat} {I : Env → Store → Prop} {e : Env} : (Z.lp n I).n e S = I (gcE n e) (S.take n) := (rfl)
@[simp] theorem lp_c {n : Nat} {I : Env → Store → Prop} {e : Env} : (Z.lp n I).c e S = I (gcE n e) (S.take n) := (rfl)
@[simp] theorem lp_r {n : Nat} {I : Env → Store → Prop} : (Z.lp n I).r = Z.r := (rfl)
@[simp] theorem lp_b {n : Nat} {I : Env → Store → Prop} : (Z.lp n I).b = Z.n := (rfl)
@[simp] theorem lp_x {n : Nat} {I : Env → Store → Prop} : (Z.lp n I).x = Z.x := (rfl)
theorem for_rule {n : Nat} {I : List D → Env → Store → Prop}
    (hs : ∀ x rest env S, I (x :: rest) env S → ∃ env1, bindT t x env = some env1 ∧ TS (f env1 S) (Z.lp n (I rest)))
    (he : ∀ env S, I [] env S → Z.n env S) : ∀ {xs : List D} {env : Env} {S : Store}, I xs env S → TS (forLoop [] t f n xs env S) Z
  | [], env, S, h => by
    unfold forLoop
    rw [if_pos gOk_nil]
    exact he env S h
  | x :: xs, env, S, h => by
    obtain ⟨env1, hb, h1⟩ := hs x xs env S h
    unfold forLoop
    rw [if_pos gOk_nil]
    simp only [hb]
    cases e : f env1 S with
    | nx env2 S2 => rw [e] at h1; exact for_rule hs he h1
    | ct env2 S2 => rw [e] at h1; exact for_rule hs he h1
    | bk env2 S2 => rw [e] at h1; exact h1
    | rt w S2 => rw [e] at h1; exact h1
    | err y env2 S2 => rw [e] at h1; exact h1
    | stuck => rw [e] at h1; exact h1.elim
theorem TS_fnil {n : Nat} : TS (forLoop [] t f n [] env S) Z = Z.n env S := by
  unfold forLoop
  rw [if_pos gOk_nil]
  rfl
def Kloop (t : TGt) (f : SS) (n : Nat) (xs : List D) (Z : En) : Env → Store → Prop := fun e S => TS (forLoop [] t f n xs e S) Z
theorem Kloop_ {n : Nat} {xs : List D} : Kloop t f n xs Z env S = TS (forLoop [] t f n xs env S) Z := rfl
theorem TS_fcons {n : Nat} {x : D} {xs : List D} {env1 : Env} (hb : bindT t x env = some env1) : TS (forLoop [] t f n (x :: xs) env S) Z = TS (f env1 S) (Z.lp n (Kloop t f n xs Z)) := by
  conv => lhs; unfold forLoop
  rw [if_pos gOk_nil]
  simp only [hb]
  cases f env1 S <;> rfl
theorem TS_fnm {n i : Nat} {x : D} {xs : List D} : TS (forLoop [] (.nm i) f n (x :: xs) env S) Z = TS (f (env.set i (some (.d x))) S) (Z.lp n (Kloop (.nm i) f n xs Z)) := TS_fcons rfl
@[simp] theorem gcE_d {n : Nat} {x : D} {r : Env} : gcE n (some (.d x) :: r) = some (.d x) :: gcE n r := (rfl)
@[simp] theorem gcE_n {n : Nat} {r : Env} : gcE n (none :: r) = none :: gcE n r := (rfl)
@[simp] theorem gcE_nil {n : Nat} : gcE n [] = [] := (rfl)
@[simp] theorem gcE_l {n m : Nat} {r : Env} : gcE n (some (.loc m) :: r) = (if m < n then some (.loc m) else none) :: gcE n r := (rfl)
def Klc (own : List Nat) (t : TGt) (tt : BS) (fe : ES) (env : Env) (P : WP RW) (E : WE) : WI := fun a S => T (lcLoop a.1 t tt fe (wipeE env own) a.2 [] S) P E
@[simp] theorem T_lc {own : List Nat} : T (lcS own t fi tt fe env S) P E = T (fi env S) (Klc own t tt fe env P E) E := T_bind
@[simp] theorem Klc_ {own : List Nat} {a : Gs × List D} : Klc own t tt fe env P E a S = T (lcLoop a.1 t tt fe (wipeE env own) a.2 [] S) P E := (rfl)
abbrev noE : WE := fun _ _ => False
theorem T_calm {α : Type} {m : M α} {Q : WP α} (h : T (m S) Q noE) : T (m.calm S) Q E := by
  unfold M.calm
  cases e : m S with
  | ok a S' => rw [e] at h; exact h
  | err x S' => rw [e] at h; exact h.elim
  | stuck => rw [e] at h; exact h.elim
/-- a list made, by an invariant of what is left and what is made -/
theorem lc_rule {I : List D → List D → Store → Prop}
    (hs : ∀ x rest acc S, I (x :: rest) acc S → ∃ env1, bindT t x env = some env1 ∧ T (tt env1 S) (fun b S' => (b = true → T (fe env1 S') (fun w S2 => ∃ y, w.toW = .d y ∧ acc.length < sizeLine ∧ I rest (acc ++ [y]) S2) noE) ∧ (b = false → I rest acc S')) noE)
    (he : ∀ acc S, I [] acc S → P (.own (.lst acc)) S) : ∀ {xs acc : List D} {S : Store}, I xs acc S → T (lcLoop [] t tt fe env xs acc S) P E
  | [], acc, S, h => by
    unfold lcLoop
    rw [if_pos gOk_nil]
    exact he acc S h
  | x :: xs, acc, S, h => by
    obtain ⟨env1, hb, h1⟩ := hs x xs acc S h
    unfold lcLoop
    rw [if_pos gOk_nil]
    simp only [hb]
    rw [T_bind]
    refine T_calm (T_mono h1 (fun b S' hb' => ?_) fun _ _ z => z)
    cases b with
    | false => rw [if_neg Bool.false_ne_true]; exact lc_rule hs he (hb'.2 rfl)
    | true =>
      rw [if_pos rfl, T_bind]
      refine T_calm (T_mono (hb'.1 rfl) (fun w S2 ⟨y, hy, hl, hI⟩ => ?_) fun _ _ z => z)
      simp only [hy]
      rw [if_pos hl]
      exact lc_rule hs he hI
@[simp] theorem T_yes {Q : WP Bool} : T (yesS env S) Q E = Q true S := (rfl)
/-! errors -/
def Krse (nm fn : Str) (Z : En) (env : Env) : WP RW := fun w S => TS (match w.toW with
  | .d x => .err ⟨nm, [fn], [x]⟩ env S
  | _ => .stuck) Z
@[simp] theorem TS_raise {nm fn : Str} : TS (rseS nm fn fa env S) Z = T (fa env S) (Krse nm fn Z env) (Kx Z env) := TS_rse
@[simp] theorem Krse_ {nm fn : Str} {x : D} : Krse nm fn Z env (.d x) S = Z.x ⟨nm, [fn], [x]⟩ env S := (rfl)
def Ktry (tb : List (Str × Bool)) (i : Nat) (g : SS) (Z : En) : Exn → Env → Store → Prop := fun e env S => match tb.lookup e.C with
  | some true => TS (finS i (g (env.set i (some (.d (.exn e.C e.ks e.vs)))) S)) Z
  | some false => Z.x e env S
  | none => False
def En.tr (tb : List (Str × Bool)) (i : Nat) (g : SS) (Z : En) : En := { Z with x := Ktry tb i g Z }
@[simp] theorem tr_n {tb : List (Str × Bool)} {i : Nat} : (Z.tr tb i g).n = Z.n := (rfl)
@[simp] theorem tr_r {tb : List (Str × Bool)} {i : Nat} : (Z.tr tb i g).r = Z.r := (rfl)
@[simp] theorem tr_b {tb : List (Str × Bool)} {i : Nat} : (Z.tr tb i g).b = Z.b := (rfl)
@[simp] theorem tr_c {tb : List (Str × Bool)} {i : Nat} : (Z.tr tb i g).c = Z.c := (rfl)
@[simp] theorem tr_x {tb : List (Str × Bool)} {i : Nat} : (Z.tr tb i g).x = Ktry tb i g Z := (rfl)
@[simp] theorem Ktry_ {tb : List (Str × Bool)} {i : Nat} {e : Exn} (h : tb.lookup e.C = some true) : Ktry tb i g Z e env S = TS (finS i (g (env.set i (some (.d (.exn e.C e.ks e.vs)))) S)) Z := by unfold Ktry; rw [h]
@[simp] theorem TS_try {tb : List (Str × Bool)} {i : Nat} : TS (tryS f tb i g env S) Z = TS (f env S) (Z.tr tb i g) := by
  unfold tryS
  cases f env S with
  | err e env' S' =>
    show TS (match tb.lookup e.C with | some true => _ | some false => _ | none => _) Z = Ktry tb i g Z e env' S'
    unfold Ktry
    cases tb.lookup e.C with
    | none => rfl
    | some b => cases b <;> rfl
  | nx _ _ => rfl
  | rt _ _ => rfl
  | bk _ _ => rfl
  | ct _ _ => rfl
  | stuck => rfl
def En.fin (i : Nat) (Z : En) : En where
  n := fun e S => (noXE (e.set i none) && noXS S) = true ∧ Z.n (e.set i none) S
  b := fun e S => (noXE (e.set i none) && noXS S) = true ∧ Z.b (e.set i none) S
  c := fun e S => (noXE (e.set i none) && noXS S) = true ∧ Z.c (e.set i none) S
  r := fun w S => (noXR w && noXS S) = true ∧ Z.r w S
@[simp] theorem fi_n {i : Nat} {e : Env} : (Z.fin i).n e S = ((noXE (e.set i none) && noXS S) = true ∧ Z.n (e.set i none) S) := (rfl)
@[simp] theorem fi_r {i : Nat} {w : RW} : (Z.fin i).r w S = ((noXR w && noXS S) = true ∧ Z.r w S) := (rfl)
@[simp] theorem TS_fin {i : Nat} {r : SR} : TS (finS i r) Z = TS r (Z.fin i) := by
  cases r <;> simp only [finS]
  all_goals first
    | rfl
    | (split <;> rename_i h <;> simp only [TS, En.fin, h] <;> simp)
def Katt (tb : List Str) (fn : Str) (P : WP RW) (E : WE) : WP RW := fun w S => T (match w.toW with
  | .d (.exn C ks vs) => if C ∈ tb then match (ks.zip vs).lookup fn with
      | some d => .ok (.d d) S
      | none => .stuck
    else .stuck
  | _ => .stuck) P E
@[simp] theorem T_att {tb : List Str} {fn : Str} : T (attX tb fn fo env S) P E = T (fo env S) (Katt tb fn P E) E := T_bind
@[simp] theorem Katt_ {tb : List Str} {fn C : Str} {ks : List Str} {vs : List D} : Katt tb fn P E (.d (.exn C ks vs)) S = (C ∈ tb ∧ Td (((ks.zip vs).lookup fn).map RW.d) P S) := by
  show T (if C ∈ tb then match (ks.zip vs).lookup fn with | some d => .ok (.d d) S | none => .stuck else .stuck) P E = _
  split
  · rename_i h
    simp only [h, true_and]
    cases (ks.zip vs).lookup fn <;> rfl
  · rename_i h
    simp [h, T]
def Kxis (tb : List (Str × Bool)) (P : WP RW) (E : WE) : WP RW := fun w S => T (match w.toW with
  | .d (.exn C ks vs) => match tb.lookup C with
      | some b => .ok (.d (.bl b)) S
      | none => .stuck
  | _ => .stuck) P E
@[simp] theorem T_xis {tb : List (Str × Bool)} : T (xisS tb fo env S) P E = T (fo env S) (Kxis tb P E) E := T_bind
@[simp] theorem Kxis_ {tb : List (Str × Bool)} {C : Str} {ks : List Str} {vs : List D} : Kxis tb P E (.d (.exn C ks vs)) S = Tb (tb.lookup C) P S := by
  show T (match tb.lookup C with | some b => .ok (.d (.bl b)) S | none => .stuck) P E = _
  cases tb.lookup C <;> rfl
end
/-! ### operations on what is known -/
section
variable {i j : Int} {a b : Str} {xs ys : List D} {x y : D}
@[simp] theorem add_ii : addD [.int i, .int j] = some (.d (.int (i + j))) := (rfl)
@[simp] theorem add_ss (h : a.length + b.length ≤ sizeLine) : addD [.str a, .str b] = some (.d (.str (a ++ b))) := if_pos h
@[simp] theorem add_ll (h : xs.length + ys.length ≤ sizeLine) : addD [.lst xs, .lst ys] = some (.own (.lst (xs ++ ys))) := if_pos h
@[simp] theorem sub_ii : subD [.int i, .int j] = some (.d (.int (i - j))) := (rfl)
@[simp] theorem mul_ii (h : (-(2 ^ 64) < i ∧ i < 2 ^ 64) ∨ (-(2 ^ 64) < j ∧ j < 2 ^ 64)) : mulD [.int i, .int j] = some (.d (.int (i * j))) := if_pos h
@[simp] theorem mul_si {k : Int} (h : 0 ≤ k ∧ k ≤ 10000 ∧ a.length ≤ 1000) : mulD [.str a, .int k] = some (.d (.str (Txt.mul a k))) := if_pos h
@[simp] theorem fdiv_ii (h : 0 < j ∧ j < 1073741824) : fdivD [.int i, .int j] = some (.d (.int (i / j))) := if_pos h
@[simp] theorem mod_ii (h : 0 < j) : modD [.int i, .int j] = some (.d (.int (i % j))) := if_pos h
@[simp] theorem pow_ii (h : 0 ≤ j ∧ j ≤ 1000000 ∧ i.natAbs < 2 ^ 64) : powD [.int i, .int j] = some (.d (.int (i ^ j.toNat))) := if_pos h
@[simp] theorem lt_ii : ltD [.int i, .int j] = blD (decide (i < j)) := (rfl)
@[simp] theorem le_ii : leD [.int i, .int j] = blD (decide (i ≤ j)) := (rfl)
@[simp] theorem gt_ii : gtD [.int i, .int j] = blD (decide (j < i)) := (rfl)
@[simp] theorem ge_ii : geD [.int i, .int j] = blD (decide (j ≤ i)) := (rfl)
@[simp] theorem eq_ii : eqD [.int i, .int j] = blD (i == j) := (rfl)
@[simp] theorem ne_ii : neD [.int i, .int j] = blD (!(i == j)) := (rfl)
@[simp] theorem eq_ss : eqD [.str a, .str b] = blD (a == b) := (rfl)
@[simp] theorem ne_ss : neD [.str a, .str b] = blD (!(a == b)) := (rfl)
@[simp] theorem eq_bb {p q : Bool} : eqD [.bl p, .bl q] = blD (p == q) := (rfl)
@[simp] theorem blD_ {p : Bool} : blD p = some (.d (.bl p)) := (rfl)
@[simp] theorem in_ss : inD [.str a, .str b] = blD (strIn a b) := by simp [inD, inN, inB]
@[simp] theorem nin_ss : notinD [.str a, .str b] = blD (!strIn a b) := by simp [notinD, inN, inB]
@[simp] theorem ix_s {c : Nat} (h : atI a.cps.toList i = some c) : ixD [.str a, .int i] = some (.d (.str ⟨#[c]⟩)) := by simp [ixD, h]
@[simp] theorem ix_l {d : D} (h : atI xs i = some d) : ixD [.lst xs, .int i] = some (.d d) := by simp [ixD, h]
@[simp] theorem ix_t {d : D} (h : atI xs i = some d) : ixD [.tup xs, .int i] = some (.d d) := by simp [ixD, h]
@[simp] theorem len_s : lenD [.str a] = some (.d (.int a.length)) := (rfl)
@[simp] theorem len_l : lenD [.lst xs] = some (.d (.int xs.length)) := (rfl)
@[simp] theorem len_t : lenD [.tup xs] = some (.d (.int xs.length)) := (rfl)
@[simp] theorem int_i : intD [.int i] = some (.d (.int i)) := (rfl)
@[simp] theorem bop_add : bopD .add = addD := (rfl)
@[simp] theorem bop_sub : bopD .sub = subD := (rfl)
@[simp] theorem bop_mul : bopD .mul = mulD := (rfl)
@[simp] theorem bop_fdiv : bopD .fdiv = fdivD := (rfl)
@[simp] theorem bop_mod : bopD .mod = modD := (rfl)
@[simp] theorem bop_pow : bopD .pow = powD := (rfl)
@[simp] theorem cmp_eq : cmpD .eq = eqD := (rfl)
@[simp] theorem cmp_ne : cmpD .ne = neD := (rfl)
@[simp] theorem cmp_lt : cmpD .lt = ltD := (rfl)
@[simp] theorem cmp_le : cmpD .le = leD := (rfl)
@[simp] theorem cmp_gt : cmpD .gt = gtD := (rfl)
@[simp] theorem cmp_ge : cmpD .ge = geD := (rfl)
@[simp] theorem cmp_in : cmpD .isin = inD := (rfl)
@[simp] theorem cmp_nin : cmpD .notin = notinD := (rfl)
@[simp] theorem bp_len : bpD .len = lenD := (rfl)
@[simp] theorem bp_int : bpD .int = intD := (rfl)
@[simp] theorem bp_list : bpD .list = listD := (rfl)
@[simp] theorem bp_str : bpD .str = strD := (rfl)
@[simp] theorem mp_join : mpP .join = liftD joinD := (rfl)
@[simp] theorem mp_app : mpP .append = appendP := (rfl)
end
end Dn

set_option Elab.async false
set_option linter.all false
set_option maxRecDepth 100000
set_option maxHeartbeats 8000000
/-! # Dn, part 23: chains, sets, sorted lists, reckoned -/
namespace Dn
open PySem PySem.Spec L2
section
variable {S : Store} {env : Env} {P : WP RW} {E : WE} {p p' : Prim} {fa fb fc : ES}
@[simp] theorem O1_sr : O1.sem .srset fa = unS (liftD srsetD) fa := (rfl)
@[simp] theorem O1_ln : O1.sem .lnset fa = unS (liftD lnsetD) fa := (rfl)
def Kch1 (p p' : Prim) (fb fc : ES) (env : Env) (P : WP RW) (E : WE) : WP RW := fun w S => T (((fb env).bind fun u => (liftP p [w.toW, u.toW]).bind fun r => match blOf r with
  | some true => (fc env).bind fun z => liftP p' [u.toW, z.toW]
  | some false => M.ret (.d (.bl false))
  | none => fun _ => .stuck) S) P E
def Kch3 (p' : Prim) (fc : ES) (env : Env) (u : RW) (P : WP RW) (E : WE) : WP RW := fun r S => T ((match blOf r with
  | some true => (fc env).bind fun z => liftP p' [u.toW, z.toW]
  | some false => M.ret (.d (.bl false))
  | none => fun _ => .stuck) S) P E
def Kch2 (p p' : Prim) (fc : ES) (env : Env) (w : RW) (P : WP RW) (E : WE) : WP RW := fun u S => Tr (p [w.toW, u.toW] S) (Kch3 p' fc env u P E)
@[simp] theorem T_chn : T (chnS p p' fa fb fc env S) P E = T (fa env S) (Kch1 p p' fb fc env P E) E := T_bind
@[simp] theorem Kch1_ {w : RW} : Kch1 p p' fb fc env P E w S = T (fb env S) (Kch2 p p' fc env w P E) E := by
  unfold Kch1 Kch2
  rw [T_bind]
  congr 1
  funext u S'
  rw [T_bind, T_liftP]
  rfl
@[simp] theorem Kch2_ {w u : RW} : Kch2 p p' fc env w P E u S = Tr (p [w.toW, u.toW] S) (Kch3 p' fc env u P E) := (rfl)
@[simp] theorem Kch3_ {u : RW} {b : Bool} : Kch3 p' fc env u P E (.d (.bl b)) S = ((b = true → T (fc env S) (Ko2 p' u P) E) ∧ (b = false → P (.d (.bl false)) S)) := by
  unfold Kch3 blOf
  cases b with
  | false => simp [T_ret]
  | true =>
    simp only [T_bind]
    simp
    exact Iff.rfl
@[simp] theorem bp_sorted : bpD .sorted = sortedD := (rfl)
theorem keysL_int (ns : List Int) : keysL (ns.map D.int) = some (.inl ns) := by unfold keysL; rw [asInts_map]
theorem asInts_str {x : Str} {xs : List D} : asInts (.str x :: xs) = none := rfl
theorem keysL_str : ∀ xs : List Str, ∃ k, keysL (xs.map D.str) = some k ∧ srtKeys k = (Ks.isort Ks.ltS xs).map D.str ∧ srtKeys (ddKeys k) = (Ks.isort Ks.ltS (Ks.dd xs)).map D.str ∧ nKeys k = (Ks.dd xs).length
  | [] => ⟨.inl [], rfl, rfl, rfl, rfl⟩
  | x :: xs => ⟨.inr (x :: xs), by unfold keysL; rw [List.map_cons, asInts_str]; show (asStrs ((x :: xs).map D.str)).map Sum.inr = _; rw [asStrs_map]; rfl, rfl, rfl, rfl⟩
theorem sorted_str (xs : List Str) : sortedD [.lst (xs.map D.str)] = some (.own (.lst ((Ks.isort Ks.ltS xs).map D.str))) := by
  obtain ⟨k, h1, h2, _⟩ := keysL_str xs
  unfold sortedD
  simp [h1, h2]
theorem sorted_int (xs : List Int) : sortedD [.lst (xs.map D.int)] = some (.own (.lst ((Ks.isort Ks.ltI xs).map D.int))) := by
  unfold sortedD
  simp [keysL_int, srtKeys]
theorem srset_str {xs : List Str} (h : xs.length < 4000) : srsetD [.lst (xs.map D.str)] = some (.own (.lst ((Ks.isort Ks.ltS (Ks.dd xs)).map D.str))) ∧ srsetD [.tup (xs.map D.str)] = some (.own (.lst ((Ks.isort Ks.ltS (Ks.dd xs)).map D.str))) := by
  obtain ⟨k, h1, _, h2, _⟩ := keysL_str xs
  unfold srsetD keysD
  simp [h1, h2, h]
theorem srset_int {xs : List Int} (h : xs.length < 4000) : srsetD [.lst (xs.map D.int)] = some (.own (.lst ((Ks.isort Ks.ltI (Ks.dd xs)).map D.int))) ∧ srsetD [.tup (xs.map D.int)] = some (.own (.lst ((Ks.isort Ks.ltI (Ks.dd xs)).map D.int))) := by
  unfold srsetD keysD
  simp [keysL_int, srtKeys, ddKeys, h]
theorem lnset_str {xs : List Str} (h : xs.length < 4000) : lnsetD [.lst (xs.map D.str)] = some (.d (.int (Ks.dd xs).length)) ∧ lnsetD [.tup (xs.map D.str)] = some (.d (.int (Ks.dd xs).length)) := by
  obtain ⟨k, h1, _, _, h2⟩ := keysL_str xs
  unfold lnsetD keysD
  simp [h1, h2, h]
theorem lnset_int {xs : List Int} (h : xs.length < 4000) : lnsetD [.lst (xs.map D.int)] = some (.d (.int (Ks.dd xs).length)) ∧ lnsetD [.tup (xs.map D.int)] = some (.d (.int (Ks.dd xs).length)) := by
  unfold lnsetD keysD
  simp [keysL_int, nKeys, h]
end
end Dn

set_option Elab.async false
set_option linter.all false
set_option maxRecDepth 10000
set_option maxHeartbeats 4000000
/-! # Dn, part 24: words for the plain laws -/
namespace Dn
open PySem PySem.Spec L2
/-! ### operations -/
@[simp] theorem bp_tuple : bpD .tuple = tupleD := (rfl)
@[simp] theorem bp_all : bpD .all = allD := (rfl)
@[simp] theorem bp_any : bpD .any = anyD := (rfl)
@[simp] theorem tuple_l {xs : List D} : tupleD [.lst xs] = some (.d (.tup xs)) := (rfl)
@[simp] theorem tuple_t {xs : List D} : tupleD [.tup xs] = some (.d (.tup xs)) := (rfl)
@[simp] theorem list_l {xs : List D} : listD [.lst xs] = some (.own (.lst xs)) := (rfl)
@[simp] theorem list_t {xs : List D} : listD [.tup xs] = some (.own (.lst xs)) := (rfl)
@[simp] theorem str_s {x : Str} : strD [.str x] = some (.d (.str x)) := (rfl)
@[simp] theorem mp_ins : mpP .insert = insertP := (rfl)
@[simp] theorem mp_idx : mpP .index = liftD indexD := (rfl)
/-! ### meanings, one by one -/
@[simp] theorem se_var {i : Nat} : (IE.var i).sem.e = varS i := (rfl)
@[simp] theorem st_var {i : Nat} : (IE.var i).sem.t = tstS (varS i) := (rfl)
@[simp] theorem se_cst {d : D} : (IE.cst d).sem.e = cstS d := (rfl)
@[simp] theorem st_cst {d : D} : (IE.cst d).sem.t = tstS (cstS d) := (rfl)
@[simp] theorem se_glb {x : Str} {d : D} : (IE.glb x d).sem.e = cstS d := (rfl)
@[simp] theorem st_glb {x : Str} {d : D} : (IE.glb x d).sem.t = tstS (cstS d) := (rfl)
@[simp] theorem se_bin {o : BO} {a b : IE} : (IE.bin o a b).sem.e = opS (liftD (bopD o)) a.sem.e b.sem.e := (rfl)
@[simp] theorem st_bin {o : BO} {a b : IE} : (IE.bin o a b).sem.t = tstS (opS (liftD (bopD o)) a.sem.e b.sem.e) := (rfl)
@[simp] theorem se_cmp {o : CO} {a b : IE} : (IE.cmp o a b).sem.e = opS (liftD (cmpD o)) a.sem.e b.sem.e := (rfl)
@[simp] theorem st_cmp {o : CO} {a b : IE} : (IE.cmp o a b).sem.t = tstS (opS (liftD (cmpD o)) a.sem.e b.sem.e) := (rfl)
@[simp] theorem se_isN {ng : Bool} {a : IE} : (IE.isN ng a).sem.e = isNS ng a.sem.e := (rfl)
@[simp] theorem st_isN {ng : Bool} {a : IE} : (IE.isN ng a).sem.t = tstS (isNS ng a.sem.e) := (rfl)
@[simp] theorem se_isi {t : TyK} {a : IE} : (IE.isi t a).sem.e = isiS t a.sem.e := (rfl)
@[simp] theorem st_isi {t : TyK} {a : IE} : (IE.isi t a).sem.t = tstS (isiS t a.sem.e) := (rfl)
@[simp] theorem se_neg {a : IE} : (IE.neg a).sem.e = unS (liftD negD) a.sem.e := (rfl)
@[simp] theorem st_neg {a : IE} : (IE.neg a).sem.t = tstS (unS (liftD negD) a.sem.e) := (rfl)
@[simp] theorem se_op1 {o : O1} {a : IE} : (IE.op1 o a).sem.e = o.sem a.sem.e := (rfl)
@[simp] theorem st_op1 {o : O1} {a : IE} : (IE.op1 o a).sem.t = tstS (o.sem a.sem.e) := (rfl)
@[simp] theorem se_chn {o p : CO} {a b c : IE} : (IE.chn o p a b c).sem.e = chnS (liftD (cmpD o)) (liftD (cmpD p)) a.sem.e b.sem.e c.sem.e := (rfl)
@[simp] theorem st_chn {o p : CO} {a b c : IE} : (IE.chn o p a b c).sem.t = tstS (chnS (liftD (cmpD o)) (liftD (cmpD p)) a.sem.e b.sem.e c.sem.e) := (rfl)
@[simp] theorem se_ix {a b : IE} : (IE.ix a b).sem.e = opS (liftD ixD) a.sem.e b.sem.e := (rfl)
@[simp] theorem st_ix {a b : IE} : (IE.ix a b).sem.t = tstS (opS (liftD ixD) a.sem.e b.sem.e) := (rfl)
@[simp] theorem se_sl {a l h : IE} : (IE.sl a l h).sem.e = slS a.sem.e l.sem.o h.sem.o := (rfl)
@[simp] theorem st_sl {a l h : IE} : (IE.sl a l h).sem.t = tstS (slS a.sem.e l.sem.o h.sem.o) := (rfl)
@[simp] theorem se_lst {s : IE} : (IE.lst s).sem.e = lstS s.sem.a := (rfl)
@[simp] theorem st_lst {s : IE} : (IE.lst s).sem.t = tstS (lstS s.sem.a) := (rfl)
@[simp] theorem se_tup {s : IE} : (IE.tup s).sem.e = tupS s.sem.a := (rfl)
@[simp] theorem st_tup {s : IE} : (IE.tup s).sem.t = tstS (tupS s.sem.a) := (rfl)
@[simp] theorem se_call {f : FnE} {s : IE} : (IE.call f s).sem.e = callF f.sem s.sem.a := (rfl)
@[simp] theorem st_call {f : FnE} {s : IE} : (IE.call f s).sem.t = tstS (callF f.sem s.sem.a) := (rfl)
@[simp] theorem se_blt {p : BP} {s : IE} : (IE.blt p s).sem.e = callS (liftP (liftD (bpD p))) s.sem.a := (rfl)
@[simp] theorem st_blt {p : BP} {s : IE} : (IE.blt p s).sem.t = tstS (callS (liftP (liftD (bpD p))) s.sem.a) := (rfl)
@[simp] theorem se_meth {m : MP} {o s : IE} : (IE.meth m o s).sem.e = methS m.T (mpP m) o.sem.e s.sem.a := (rfl)
@[simp] theorem st_meth {m : MP} {o s : IE} : (IE.meth m o s).sem.t = tstS (methS m.T (mpP m) o.sem.e s.sem.a) := (rfl)
@[simp] theorem se_lc {w : List (Str × Nat)} {t : TGt} {i c x : IE} : (IE.lc w t i c x).sem.e = lcS (w.map (·.2)) t i.sem.i c.sem.t x.sem.e := (rfl)
@[simp] theorem st_lc {w : List (Str × Nat)} {t : TGt} {i c x : IE} : (IE.lc w t i c x).sem.t = tstS (lcS (w.map (·.2)) t i.sem.i c.sem.t x.sem.e) := (rfl)
@[simp] theorem se_att {b : List Str} {f : Str} {a : IE} : (IE.att b f a).sem.e = attX b f a.sem.e := (rfl)
@[simp] theorem st_att {b : List Str} {f : Str} {a : IE} : (IE.att b f a).sem.t = tstS (attX b f a.sem.e) := (rfl)
@[simp] theorem se_xis {o : Bool} {c : List KL} {b : List (Str × Bool)} {a : IE} : (IE.xis o c b a).sem.e = xisS b a.sem.e := (rfl)
@[simp] theorem st_xis {o : Bool} {c : List KL} {b : List (Str × Bool)} {a : IE} : (IE.xis o c b a).sem.t = tstS (xisS b a.sem.e) := (rfl)
@[simp] theorem se_not {a : IE} : (IE.not a).sem.e = notV a.sem.e := (rfl)
@[simp] theorem st_not {a : IE} : (IE.not a).sem.t = notS a.sem.t := (rfl)
@[simp] theorem se_and1 {a : IE} : (IE.and1 a).sem.e = a.sem.e := (rfl)
@[simp] theorem st_and1 {a : IE} : (IE.and1 a).sem.t = a.sem.t := (rfl)
@[simp] theorem se_or1 {a : IE} : (IE.or1 a).sem.e = a.sem.e := (rfl)
@[simp] theorem st_or1 {a : IE} : (IE.or1 a).sem.t = a.sem.t := (rfl)
@[simp] theorem se_and {a b : IE} : (IE.and a b).sem.e = andV a.sem.e b.sem.e := (rfl)
@[simp] theorem st_and {a b : IE} : (IE.and a b).sem.t = andS a.sem.t b.sem.t := (rfl)
@[simp] theorem se_or {a b : IE} : (IE.or a b).sem.e = orV a.sem.e b.sem.e := (rfl)
@[simp] theorem st_or {a b : IE} : (IE.or a b).sem.t = orS a.sem.t b.sem.t := (rfl)
@[simp] theorem se_ite {c a b : IE} : (IE.ite c a b).sem.e = iteS c.sem.t a.sem.e b.sem.e := (rfl)
@[simp] theorem sa_nil : IE.nil.sem.a = nilS := (rfl)
@[simp] theorem sa_cons {a s : IE} : (IE.cons a s).sem.a = consS a.sem.e s.sem.a := (rfl)
@[simp] theorem so_ono : IE.ono.sem.o = noS := (rfl)
@[simp] theorem so_osm {a : IE} : (IE.osm a).sem.o = intS a.sem.e := (rfl)
@[simp] theorem si_over {a : IE} : (IE.over a).sem.i = overS a.sem.e := (rfl)
@[simp] theorem si_rng {a : IE} : (IE.rng a).sem.i = rngS a.sem.a := (rfl)
@[simp] theorem st_yes : IE.yes.sem.t = yesS := (rfl)
@[simp] theorem sc_skp  : (IC.skp).sem = skipS := (rfl)
@[simp] theorem sc_brk  : (IC.brk).sem = brkS := (rfl)
@[simp] theorem sc_cnt  : (IC.cnt).sem = cntS := (rfl)
@[simp] theorem sc_ret {e : IE} : (IC.ret e).sem = retS e.sem.e := (rfl)
@[simp] theorem sc_retN  : (IC.retN).sem = Dn.retN := (rfl)
@[simp] theorem sc_drop {e : IE} : (IC.drop e).sem = dropS e.sem.e := (rfl)
@[simp] theorem sc_set {i : Nat} {m : Bool} {e : IE} : (IC.set i m e).sem = setS i m e.sem.e := (rfl)
@[simp] theorem sc_setL {i : Nat} {m : Bool} {e : IE} : (IC.setL i m e).sem = setS i m e.sem.e := (rfl)
@[simp] theorem sc_asg {t : TGt} {e : IE} : (IC.asg t e).sem = asgS t e.sem.e := (rfl)
@[simp] theorem sc_sto {o i e : IE} : (IC.sto o i e).sem = stoS o.sem.e i.sem.e e.sem.e := (rfl)
@[simp] theorem sc_ife {c : IE} {f g : IC} : (IC.ife c f g).sem = ifS c.sem.t f.sem g.sem := (rfl)
@[simp] theorem sc_whl {n : Nat} {c : IE} {f : IC} : (IC.whl n c f).sem = whileS c.sem.t f.sem n := (rfl)
@[simp] theorem sc_fr {t : TGt} {i : IE} {f : IC} : (IC.fr t i f).sem = forS t i.sem.i f.sem := (rfl)
@[simp] theorem sc_rse {n f : Str} {e : IE} : (IC.rse n f e).sem = rseS n f e.sem.e := (rfl)
@[simp] theorem sc_tr1 {b : List (Str × Bool)} {c : KL} {i : Nat} {f g : IC} : (IC.tr1 b c i f g).sem = tryS f.sem b i g.sem := (rfl)
@[simp] theorem sc_nil  : (IC.nil).sem = skipS := (rfl)
@[simp] theorem sc_frz {i : Nat} {s : IC} : (IC.frz i s).sem = seqS (frzS i) s.sem := (rfl)
@[simp] theorem sc_one {a : IC} : (IC.cons a .nil).sem = seqS a.sem skipS := (rfl)
@[simp] theorem TS_one {f : SS} {env : Env} {S : Store} {Z : En} : TS (seqS f skipS env S) Z = TS (f env S) (Z.sq skipS) := TS_sq
@[simp] theorem Kseq_skip {env : Env} {S : Store} {Z : En} : Kseq skipS Z env S = Z.n env S := (rfl)
section
variable {S : Store} {env : Env} {P : WP RW} {E : WE}
theorem Tv_w {w : W} : Tv (some w) P S = P (wRW w) S := rfl
theorem toW_w {w : W} : (wRW w).toW = w := by cases w <;> rfl
theorem wRW_toW {w : W} : (wRW w).toW = w := toW_w
theorem rngD_0 {lo : Int} : rngD lo 0 = [] := rfl
theorem rngD_s {lo : Int} {n : Nat} : rngD lo (n + 1) = .int lo :: rngD (lo + 1) n := by
  unfold rngD
  rw [List.range_succ_eq_map, List.map_cons, List.map_map]
  congr 1
  · simp
  · refine List.map_congr_left fun k _ => ?_
    simp only [Function.comp]
    congr 1
    omega
theorem rngD_len {lo : Int} {n : Nat} : (rngD lo n).length = n := by simp [rngD]
theorem len_app' (a b : Str) : (a ++ b).length = a.length + b.length := Array.size_append
theorem atI_nat' {α : Type} {xs : List α} {k : Nat} {x : α} (h : xs[k]? = some x) : atI xs (k : Nat) = some x := by
  have hl := (List.getElem?_eq_some_iff.mp h).1
  unfold atI ixN
  rw [if_pos (by omega), if_pos (by omega)]
  simpa using h
/-! ### the same plain data, kinds included -/
mutual
def sm : D → D → Bool
  | .non, .non => true
  | .bl a, .bl b => a == b
  | .int a, .int b => a == b
  | .str a, .str b => a == b
  | .lst a, .lst b => sms a b
  | .tup a, .tup b => sms a b
  | _, _ => false
def sms : List D → List D → Bool
  | [], [] => true
  | a :: as, b :: bs => sm a b && sms as bs
  | _, _ => false
end
theorem sms_len : ∀ {a b : List D}, sms a b = true → a.length = b.length
  | [], [], _ => rfl
  | a :: as, b :: bs, h => by
    simp only [sms, Bool.and_eq_true] at h
    simp [sms_len h.2]
  | [], _ :: _, h => by simp [sms] at h
  | _ :: _, [], h => by simp [sms] at h
theorem sms_take : ∀ {a b : List D} (k : Nat), a.length = b.length → sms a b = (sms (a.take k) (b.take k) && sms (a.drop k) (b.drop k))
  | [], [], k, _ => by simp [sms]
  | a :: as, b :: bs, 0, _ => by simp [sms]
  | a :: as, b :: bs, k + 1, h => by
    simp only [List.take_succ_cons, List.drop_succ_cons, sms]
    rw [sms_take k (by simpa using h), Bool.and_assoc]
  | [], _ :: _, _, h => by simp at h
  | _ :: _, [], _, h => by simp at h
mutual
theorem sm_refl : ∀ (n : Nat) (d : D), shal n d = true → sm d d = true
  | _, .non, _ => by simp [sm]
  | _, .bl _, _ => by simp [sm]
  | _, .int _, _ => by simp [sm]
  | _, .str _, _ => by simp [sm]
  | n + 1, .tup xs, h => by simp only [sm]; exact sms_refl n xs (by simpa only [shal] using h)
  | n + 1, .lst xs, h => by simp only [sm]; exact sms_refl n xs (by simpa only [shal] using h)
  | 0, .tup _, h => by simp [shal] at h
  | 0, .lst _, h => by simp [shal] at h
  | n, .ins _ _ _, h => by cases n <;> simp [shal] at h
  | n, .scr _, h => by cases n <;> simp [shal] at h
  | n, .dic _ _ _, h => by cases n <;> simp [shal] at h
  | n, .exn _ _ _, h => by cases n <;> simp [shal] at h
theorem sms_refl : ∀ (n : Nat) (ds : List D), ds.all (shal n) = true → sms ds ds = true
  | _, [], _ => by simp [sms]
  | n, d :: ds, h => by
    rw [List.all_cons, Bool.and_eq_true] at h
    simp only [sms, Bool.and_eq_true]
    exact ⟨sm_refl n d h.1, sms_refl n ds h.2⟩
end
/-- plain values at most n deep, of lists of some length -/
def plD : Nat → D → Bool
  | _, .non => true
  | _, .bl _ => true
  | _, .int _ => true
  | _, .str _ => true
  | n + 1, .tup xs => decide (xs.length < 1000000) && xs.all (plD n)
  | n + 1, .lst xs => decide (xs.length < 1000000) && xs.all (plD n)
  | _, _ => false
theorem plD_str (n : Nat) (s : Str) : plD n (.str s) = true := by cases n <;> rfl
theorem plD_int (n : Nat) (s : Int) : plD n (.int s) = true := by cases n <;> rfl
theorem plD_bl (n : Nat) (s : Bool) : plD n (.bl s) = true := by cases n <;> rfl
theorem plD_non (n : Nat) : plD n .non = true := by cases n <;> rfl
theorem plD_strs (n : Nat) (xs : List Str) : (xs.map D.str).all (plD n) = true := by
  rw [List.all_map]
  exact List.all_eq_true.mpr fun x _ => plD_str n x
theorem plD_ints (n : Nat) (xs : List Int) : (xs.map D.int).all (plD n) = true := by
  rw [List.all_map]
  exact List.all_eq_true.mpr fun x _ => plD_int n x
theorem plD_lst {n : Nat} {xs : List D} (hl : xs.length < 1000000) (h : xs.all (plD n) = true) : plD (n + 1) (.lst xs) = true := by simp only [plD, Bool.and_eq_true, decide_eq_true_eq]; exact ⟨hl, h⟩
theorem plD_tup {n : Nat} {xs : List D} (hl : xs.length < 1000000) (h : xs.all (plD n) = true) : plD (n + 1) (.tup xs) = true := by simp only [plD, Bool.and_eq_true, decide_eq_true_eq]; exact ⟨hl, h⟩
theorem shal_str (n : Nat) (s : Str) : shal n (.str s) = true := by cases n <;> rfl
theorem shal_int (n : Nat) (s : Int) : shal n (.int s) = true := by cases n <;> rfl
theorem shal_bl (n : Nat) (s : Bool) : shal n (.bl s) = true := by cases n <;> rfl
theorem shal_non (n : Nat) : shal n .non = true := by cases n <;> rfl
theorem shals_str (n : Nat) (xs : List Str) : (xs.map D.str).all (shal n) = true := by
  rw [List.all_map]
  exact List.all_eq_true.mpr fun x _ => shal_str n x
theorem shals_int (n : Nat) (xs : List Int) : (xs.map D.int).all (shal n) = true := by
  rw [List.all_map]
  exact List.all_eq_true.mpr fun x _ => shal_int n x
theorem nonW_view {w : W} {d : D} (h : view S w = some d) : nonW w = (match d with | .non => true | _ => false) := by
  cases w with
  | d x =>
    simp only [view_d, Option.some.injEq] at h
    subst h
    cases x <;> rfl
  | loc n =>
    unfold view at h
    dsimp only at h
    split at h
    · rename_i c hc
      split at h
      · rename_i hl
        cases h
        cases c with
        | lst xs => rfl
        | ins C ks vs => rfl
        | dic ks vs => rfl
        | dead => cases hl
      · cases h
    · cases h
theorem gcE_keep {n : Nat} : ∀ {env : Env}, (∀ o ∈ env, ∀ m, o = some (W.loc m) → m < n) → gcE n env = env
  | [], _ => rfl
  | o :: env, h => by
    have z := gcE_keep (n := n) (env := env) fun o ho => h o (by simp [ho])
    cases o with
    | none => rw [gcE_n, z]
    | some w =>
      cases w with
      | d x => rw [gcE_d, z]
      | loc m => rw [gcE_l, z, if_pos (h _ (by simp) m rfl)]
theorem noX_ints' : ∀ l : List Int, noXs (l.map D.int) = true
  | [] => by simp [noXs]
  | i :: l => by simp [noXs, noX, noX_ints' l]
theorem noX_strs' : ∀ l : List Str, noXs (l.map D.str) = true
  | [] => by simp [noXs]
  | i :: l => by simp [noXs, noX, noX_strs' l]
/-! ### loops over what is guarded -/
def KloopG (gs : Gs) (t : TGt) (f : SS) (n : Nat) (xs : List D) (Z : En) : Env → Store → Prop := fun e S => TS (forLoop gs t f n xs e S) Z
theorem KloopG_ {gs : Gs} {t : TGt} {f : SS} {n : Nat} {xs : List D} {Z : En} : KloopG gs t f n xs Z env S = TS (forLoop gs t f n xs env S) Z := rfl
theorem TS_fnilG {gs : Gs} {t : TGt} {f : SS} {n : Nat} {Z : En} (hg : gOk gs S) : TS (forLoop gs t f n [] env S) Z = Z.n env S := by
  unfold forLoop
  rw [if_pos hg]
  rfl
theorem TS_fnmG {gs : Gs} {f : SS} {n i : Nat} {x : D} {xs : List D} {Z : En} (hg : gOk gs S) : TS (forLoop gs (.nm i) f n (x :: xs) env S) Z = TS (f (env.set i (some (.d x))) S) (Z.lp n (KloopG gs (.nm i) f n xs Z)) := by
  conv => lhs; unfold forLoop
  rw [if_pos hg]
  show TS (match f (env.set i (some (.d x))) S with | .nx env2 S2 => _ | .ct env2 S2 => _ | .bk env2 S2 => _ | r => r) Z = _
  cases f (env.set i (some (.d x))) S <;> rfl
/-- a list made by what has no effect -/
theorem lc_pure {α : Type} {mk : α → D} {p : α → Bool} {f : α → D} {i : Nat} {tt : BS} {fe : ES} : ∀ {xs : List α} {acc : List D}, acc.length + xs.length < sizeLine →
    (∀ x ∈ xs, ∀ Q : WP Bool, Q (p x) S → T (tt (env.set i (some (.d (mk x)))) S) Q noE) → (∀ x ∈ xs, p x = true → ∀ Q : WP RW, Q (.d (f x)) S → T (fe (env.set i (some (.d (mk x)))) S) Q noE) →
    P (.own (.lst (acc ++ (xs.filter p).map f))) S → T (lcLoop [] (.nm i) tt fe env (xs.map mk) acc S) P E
  | [], acc, _, _, _, h => by
    rw [List.map_nil]
    unfold lcLoop
    rw [if_pos gOk_nil]
    simpa using h
  | x :: xs, acc, hl, ht, hf, h => by
    rw [List.map_cons]
    unfold lcLoop
    rw [if_pos gOk_nil]
    show T (((M.calm (tt (env.set i (some (.d (mk x)))))).bind fun b => _) S) P E
    rw [T_bind]
    refine T_calm (ht x (by simp) _ ?_)
    cases e : p x with
    | false =>
      rw [if_neg Bool.false_ne_true]
      refine lc_pure (by simp only [List.length_cons] at hl; omega) (fun y hy => ht y (by simp [hy])) (fun y hy => hf y (by simp [hy])) ?_
      simpa [List.filter_cons, e] using h
    | true =>
      rw [if_pos rfl, T_bind]
      refine T_calm (hf x (by simp) e _ ?_)
      simp only [toW_d]
      rw [if_pos (by simp only [List.length_cons] at hl; omega)]
      refine lc_pure (by simp only [List.length_append, List.length_cons, List.length_nil] at hl ⊢; omega) (fun y hy => ht y (by simp [hy])) (fun y hy => hf y (by simp [hy])) ?_
      simpa [List.filter_cons, e] using h
end
end Dn

set_option Elab.async false
set_option linter.all false
set_option maxRecDepth 100000
set_option maxHeartbeats 4000000
/-! # Dn, part G: rules of one's own: fields, instances, isinstance, errors without a field, turned lists -/
namespace Dn
open PySem PySem.Spec L2

abbrev RuK (P : Program) (w : World) (K : PySem.W.Frag) (mg : Str → Option Value) (base : Heap) (ca : CA) (k : Nat) (r : Ru) : Prop := ∀ X N, InM P w K mg base k X → RuAt X ca N r
abbrev RiK (P : Program) (w : World) (K : PySem.W.Frag) (mg : Str → Option Value) (base : Heap) (ca : CA) (k : Nat) (r : RuI) : Prop := ∀ X N, InM P w K mg base k X → RiAt X ca N r
abbrev RsK (P : Program) (w : World) (K : PySem.W.Frag) (mg : Str → Option Value) (base : Heap) (ca : CA) (k : Nat) (r : RuS) : Prop := ∀ X N, InM P w K mg base k X → RsAt X ca N r
/-- the reading at an expression that is tested as it is -/
theorem ru_of {X : Cx} {ca : CA} {Wx : WX} {ex : Expr} {f : ES} (h : PE X ex (tE (GX X ca) Wx f)) (hp : Plain ex X.env) : PE X ex (tE (GX X ca) Wx f) ∧ Plain ex X.env := ⟨h, hp⟩
section
variable {P : Program} {w : World} {K : PySem.W.Frag} {mg : Str → Option Value} {base : Heap} {ca : CA} {k : Nat}
/-! ### fields -/
def fldR (tb : List Str) (f : Str) : Ru where
  sem := fun a _ => fldS tb f a.e
  chk := fun _ _ ka _ ex => match ex with
    | .Attribute o x _ => sq f x && ka.e o && plainBase o
    | _ => false
theorem ru_fld {tb : List Str} {f : Str} (h : ∀ C ∈ tb, FldOk K (ca.f C) f) : RuK P w K mg base ca k (fldR tb f) := by
  intro X N m Wx b g a c sa sc ex hx
  simp only [fldR] at hx
  split at hx
  · simp only [Bool.and_eq_true] at hx
    obtain ⟨⟨h1, h2⟩, h3⟩ := hx
    cases sq_eq h1
    exact tst_of (pe_fldS (by rw [m.K]; exact h) (sa.e _ h2) (base_of h3)) ⟨fun _ => rfl, fun _ _ _ z => nomatch z⟩
  · cases hx
def stfR (tb : List Str) (f : Str) : RuS where
  sem := fun a b _ _ _ => stfS tb f a.e b.e
  chk := fun _ _ ka kb _ _ _ st => match st with
    | .Assign [.Attribute o x _] v _ => sq f x && ka.e o && kb.e v && notComp v
    | _ => false
theorem rs_stf {tb : List Str} {f : Str} (h : ∀ C ∈ tb, FldOk K (ca.f C) f) : RsK P w K mg base ca k (stfR tb f) := by
  intro X N m Wx g a c _ ff fg kf kg sa sc _ _ _ st hx
  simp only [stfR] at hx
  split at hx
  · simp only [Bool.and_eq_true] at hx
    obtain ⟨⟨⟨h1, h2⟩, h3⟩, h4⟩ := hx
    cases sq_eq h1
    exact ps_stfS (by rw [m.K]; exact h) (sa.e _ h2) (sc.e _ h3) (sw_none h4)
  · cases hx
/-! ### a new instance -/
def newR (C : Str) (fn : FnE) (ds : List D) : Ru where
  sem := fun _ c => newF C fn.sem ds c.a
  chk := fun _ sc _ kc ex => match ex with
    | .Call (.Name x _) (e :: es) [] _ => sq C x && kd sc x .globalImplicit && dbg x && kc.a (e :: es) && Nat.beq ((e :: es).length + ds.length + 1) fn.np
    | _ => false
theorem ru_new {C : Str} {fn : FnE} {ds : List D} (h : NewOk P w K mg base ca C fn.sem fn.np fn.lvl ds) (hk : fn.lvl + 1 ≤ k) : RuK P w K mg base ca k (newR C fn ds) := by
  intro X N m Wx b g a c sa sc ex hx
  simp only [newR] at hx
  split at hx
  · rename_i x p e es pos
    simp only [Bool.and_eq_true] at hx
    obtain ⟨⟨⟨⟨h1, h2⟩, h3⟩, h4⟩, h5⟩ := hx
    cases sq_eq h1
    obtain ⟨z1, z2⟩ := args_star (env := X.env) h4
    have hl := args_len h4
    have h' : NewOk X.prog X.w X.K X.mg X.base ca C fn.sem fn.np fn.lvl ds := by rw [m.prog, m.w, m.K, m.mg, m.base]; exact h
    refine tst_of (pe_newS h' (m.room.mono hk) (kd_eq h2) g.tk (sc.a _ h4) (fun env S ws S' z => ?_) (dbg_of h3) (star_of z1) (z2 _)) ⟨fun _ => rfl, fun _ _ _ z => nomatch z⟩
    rw [hl _ _ _ _ z]; exact Nat.eq_of_beq_eq_true h5
  · cases hx
/-! ### isinstance -/
def iscR (x : Str) (tb : List (Str × Bool)) : Ru where
  sem := fun a _ => iscS tb a.e
  chk := fun _ sc ka _ ex => match ex with
    | .Call (.Name f _) [o, .Name y _] [] _ => sq f "isinstance" && sq x y && kd sc f .globalImplicit && kd sc y .globalImplicit && dbg y && ka.e o && notStar o
    | _ => false
theorem ru_isc {x : Str} {tb : List (Str × Bool)} (h : IscOk K mg ca x tb) : RuK P w K mg base ca k (iscR x tb) := by
  intro X N m Wx b g a c sa sc ex hx
  simp only [iscR] at hx
  split at hx
  · simp only [Bool.and_eq_true] at hx
    obtain ⟨⟨⟨⟨⟨⟨h1, h2⟩, h3⟩, h4⟩, h5⟩, h6⟩, h7⟩ := hx
    cases sq_eq h1
    cases sq_eq h2
    exact tst_of (pe_iscS (by rw [m.K, m.mg]; exact h) (kd_eq h3) (g.blt _ (by simp [bNames])) (kd_eq h4) (dbg_of h5) (sa.e _ h6) (star_of h7)) ⟨fun _ => rfl, fun _ _ _ z => nomatch z⟩
  · cases hx
/-! ### raise of an error without a field -/
def rs0R (nm : Str) : RuS where
  sem := fun _ _ _ _ _ => rs0S nm
  chk := fun _ sc _ _ _ _ _ st => match st with
    | .Raise (some (.Call (.Name x _) [.Constant (.str _) _ _] [] _)) none _ => sq nm x && kd sc x .globalImplicit && dbg x
    | _ => false
theorem rs_rs0 {nm : Str} (h : ExcN K mg ca nm) : RsK P w K mg base ca k (rs0R nm) := by
  intro X N m Wx g a c _ ff fg kf kg sa sc _ _ _ st hx
  simp only [rs0R] at hx
  split at hx
  · simp only [Bool.and_eq_true] at hx
    obtain ⟨⟨h1, h2⟩, h3⟩ := hx
    cases sq_eq h1
    exact ps_rs0S m.calm (by rw [m.K, m.mg]; exact h) g.tk (kd_eq h2) (dbg_of h3)
  · cases hx
/-! ### xs[::-1] of a list -/
def revD : DPrim
  | [.lst xs] => some (.own (.lst xs.reverse))
  | _ => none
theorem reps_rev {G : RC} {F : Hp} : ∀ {xs : List D} {ws : List V}, Reps G F xs ws → Reps G F xs.reverse ws.reverse
  | [], _, h => by simp only [Reps] at h; subst h; exact Reps.nil
  | x :: xs, _, h => by
    obtain ⟨v, vs, rfl, h1, h2⟩ := h.inv_cons
    rw [List.reverse_cons, List.reverse_cons]
    exact (reps_rev h2).append (Reps.cons h1 Reps.nil)
def revR : Ru where
  sem := fun a _ => unS (liftD revD) a.e
  chk := fun _ _ ka _ ex => match ex with
    | .Subscript e (.Slice none none (some (.UnaryOp .USub (.Constant (.int i) _ _) _)) _) _ => decide (i = 1) && ka.e e
    | _ => false
theorem ru_rev : RuK P w K mg base ca k revR := by
  intro X N m Wx b g a c sa sc ex hx
  simp only [revR] at hx
  split at hx
  · simp only [Bool.and_eq_true, decide_eq_true_eq] at hx
    obtain ⟨rfl, h1⟩ := hx
    refine tst_of (peImp (pe_revL (sa.e _ h1)) fun σ H Q h => ?_) ⟨fun _ => rfl, fun _ _ _ z => nomatch z⟩
    obtain ⟨ω, env, ok, er, p⟩ := h
    refine tE_mono (bindW ok er p) fun v H1 ⟨ω1, w1, le1, ok1, r1, er1, p1⟩ => ?_
    have z := prim_of (ws := [w1.toW]) (vs := [v]) ok1 le1 ⟨_, _, rfl, r1, rfl⟩ p1
    refine liftD_ok (r := fun vs H Q => ∀ x, vs = [x] → ∃ a xs, x = .ref a ∧ SqL X.K H a xs ∧ ∀ p, H p = none → Q (.ref p) (upd H p (.lst xs.reverse))) (fun ω H ds vs a Q ok n e p => ?_) z v rfl
    rintro x rfl
    unfold revD at e
    split at e
    · cases e
      obtain ⟨u, us, e2, n1, n2⟩ := n
      cases n2
      simp only [List.cons.injEq, and_true] at e2
      subst e2
      obtain ⟨a1, ws, rfl, h1, r1⟩ := n1
      exact ⟨a1, ws, rfl, .of h1, fun q hq => end_lst ok p (reps_rev r1) hq⟩
    · cases e
  · cases hx
end
/-! ### reckoning -/
section
variable {S : Store} {env : Env} {E : WE} {P : WP RW} {fa fb fo : ES} {fs : AS}
def fldD (tb : List Str) (f : Str) : D → Option RW
  | .ins C ks vs => if C ∈ tb then ((ks.zip vs).lookup f).map .d else none
  | _ => none
theorem T_fldM {tb : List Str} {f : Str} {w : W} : T (fldM tb f w S) P E = Td ((view S w).bind (fldD tb f)) P S := by
  unfold fldM
  cases h : view S w with
  | none => rfl
  | some d =>
    cases d with
    | ins C ks vs =>
      simp only [Option.bind_some, fldD]
      split
      · cases (ks.zip vs).lookup f <;> rfl
      · rfl
    | _ => rfl
def Kfld (tb : List Str) (f : Str) (P : WP RW) : WP RW := fun w S => Td ((view S w.toW).bind (fldD tb f)) P S
@[simp] theorem T_fld {tb : List Str} {f : Str} : T (fldS tb f fo env S) P E = T (fo env S) (Kfld tb f P) E := by
  unfold fldS
  rw [T_bind]
  congr 1
  funext w S'
  exact T_fldM
@[simp] theorem Kfld_ {tb : List Str} {f : Str} {w : RW} : Kfld tb f P w S = Td ((view S w.toW).bind (fldD tb f)) P S := (rfl)
def Knew (C : Str) (g : Sem) (ds : List D) (P : WP RW) (E : WE) : WP (List W) := fun ws S => T (newM C g (ws ++ ds.map W.d) S) P E
@[simp] theorem T_new {C : Str} {g : Sem} {ds : List D} : T (newF C g ds fs env S) P E = T (fs env S) (Knew C g ds P E) E := by
  unfold newF
  rw [T_bind]
  rfl
def Kmade (n : Nat) (P : WP RW) : WP RW := fun r S' => r = .d .non ∧ ∃ c, S'[n]? = some c ∧ c.live = true ∧ P (.own c) (S'.take n)
def Xmade (n : Nat) (E : WE) : WE := fun e S' => E e (S'.take n)
@[simp] theorem Kmade_ {n : Nat} {S' : Store} : Kmade n P (.d .non) S' = ∃ c, S'[n]? = some c ∧ c.live = true ∧ P (.own c) (S'.take n) := by simp [Kmade]
@[simp] theorem Xmade_ {n : Nat} {e : Exn} {S' : Store} : Xmade n E e S' = E e (S'.take n) := (rfl)
theorem T_newM {C : Str} {g : Sem} {ws : List W} : T (newM C g ws S) P E = T (g (.loc S.length :: ws) (S ++ [.ins C [] []])) (Kmade S.length P) (Xmade S.length E) := by
  unfold newM
  cases h : g (.loc S.length :: ws) (S ++ [.ins C [] []]) with
  | stuck => rfl
  | err e S' => rfl
  | ok r S' =>
    cases r with
    | loc n => simp [T, Kmade]
    | own c => simp [T, Kmade]
    | d x =>
      cases x with
      | non =>
        simp only [T, Kmade, true_and]
        cases hc : S'[S.length]? with
        | none => simp
        | some c =>
          simp only [Option.some.injEq]
          cases hl : c.live with
          | true => simp [hl]
          | false => simp [hl]
      | _ => simp [T, Kmade]
@[simp] theorem Knew_ {C : Str} {g : Sem} {ds : List D} {ws : List W} : Knew C g ds P E ws S = T (g (.loc S.length :: (ws ++ ds.map W.d)) (S ++ [.ins C [] []])) (Kmade S.length P) (Xmade S.length E) := T_newM
def iscD (tb : List (Str × Bool)) : D → Option RW
  | .ins C _ _ => (tb.lookup C).map fun b => .d (.bl b)
  | d => (tyN d).map fun _ => .d (.bl false)
def Kisc (tb : List (Str × Bool)) (P : WP RW) : WP RW := fun w S => Td ((view S w.toW).bind (iscD tb)) P S
@[simp] theorem T_isc {tb : List (Str × Bool)} : T (iscS tb fo env S) P E = T (fo env S) (Kisc tb P) E := by
  unfold iscS
  rw [T_bind]
  congr 1
  funext w S'
  unfold iscM Kisc
  cases h : view S' w.toW with
  | none => rfl
  | some d =>
    cases d with
    | ins C ks vs => simp only [Option.bind_some, iscD]; cases tb.lookup C <;> rfl
    | _ => simp only [Option.bind_some, iscD] <;> rfl
@[simp] theorem Kisc_ {tb : List (Str × Bool)} {w : RW} : Kisc tb P w S = Td ((view S w.toW).bind (iscD tb)) P S := (rfl)
variable {Z : En}
def Kstf1 (tb : List Str) (f : Str) (fo : ES) (Z : En) (env : Env) : WP RW := fun y S => T (fo env S) (fun o S => ∃ S', stfM tb f o.toW y.toW S = some S' ∧ Z.n env S') (Kx Z env)
def Kstf2 (tb : List Str) (f : Str) (y : RW) (Z : En) (env : Env) : WP RW := fun o S => ∃ S', stfM tb f o.toW y.toW S = some S' ∧ Z.n env S'
@[simp] theorem TS_stf {tb : List Str} {f : Str} : TS (stfS tb f fo fa env S) Z = T (fa env S) (Kstf1 tb f fo Z env) (Kx Z env) := by
  unfold stfS
  rw [TS_ex, T_bind]
  congr 1
  funext v S'
  unfold stfK Kstf1
  rw [T_bind]
  congr 1
  funext o S2
  cases h : stfM tb f o.toW v.toW S2 with
  | none => simp [T]
  | some S3 => simp [T]
@[simp] theorem Kstf1_ {tb : List Str} {f : Str} {y : RW} : Kstf1 tb f fo Z env y S = T (fo env S) (Kstf2 tb f y Z env) (Kx Z env) := (rfl)
@[simp] theorem Kstf2_ {tb : List Str} {f : Str} {o y : RW} : Kstf2 tb f y Z env o S = ∃ S', stfM tb f o.toW y.toW S = some S' ∧ Z.n env S' := (rfl)
@[simp] theorem TS_rs0 {nm : Str} : TS (rs0S nm env S) Z = Z.x ⟨nm, [], []⟩ env S := (rfl)
@[simp] theorem rev_lst {xs : List D} : revD [.lst xs] = some (.own (.lst xs.reverse)) := (rfl)
/-! the rules' meanings -/
@[simp] theorem se_ap {r : Ru} {a b : IE} : (IE.ap r a b).sem.e = r.sem a.sem b.sem := (rfl)
@[simp] theorem st_ap {r : Ru} {a b : IE} : (IE.ap r a b).sem.t = tstS (r.sem a.sem b.sem) := (rfl)
@[simp] theorem si_iap {r : RuI} {a b : IE} : (IE.iap r a b).sem.i = r.sem a.sem b.sem := (rfl)
@[simp] theorem sc_sp {r : RuS} {a b c : IE} {f g : IC} : (IC.sp r a b c f g).sem = r.sem a.sem b.sem c.sem f.sem g.sem := (rfl)
@[simp] theorem sem_fldR {tb : List Str} {f : Str} {a b : Sx} : (fldR tb f).sem a b = fldS tb f a.e := (rfl)
@[simp] theorem sem_stfR {tb : List Str} {f : Str} {a b c : Sx} {x y : SS} : (stfR tb f).sem a b c x y = stfS tb f a.e b.e := (rfl)
@[simp] theorem sem_newR {C : Str} {fn : FnE} {ds : List D} {a b : Sx} : (newR C fn ds).sem a b = newF C fn.sem ds b.a := (rfl)
@[simp] theorem sem_iscR {x : Str} {tb : List (Str × Bool)} {a b : Sx} : (iscR x tb).sem a b = iscS tb a.e := (rfl)
@[simp] theorem sem_rs0R {nm : Str} {a b c : Sx} {x y : SS} : (rs0R nm).sem a b c x y = rs0S nm := (rfl)
@[simp] theorem sem_revR {a b : Sx} : revR.sem a b = unS (liftD revD) a.e := (rfl)
end
end Dn

set_option Elab.async false
set_option linter.all false
set_option maxRecDepth 100000
set_option maxHeartbeats 4000000
/-! # Dn, part H: what the rules of part G lean on, decided -/
namespace Dn
open PySem PySem.Spec L2
section
variable {P : Program} {w : World} {K : PySem.W.Frag} {mg : Str → Option Value} {base : Heap} {h : Heap}
theorem fldOk_of {x f : Str} (c1 : (He.Fa.cls x).ok K = true) (c2 : (He.Fa.noat x f).ok K = true) : FldOk K (He.ga K x) f := ⟨He.cls_ok c1, He.noat_ok c2⟩
def fldB (K : PySem.W.Frag) (tb : List Str) (f : Str) : Bool := tb.all fun x => (He.Fa.cls x).ok K && (He.Fa.noat x f).ok K
theorem fld_of {tb : List Str} {f : Str} (c : fldB K tb f = true) : ∀ C ∈ tb, FldOk K ((caK K).f C) f := fun C hC => by
  have z := List.all_eq_true.mp c C hC
  rw [Bool.and_eq_true] at z
  exact fldOk_of z.1 z.2
def insTyB (K : PySem.W.Frag) (x : Str) : Bool := (He.Fa.cls x).ok K && He.eqO (PySem.W.findIn K (.ref (He.ga K x)) "__class__") (some (some (.builtin "object.__class__"))) &&
  He.eqO (PySem.W.specialIn K (.builtin "object.__class__") "__get__") (some (some (.builtin "getset_descriptor.__get__"))) && decide (PySem.W.takesIn K (.builtin "object.__class__") = some true) && decide (PySem.W.mroIn K (He.ga K x) (.type "object") = some true)
theorem insTy_of {x : Str} (c : insTyB K x = true) : InsTy K (He.ga K x) := by
  unfold insTyB at c
  simp only [Bool.and_eq_true, decide_eq_true_eq] at c
  obtain ⟨⟨⟨⟨c1, c2⟩, c3⟩, c4⟩, c5⟩ := c
  exact ⟨He.cls_ok c1, He.eqO_ok c2, He.eqO_ok c3, c4, c5⟩
def iscB (K : PySem.W.Frag) (x : Str) (tb : List (Str × Bool)) : Bool := He.eqO (PySem.W.nsIn K mainGlobals x) (some (some (.ref (He.ga K x)))) && tyNames.all (fun n => decide (PySem.W.kitOne K (.type n) (.ref (He.ga K x)) = some false)) &&
  tb.all fun p => insTyB K p.1 && decide (PySem.W.kitOne K (.ref (He.ga K p.1)) (.ref (He.ga K x)) = some p.2)
theorem isc_of {x : Str} {tb : List (Str × Bool)} (X : K.In h) (G : h.Ns mainGlobals mg) (c : iscB K x tb = true) : IscOk K mg (caK K) x tb := by
  unfold iscB at c
  simp only [Bool.and_eq_true] at c
  obtain ⟨⟨c1, c2⟩, c3⟩ := c
  refine ⟨PySem.W.mg_of X G (He.eqO_ok c1), fun n hn => of_decide_eq_true (List.all_eq_true.mp c2 n hn), fun C b hl => ?_⟩
  have z := List.all_eq_true.mp c3 _ (lookup_mem' hl)
  rw [Bool.and_eq_true] at z
  exact ⟨insTy_of z.1, of_decide_eq_true z.2⟩
def excNB (K : PySem.W.Frag) (x : Str) : Bool := He.eqO (PySem.W.nsIn K mainGlobals x) (some (some (.ref (He.ga K x)))) && (He.Fa.exc x).ok K
theorem excN_of {x : Str} (X : K.In h) (G : h.Ns mainGlobals mg) (c : excNB K x = true) : ExcN K mg (caK K) x := by
  unfold excNB at c
  rw [Bool.and_eq_true] at c
  obtain ⟨z1, z2, z3, z4⟩ := He.exc_ok c.2
  exact ⟨PySem.W.mg_of X G (He.eqO_ok c.1), z1, z2, z3, z4⟩
/-! defaults -/
def dvD : He.Dv → D
  | .bl b => .bl b
  | .int i => .int i
  | .str s => .str s
  | _ => .non
def dvOk : He.Dv → Bool
  | .non => true
  | .bl _ => true
  | .int _ => true
  | .str s => okB s
  | _ => false
theorem reps0_of {ca : CA} : ∀ {l : List He.Dv}, l.all dvOk = true → Reps0 ⟨K, ca⟩ (l.map dvD) (l.map (He.Dv.v K))
  | [], _ => fun F => Reps.nil
  | d :: l, h => fun F => by
    rw [List.all_cons, Bool.and_eq_true] at h
    refine Reps.cons ?_ (reps0_of h.2 F)
    cases d with
    | non => exact rep_non
    | bl b => exact rep_bl _
    | int i => exact rep_int _
    | str s => exact rep_str (okS_of h.1)
    | _ => cases h.1
/-- a class that is made by its own __init__ -/
theorem new_of {C x qual : Str} {params : Arguments} {body : List Stmt} {scope : Scope} {fd : FuncData} {kwd : List (Str × He.Dv)} {N ps : List Str} {k : Nat} {ic : IC}
    (F : FunD K x qual params body scope [] (kwd.map fun q => (q.1, q.2.v K)) (He.ma K (He.ga K C) "__init__") fd) (S : FnScope N ps scope) (gl : mg C = some (.ref (He.ga K C))) (M : (He.Fa.mkr C).ok K = true) (hm : ∀ y ∈ bNames, mg y = none)
    (hb : ∃ dus, Vals (kwd.map fun q => q.2.v K) dus ∧ Binds K fd ps dus) (hd : (kwd.map (·.2)).all dvOk = true)
    (hc : (ic.chk N scope).b body = true) (hu : ic.uses (fun _ _ => False) (UsK P w K mg base (caK K) k)) :
    NewOk P w K mg base (caK K) C (defS ps.length N.length ic.sem) ps.length (k + 1) (kwd.map fun q => dvD q.2) := by
  obtain ⟨dus, h1, h2⟩ := hb
  refine ⟨_, fd, ps, _, dus, gl, He.mkr_ok M, def_fn F S hm rfl hc hu, h2, h1, ?_⟩
  have z := reps0_of (K := K) (ca := caK K) hd
  rw [List.map_map, List.map_map] at z
  exact z
end
end Dn

set_option Elab.async false
set_option linter.all false
set_option maxRecDepth 100000
set_option maxHeartbeats 4000000
/-! # Dn, part I: more reckoning -/
namespace Dn
open PySem PySem.Spec L2
section
variable {S : Store} {env : Env} {E : WE} {P : WP RW} {fa fb : ES} {fc : BS}
def Kite (fa fb : ES) (env : Env) (P : WP RW) (E : WE) : WP Bool := fun b S => (b = true → T (fa env S) P E) ∧ (b = false → T (fb env S) P E)
@[simp] theorem T_iteE : T (iteS fc fa fb env S) P E = T (fc env S) (Kite fa fb env P E) E := by
  unfold iteS
  rw [T_bind]
  congr 1
  funext b S'
  unfold Kite
  cases b <;> simp
@[simp] theorem Kite_ {b : Bool} : Kite fa fb env P E b S = ((b = true → T (fa env S) P E) ∧ (b = false → T (fb env S) P E)) := (rfl)
@[simp] theorem nonW_non : nonW (.d .non) = true := (rfl)
@[simp] theorem nonW_int {i : Int} : nonW (.d (.int i)) = false := (rfl)
@[simp] theorem nonW_bl {b : Bool} : nonW (.d (.bl b)) = false := (rfl)
@[simp] theorem nonW_str {x : Str} : nonW (.d (.str x)) = false := (rfl)
@[simp] theorem nonW_tup {x : List D} : nonW (.d (.tup x)) = false := (rfl)
@[simp] theorem nonW_lst {x : List D} : nonW (.d (.lst x)) = false := (rfl)
@[simp] theorem nonW_ins {C : Str} {x : List Str} {y : List D} : nonW (.d (.ins C x y)) = false := (rfl)
@[simp] theorem nonW_loc {n : Nat} : nonW (.loc n) = false := (rfl)
def Kasg (t : TGt) (Z : En) (env : Env) : WP RW := fun w S => ∃ d env1, w.toW = .d d ∧ bindT t d env = some env1 ∧ Z.n env1 S
@[simp] theorem TS_asg {t : TGt} {Z : En} : TS (asgS t fa env S) Z = T (fa env S) (Kasg t Z env) (Kx Z env) := by
  unfold asgS
  rw [TS_ex]
  congr 1
  funext w S'
  unfold Kasg
  cases h : w.toW with
  | loc n => simp [TS]
  | d d =>
    simp only [W.d.injEq]
    cases h2 : bindT t d env with
    | none =>
      simp only [TS]
      apply propext
      refine ⟨False.elim, fun ⟨d', e, h3, h4, _⟩ => ?_⟩
      subst h3
      rw [h2] at h4; cases h4
    | some e =>
      simp only [TS]
      apply propext
      refine ⟨fun z => ⟨d, e, rfl, h2, z⟩, fun ⟨d', e', h3, h4, h5⟩ => ?_⟩
      subst h3
      rw [h2] at h4; cases h4
      exact h5
@[simp] theorem Kasg_d {t : TGt} {Z : En} {d : D} : Kasg t Z env (.d d) S = ∃ env1, bindT t d env = some env1 ∧ Z.n env1 S := by
  unfold Kasg
  simp
@[simp] theorem bindT_nm {i : Nat} {d : D} : bindT (.nm i) d env = some (env.set i (some (.d d))) := (rfl)
@[simp] theorem bindT_tp {is : List Nat} {ds : List D} : bindT (.tp is) (.tup ds) env = bindTs is ds env := (rfl)
@[simp] theorem bindTs_n : bindTs [] [] env = some env := (rfl)
@[simp] theorem bindTs_c {i : Nat} {is : List Nat} {d : D} {ds : List D} : bindTs (i :: is) (d :: ds) env = bindTs is ds (env.set i (some (.d d))) := (rfl)
/-- a list made by what has no effect, over what may be alive -/
theorem lc_pureG {α : Type} {gs : Gs} {mk : α → D} {p : α → Bool} {f : α → D} {i : Nat} {tt : BS} {fe : ES} (hg : gOk gs S) : ∀ {xs : List α} {acc : List D}, acc.length + xs.length < sizeLine →
    (∀ x ∈ xs, ∀ Q : WP Bool, Q (p x) S → T (tt (env.set i (some (.d (mk x)))) S) Q noE) → (∀ x ∈ xs, p x = true → ∀ Q : WP RW, Q (.d (f x)) S → T (fe (env.set i (some (.d (mk x)))) S) Q noE) →
    P (.own (.lst (acc ++ (xs.filter p).map f))) S → T (lcLoop gs (.nm i) tt fe env (xs.map mk) acc S) P E
  | [], acc, _, _, _, h => by
    rw [List.map_nil]
    unfold lcLoop
    rw [if_pos hg]
    simpa using h
  | x :: xs, acc, hl, ht, hf, h => by
    rw [List.map_cons]
    unfold lcLoop
    rw [if_pos hg]
    show T (((M.calm (tt (env.set i (some (.d (mk x)))))).bind fun b => _) S) P E
    rw [T_bind]
    refine T_calm (ht x (by simp) _ ?_)
    simp only [List.length_cons] at hl
    cases e : p x with
    | false =>
      rw [if_neg Bool.false_ne_true]
      refine lc_pureG hg (by omega) (fun y hy => ht y (by simp [hy])) (fun y hy => hf y (by simp [hy])) ?_
      simpa [List.filter_cons, e] using h
    | true =>
      rw [if_pos rfl, T_bind]
      refine T_calm (hf x (by simp) e _ ?_)
      simp only [toW_d]
      rw [if_pos (by omega)]
      refine lc_pureG hg (by simp only [List.length_append, List.length_cons, List.length_nil]; omega) (fun y hy => ht y (by simp [hy])) (fun y hy => hf y (by simp [hy])) ?_
      simpa [List.filter_cons, e] using h
/-- what is walked: a list in any form, a tuple -/
structure IsSq (w : W) (ds : List D) (S : Store) : Prop where
  it : ∃ gs, itemsW w S = .ok (gs, ds) S ∧ gOk gs S
  vw : view S w = some (.lst ds) ∨ view S w = some (.tup ds)
  lt : ∀ m, w = .loc m → m < S.length
theorem isSq_l {ds : List D} : IsSq (.d (.lst ds)) ds S := ⟨⟨[], rfl, gOk_nil⟩, .inl rfl, (fun m z => nomatch z)⟩
theorem isSq_t {ds : List D} : IsSq (.d (.tup ds)) ds S := ⟨⟨[], rfl, gOk_nil⟩, .inr rfl, (fun m z => nomatch z)⟩
theorem isSq_n {ds : List D} {n : Nat} (hS : S[n]? = some (.lst ds)) : IsSq (.loc n) ds S := by
  refine ⟨⟨[(n, ds)], ?_, fun p hp => ?_⟩, .inl (by simp [hS]), fun m z => by cases z; exact (List.getElem?_eq_some_iff.mp hS).1⟩
  · unfold itemsW
    simp [hS]
  · simp only [List.mem_singleton] at hp
    subst hp
    exact hS
theorem IsSq.app {w : W} {ds : List D} {T : Store} (h : IsSq w ds S) : IsSq w ds (S ++ T) := by
  cases w with
  | d x =>
    obtain ⟨⟨gs, h1, h2⟩, h3, h4⟩ := h
    have hs : ∀ S : Store, itemsW (.d x) S = (match itemsW (.d x) [] with | .ok a _ => .ok a S | .err e _ => .err e S | .stuck => .stuck) := fun S => by
      unfold itemsW
      cases x <;> rfl
    rcases h3 with h3 | h3
    · have : x = .lst ds := by simpa using h3
      subst this; exact isSq_l
    · have : x = .tup ds := by simpa using h3
      subst this; exact isSq_t
  | loc n =>
    have hl := h.lt n rfl
    rcases h.vw with h3 | h3
    · have : S[n]? = some (.lst ds) := by
        rw [List.getElem?_eq_getElem hl]
        simp only [view, List.getElem?_eq_getElem hl] at h3
        cases e : S[n] with
        | lst xs => rw [e] at h3; cases h3; rfl
        | ins C ks vs => rw [e] at h3; cases h3
        | dic ks vs => rw [e] at h3; cases h3
        | dead => rw [e] at h3; cases h3
      exact isSq_n (by rw [List.getElem?_append_left hl]; exact this)
    · simp only [view, List.getElem?_eq_getElem hl] at h3
      cases e : S[n] with
      | lst xs => rw [e] at h3; cases h3
      | ins C ks vs => rw [e] at h3; cases h3
      | dic ks vs => rw [e] at h3; cases h3
      | dead => rw [e] at h3; cases h3
theorem Kover_w {w : W} {gs : Gs} {xs : List D} {PI : WI} (h : itemsW w S = .ok (gs, xs) S) : Kover PI E (wRW w) S = PI (gs, xs) S := by
  unfold Kover
  rw [toW_w, h]
  rfl
end
end Dn

set_option Elab.async false
set_option linter.all false
set_option maxRecDepth 100000
set_option maxHeartbeats 4000000
/-! # Dn, part J: list comprehensions with two clauses -/
namespace Dn
open PySem PySem.Spec L2
/-- the inner walk; k: what follows -/
def lcIn (gs : Gs) (t : TGt) (tt : BS) (fe : ES) (env : Env) (k : List D → M RW) : List D → List D → M RW
  | [], acc => fun S => if gOk gs S then k acc S else .stuck
  | y :: ys, acc => fun S => if gOk gs S then
      match bindT t y env with
      | some env1 => (((tt env1).calm).bind fun b => if b = true then ((fe env1).calm).bind fun w => match w.toW with
          | .d z => if acc.length < sizeLine then lcIn gs t tt fe env k ys (acc ++ [z]) else fun _ => .stuck
          | _ => fun _ => .stuck
        else lcIn gs t tt fe env k ys acc) S
      | none => .stuck
    else .stuck
def lcOut (gs : Gs) (t : TGt) (tt : BS) (own1 : List Nat) (t1 : TGt) (fi1 : IS) (tt1 : BS) (fe : ES) (env : Env) : List D → List D → M RW
  | [], acc => fun S => if gOk gs S then .ok (.own (.lst acc)) S else .stuck
  | x :: xs, acc => fun S => if gOk gs S then
      match bindT t x env with
      | some env1 => (((tt env1).calm).bind fun b => if b = true then ((fi1 env1).calm).bind fun a => lcIn a.1 t1 tt1 fe (wipeE env1 own1) (lcOut gs t tt own1 t1 fi1 tt1 fe env xs) a.2 acc
        else lcOut gs t tt own1 t1 fi1 tt1 fe env xs acc) S
      | none => .stuck
    else .stuck
def lc2S (own own1 : List Nat) (t t1 : TGt) (fi : IS) (tt : BS) (fi1 : IS) (tt1 : BS) (fe : ES) : ES := fun env => (fi env).bind fun a => lcOut a.1 t tt own1 t1 fi1 tt1 fe (wipeE env own) a.2 []
section
variable {X : Cx} {ca : CA} {Wx : WX} {fe : ES} {tt tt1 : BS} {fi fi1 : IS}
theorem lc2S_ok {own own1 : List Nat} {t t1 : TGt} {σ : L2.St} {H : Hp} {Q : VK} (hi : ∀ i ∈ t.ids, i ∈ own) (hi1 : ∀ i ∈ t1.ids, i ∈ own1) (h : tE (GX X ca) Wx (lc2S own own1 t t1 fi tt fi1 tt1 fe) σ H Q) :
    tLc2 (tI (GX X ca) Wx fi) (gT X.K t) (tB (GX X ca) W0 tt) (tI (GX X ca) W0 fi1) (gT X.K t1) (tB (GX X ca) W0 tt1) (tE (GX X ca) W0 fe) own own1 σ H Q := by
  obtain ⟨ω, env, ok, er, p⟩ := h
  refine ⟨ω, env, ok, er, ?_⟩
  unfold lc2S M.bind at p
  cases e1 : fi env ω.S with
  | err x S' => rw [e1] at p; exact p
  | stuck => rw [e1] at p; exact p
  | ok gx S' =>
    rw [e1] at p
    obtain ⟨gs, xs⟩ := gx
    intro ω1 H1 J hs1 le1 ok1 wk D hD
    have p : PostE (GX X ca) ω H Q (fun c d H' => Wx c d σ H') (lcOut gs t tt own1 t1 fi1 tt1 fe (wipeE env own) xs [] S') := p
    rw [← hs1] at p
    have p := PostE.step le1 p
    have er1 := (er.mono le1).wipe own
    obtain ⟨env0, henv⟩ : ∃ e, e = wipeE env own := ⟨_, rfl⟩
    rw [← henv] at p er1
    refine ⟨fun i m H => m = xs.length - i ∧ i ≤ xs.length ∧ ∃ ω2 acc, LcAt (GX X ca) ω1 H1 D acc ω2 H ∧ PostE (GX X ca) ω1 H1 Q (fun c d H' => Wx c d σ H') (lcOut gs t tt own1 t1 fi1 tt1 fe env0 (xs.drop i) acc ω2.S), ?_, ?_⟩
    · exact ⟨xs.length, by simp, Nat.zero_le _, ω1, [], ⟨Le.laid ok1 hD, ok1.laid hD, ⟨[], upd_same, Reps.nil⟩, Sub.fresh ok1.sub hD, fun l => Live.ne ok1 l hD rfl⟩, p⟩
    · rintro i m H2 ⟨rfl, him, ω2, acc, L, p2⟩
      have er2 : EnvR (GX X ca) ω2 env0 (wipe σ own) := er1.mono L.le
      by_cases hlt : i < xs.length
      · have hd : xs.drop i = xs[i] :: xs.drop (i + 1) := List.drop_eq_getElem_cons hlt
        rw [hd] at p2
        unfold lcOut at p2
        split at p2
        rotate_left
        · exact p2.elim
        rename_i hg
        cases hb : bindT t xs[i] env0 with
        | none => rw [hb] at p2; exact p2.elim
        | some env1 =>
          simp only [hb] at p2
          obtain ⟨w1, _⟩ := wk ω2 H2 i L.le.ext L.le.pre L.ok hg
          obtain ⟨go, yl⟩ := w1 _ (List.getElem?_eq_getElem hlt)
          refine .inr ⟨go, fun H' => ∃ ω3 acc', LcAt (GX X ca) ω1 H1 D acc' ω3 H' ∧ PostE (GX X ca) ω1 H1 Q (fun c d H' => Wx c d σ H') (lcOut gs t tt own1 t1 fi1 tt1 fe env0 (xs.drop (i + 1)) acc' ω3.S), fun H' hN => ⟨xs.length - (i + 1), by omega, rfl, hlt, hN⟩, fun x H3 hy => ?_⟩
          obtain ⟨ω3, s3, le3, ok3, r3⟩ := yl x H3 hy
          have L3 := L.step le3 ok3
          refine bindT_ok (G := GX X ca) ok3 r3 (er2.mono le3) hb fun σ2 er4 hw => ⟨by rw [hw own hi, wipe_idem], ?_⟩
          unfold M.bind at p2
          rw [← s3] at p2
          cases e4 : (tt env1).calm ω3.S with
          | err x y => exact (calm_no e4).elim
          | stuck => rw [e4] at p2; exact p2.elim
          | ok b S4 =>
            rw [e4] at p2
            refine tB_at ok3 er4 (calm_ok e4) fun ω4 H4 s4 le4 ok4 => ?_
            have L4 := L3.step le4 ok4
            cases b with
            | false =>
              simp only [Bool.false_eq_true, if_false] at p2 ⊢
              exact ⟨ω4, acc, L4, by rw [s4]; exact p2⟩
            | true =>
              simp only [if_true] at p2 ⊢
              cases e5 : (fi1 env1).calm S4 with
              | err x y => exact (calm_no e5).elim
              | stuck => rw [e5] at p2; exact p2.elim
              | ok gy S5 =>
                rw [e5] at p2
                obtain ⟨gs1, ys⟩ := gy
                have e5' := calm_ok e5
                rw [← s4] at e5'
                refine ⟨ω4, env1, ok4, er4.mono le4, ?_⟩
                rw [e5']
                intro ω5 H5 J1 s5 le5 ok5 wk1
                have L5 := L4.step le5 ok5
                have p2 : PostE (GX X ca) ω1 H1 Q (fun c d H' => Wx c d σ H') (lcIn gs1 t1 tt1 fe (wipeE env1 own1) (lcOut gs t tt own1 t1 fi1 tt1 fe env0 (xs.drop (i + 1))) ys acc S5) := p2
                rw [← s5] at p2
                have er5 := ((er4.mono le4).mono le5).wipe own1
                obtain ⟨env2, henv2⟩ : ∃ e, e = wipeE env1 own1 := ⟨_, rfl⟩
                rw [← henv2] at p2 er5
                refine ⟨fun j k H => k = ys.length - j ∧ j ≤ ys.length ∧ ∃ ω6 acc6, LcAt (GX X ca) ω1 H1 D acc6 ω6 H ∧ Sub ω5.F ω6.F ∧ ω5.mu <+: ω6.mu ∧ EnvR (GX X ca) ω6 env2 (wipe σ2 own1) ∧
                    PostE (GX X ca) ω1 H1 Q (fun c d H' => Wx c d σ H') (lcIn gs1 t1 tt1 fe env2 (lcOut gs t tt own1 t1 fi1 tt1 fe env0 (xs.drop (i + 1))) (ys.drop j) acc6 ω6.S), ⟨ys.length, by simp, Nat.zero_le _, ω5, acc, L5, Sub.refl _, List.prefix_refl _, er5, p2⟩, ?_⟩
                rintro j k H6 ⟨rfl, hjm, ω6, acc6, L6, sb6, pr6, er6, p6⟩
                by_cases hlt1 : j < ys.length
                · have hd1 : ys.drop j = ys[j] :: ys.drop (j + 1) := List.drop_eq_getElem_cons hlt1
                  rw [hd1] at p6
                  unfold lcIn at p6
                  split at p6
                  rotate_left
                  · exact p6.elim
                  rename_i hg1
                  cases hb1 : bindT t1 ys[j] env2 with
                  | none => rw [hb1] at p6; exact p6.elim
                  | some env3 =>
                    simp only [hb1] at p6
                    obtain ⟨w2, _⟩ := wk1 ω6 H6 j sb6 pr6 L6.ok hg1
                    obtain ⟨go1, yl1⟩ := w2 _ (List.getElem?_eq_getElem hlt1)
                    refine .inr ⟨go1, fun H' => ∃ ω7 acc7, LcAt (GX X ca) ω1 H1 D acc7 ω7 H' ∧ Sub ω5.F ω7.F ∧ ω5.mu <+: ω7.mu ∧ EnvR (GX X ca) ω7 env2 (wipe σ2 own1) ∧
                      PostE (GX X ca) ω1 H1 Q (fun c d H' => Wx c d σ H') (lcIn gs1 t1 tt1 fe env2 (lcOut gs t tt own1 t1 fi1 tt1 fe env0 (xs.drop (i + 1))) (ys.drop (j + 1)) acc7 ω7.S), fun H' hN => ⟨ys.length - (j + 1), by omega, rfl, hlt1, hN⟩, fun x H7 hy1 => ?_⟩
                    obtain ⟨ω7, s7, le7, ok7, r7⟩ := yl1 x H7 hy1
                    have L7 := L6.step le7 ok7
                    refine bindT_ok (G := GX X ca) ok7 r7 (er6.mono le7) hb1 fun σ3 er8 hw1 => ⟨by rw [hw1 own1 hi1, wipe_idem], ?_⟩
                    unfold M.bind at p6
                    rw [← s7] at p6
                    cases e8 : (tt1 env3).calm ω7.S with
                    | err x y => exact (calm_no e8).elim
                    | stuck => rw [e8] at p6; exact p6.elim
                    | ok b S8 =>
                      rw [e8] at p6
                      refine tB_at ok7 er8 (calm_ok e8) fun ω8 H8 s8 le8 ok8 => ?_
                      have L8 := L7.step le8 ok8
                      have sb8 : Sub ω5.F ω8.F := fun a o h => le8.ext _ _ (le7.ext _ _ (sb6 _ _ h))
                      have pr8 : ω5.mu <+: ω8.mu := pr6.trans (le7.pre.trans le8.pre)
                      have er9 := (er6.mono le7).mono le8
                      cases b with
                      | false =>
                        simp only [Bool.false_eq_true, if_false] at p6 ⊢
                        exact ⟨ω8, acc6, L8, sb8, pr8, er9, by rw [s8]; exact p6⟩
                      | true =>
                        simp only [if_true] at p6 ⊢
                        cases e9 : (fe env3).calm S8 with
                        | err x y => exact (calm_no e9).elim
                        | stuck => rw [e9] at p6; exact p6.elim
                        | ok w S9 =>
                          rw [e9] at p6
                          have e9' := calm_ok e9
                          rw [← s8] at e9'
                          refine tE_at ok8 (er8.mono le8) e9' fun ω9 H9 y s9 le9 ok9 r9 => ?_
                          obtain ⟨ω10, s10, le10, ok10, r10⟩ := keep_rw ok9 le9 r9
                          have L10 := L8.step le10 ok10
                          cases hw9 : w.toW with
                          | loc n => simp only [hw9] at p6; exact p6.elim
                          | d yd =>
                            simp only [hw9] at p6
                            rw [hw9] at r10
                            split at p6
                            · rename_i hz
                              obtain ⟨vs, hv, hvl, L11⟩ := L10.app hD r10
                              exact ⟨vs, hv, by rw [hvl]; exact hz, ω10, acc6 ++ [yd], L11, fun a o h => le10.ext _ _ (sb8 _ _ h), pr8.trans le10.pre, er9.mono le10, by rw [s10, s9]; exact p6⟩
                            · exact p6.elim
                · have hj' : j = ys.length := by omega
                  subst hj'
                  rw [List.drop_length] at p6
                  unfold lcIn at p6
                  split at p6
                  · rename_i hg1
                    exact .inl ⟨(wk1 ω6 H6 ys.length sb6 pr6 L6.ok hg1).2 rfl, ω6, acc6, L6, p6⟩
                  · exact p6.elim
      · have hi' : i = xs.length := by omega
        subst hi'
        rw [List.drop_length] at p2
        unfold lcOut at p2
        split at p2
        · rename_i hg
          obtain ⟨vs, h1, h2⟩ := L.at_
          exact .inl ⟨(wk ω2 H2 xs.length L.le.ext L.le.pre L.ok hg).2 rfl, p2 ω2 H2 (.ref D) rfl L.le L.ok ⟨D, rfl, hD, L.fr, L.nl, vs, h1, h2⟩⟩
        · exact p2.elim
end
def lc2R (own : List (Str × Nat)) (t t1 : TGt) : RuC where
  sem := fun fi tt fi1 tt1 fe => lc2S (own.map (·.2)) t1.ids t t1 fi tt fi1 tt1 fe
  chk := fun N sc ka kb kc kd ke ex => match ex with
    | .ListComp elt [⟨tg, iter, ifs, 0⟩, ⟨tg1, iter1, ifs1, 0⟩] scope _ => ka.i tg iter && notSet iter && notSet iter1 && blkB N sc scope own && ckT N false (relS scope sc) t tg && ckT N false (relS scope sc) t1 tg1 &&
      t.ids.all (fun i => (own.map (·.2)).contains i) && t1.ids.all (fun i => (own.map (·.2)).contains i) && (kb (relS scope sc)).f ifs && (kc (relS scope sc)).i tg1 iter1 && (kd (relS scope sc)).f ifs1 && (ke (relS scope sc)).e elt
    | _ => false
theorem rc_lc2 {P : Program} {w : World} {K : PySem.W.Frag} {mg : Str → Option Value} {base : Heap} {ca : CA} {k : Nat} {own : List (Str × Nat)} {t t1 : TGt} : ∀ X N, InM P w K mg base k X → RcAt X ca N (lc2R own t t1) := by
  intro X N m Wx b g hcalm a c d e f sa sc sd se sf ex hx
  simp only [lc2R] at hx
  split at hx
  · simp only [Bool.and_eq_true] at hx
    obtain ⟨⟨⟨⟨⟨⟨⟨⟨⟨⟨⟨h1, h2⟩, h3⟩, h4⟩, h5⟩, h6⟩, h7⟩, h8⟩, h9⟩, h10⟩, h11⟩, h12⟩ := hx
    have i7 : ∀ i ∈ t.ids, i ∈ own.map (·.2) := fun i hi => List.contains_iff_mem.mp (List.all_eq_true.mp h7 i hi)
    have i8 : ∀ i ∈ t1.ids, i ∈ own.map (·.2) := fun i hi => List.contains_iff_mem.mp (List.all_eq_true.mp h8 i hi)
    have hbk := blk_of h4
    refine ⟨tst_of (peImp (pe_lc2 (own := own) (vs1 := t1.ids) hcalm g.nd (sa.i _ _ h1) (by rw [g.N]; exact hbk) i8 (g := gT X.K t) (g1 := gT X.K t1) (tt := tB (GX X ca) W0 c.sem.t) (tt1 := tB (GX X ca) W0 e.sem.t) (te := tE (GX X ca) W0 f.sem.e) (wi1 := tI (GX X ca) W0 d.sem.i)
      (fun s H C cl fp => ckT_of (good_blk hcalm g) hcalm rfl h5) (fun s H C cl fp => (sc s H _ C cl fp).2.f _ h9) (fun s H C cl fp => (sd s H _ C cl fp).2.i _ _ h10) (fun s H C cl fp => ckT_of (good_blk hcalm g) hcalm rfl h6) (fun s H C cl fp => (se s H _ C cl fp).2.f _ h11)
      (fun s H C cl fp => (sf s H _ C cl fp).2.e _ h12) (set_of h2) (fun env x => set_of h3 x)) fun σ H Q hw => lc2S_ok i7 (fun i hi => hi) hw) ⟨fun _ => rfl, fun _ _ _ z => nomatch z⟩, fun i mu x p' p hN hl hsw => ?_⟩
    exact psImp (ps_setLc2 (own := own) (vs1 := t1.ids) hcalm g.nd hN hl hsw (sa.i _ _ h1) (by rw [g.N]; exact hbk) i8 (g := gT X.K t) (g1 := gT X.K t1) (tt := tB (GX X ca) W0 c.sem.t) (tt1 := tB (GX X ca) W0 e.sem.t) (te := tE (GX X ca) W0 f.sem.e) (wi1 := tI (GX X ca) W0 d.sem.i)
      (fun s H C cl fp => ckT_of (good_blk hcalm g) hcalm rfl h5) (fun s H C cl fp => (sc s H _ C cl fp).2.f _ h9) (fun s H C cl fp => (sd s H _ C cl fp).2.i _ _ h10) (fun s H C cl fp => ckT_of (good_blk hcalm g) hcalm rfl h6) (fun s H C cl fp => (se s H _ C cl fp).2.f _ h11)
      (fun s H C cl fp => (sf s H _ C cl fp).2.e _ h12) (set_of h2) (fun env x => set_of h3 x)) fun D σ H hw => lc2S_ok i7 (fun i hi => hi) (set_pre hw)
  · cases hx
/-! ### reckoning -/
section
variable {S : Store} {env : Env} {E : WE} {P : WP RW} {fe : ES} {tt tt1 : BS} {fi fi1 : IS}
def Klc2 (own own1 : List Nat) (t t1 : TGt) (tt : BS) (fi1 : IS) (tt1 : BS) (fe : ES) (env : Env) (P : WP RW) (E : WE) : WI := fun a S => T (lcOut a.1 t tt own1 t1 fi1 tt1 fe (wipeE env own) a.2 [] S) P E
@[simp] theorem T_lc2 {own own1 : List Nat} {t t1 : TGt} : T (lc2S own own1 t t1 fi tt fi1 tt1 fe env S) P E = T (fi env S) (Klc2 own own1 t t1 tt fi1 tt1 fe env P E) E := T_bind
@[simp] theorem Klc2_ {own own1 : List Nat} {t t1 : TGt} {a : Gs × List D} : Klc2 own own1 t t1 tt fi1 tt1 fe env P E a S = T (lcOut a.1 t tt own1 t1 fi1 tt1 fe (wipeE env own) a.2 [] S) P E := (rfl)
@[simp] theorem sem_lc2R {own : List (Str × Nat)} {t t1 : TGt} : (lc2R own t t1).sem fi tt fi1 tt1 fe = lc2S (own.map (·.2)) t1.ids t t1 fi tt fi1 tt1 fe := (rfl)
@[simp] theorem se_apc {r : RuC} {a b c d e : IE} : (IE.apc r a b c d e).sem.e = r.sem a.sem.i b.sem.t c.sem.i d.sem.t e.sem.e := (rfl)
@[simp] theorem st_apc {r : RuC} {a b c d e : IE} : (IE.apc r a b c d e).sem.t = tstS (r.sem a.sem.i b.sem.t c.sem.i d.sem.t e.sem.e) := (rfl)
@[simp] theorem ids_nm {i : Nat} : TGt.ids (.nm i) = [i] := (rfl)
@[simp] theorem ids_tp {is : List Nat} : TGt.ids (.tp is) = is := (rfl)
/-- one clause, any target; nothing has an effect -/
theorem lc_pureT {α : Type} {gs : Gs} {t : TGt} {mk : α → D} {e1 : α → Env} {p : α → Bool} {f : α → D} (hg : gOk gs S) : ∀ {xs : List α} {acc : List D}, acc.length + xs.length < sizeLine → (∀ x ∈ xs, bindT t (mk x) env = some (e1 x)) →
    (∀ x ∈ xs, ∀ Q : WP Bool, Q (p x) S → T (tt (e1 x) S) Q noE) → (∀ x ∈ xs, p x = true → ∀ Q : WP RW, Q (.d (f x)) S → T (fe (e1 x) S) Q noE) →
    P (.own (.lst (acc ++ (xs.filter p).map f))) S → T (lcLoop gs t tt fe env (xs.map mk) acc S) P E
  | [], acc, _, _, _, _, h => by
    rw [List.map_nil]
    unfold lcLoop
    rw [if_pos hg]
    simpa using h
  | x :: xs, acc, hl, hb, ht, hf, h => by
    rw [List.map_cons]
    unfold lcLoop
    rw [if_pos hg, hb x (by simp)]
    show T (((M.calm (tt (e1 x))).bind fun b => _) S) P E
    rw [T_bind]
    refine T_calm (ht x (by simp) _ ?_)
    simp only [List.length_cons] at hl
    cases e : p x with
    | false =>
      rw [if_neg Bool.false_ne_true]
      refine lc_pureT hg (by omega) (fun y hy => hb y (by simp [hy])) (fun y hy => ht y (by simp [hy])) (fun y hy => hf y (by simp [hy])) ?_
      simpa [List.filter_cons, e] using h
    | true =>
      rw [if_pos rfl, T_bind]
      refine T_calm (hf x (by simp) e _ ?_)
      simp only [toW_d]
      rw [if_pos (by omega)]
      refine lc_pureT hg (by simp only [List.length_append, List.length_cons, List.length_nil]; omega) (fun y hy => hb y (by simp [hy])) (fun y hy => ht y (by simp [hy])) (fun y hy => hf y (by simp [hy])) ?_
      simpa [List.filter_cons, e] using h
theorem lcIn_pure {β : Type} {gs : Gs} {t : TGt} {mk : β → D} {e1 : β → Env} {p : β → Bool} {f : β → D} {k : List D → M RW} (hg : gOk gs S) : ∀ {ys : List β} {acc : List D}, acc.length + ys.length < sizeLine → (∀ y ∈ ys, bindT t (mk y) env = some (e1 y)) →
    (∀ y ∈ ys, ∀ Q : WP Bool, Q (p y) S → T (tt (e1 y) S) Q noE) → (∀ y ∈ ys, p y = true → ∀ Q : WP RW, Q (.d (f y)) S → T (fe (e1 y) S) Q noE) →
    T (k (acc ++ (ys.filter p).map f) S) P E → T (lcIn gs t tt fe env k (ys.map mk) acc S) P E
  | [], acc, _, _, _, _, h => by
    rw [List.map_nil]
    unfold lcIn
    rw [if_pos hg]
    simpa using h
  | y :: ys, acc, hl, hb, ht, hf, h => by
    rw [List.map_cons]
    unfold lcIn
    rw [if_pos hg, hb y (by simp)]
    show T (((M.calm (tt (e1 y))).bind fun b => _) S) P E
    rw [T_bind]
    refine T_calm (ht y (by simp) _ ?_)
    simp only [List.length_cons] at hl
    cases e : p y with
    | false =>
      rw [if_neg Bool.false_ne_true]
      refine lcIn_pure hg (by omega) (fun z hy => hb z (by simp [hy])) (fun z hy => ht z (by simp [hy])) (fun z hy => hf z (by simp [hy])) ?_
      simpa [List.filter_cons, e] using h
    | true =>
      rw [if_pos rfl, T_bind]
      refine T_calm (hf y (by simp) e _ ?_)
      simp only [toW_d]
      rw [if_pos (by omega)]
      refine lcIn_pure hg (by simp only [List.length_append, List.length_cons, List.length_nil]; omega) (fun z hy => hb z (by simp [hy])) (fun z hy => ht z (by simp [hy])) (fun z hy => hf z (by simp [hy])) ?_
      simpa [List.filter_cons, e] using h
/-- two clauses; nothing has an effect -/
theorem lc2_pure {α β : Type} {gs : Gs} {t t1 : TGt} {own1 : List Nat} {mk : α → D} {e1 : α → Env} {p : α → Bool} {ys : α → List β} {mk1 : β → D} {e2 : α → β → Env} {p1 : α → β → Bool} {f : α → β → D} (hg : gOk gs S) : ∀ {xs : List α} {acc : List D},
    acc.length + (xs.flatMap ys).length < sizeLine → (∀ x ∈ xs, bindT t (mk x) env = some (e1 x)) → (∀ x ∈ xs, ∀ y ∈ ys x, bindT t1 (mk1 y) (wipeE (e1 x) own1) = some (e2 x y)) →
    (∀ x ∈ xs, ∀ Q : WP Bool, Q (p x) S → T (tt (e1 x) S) Q noE) → (∀ x ∈ xs, p x = true → ∀ Q : WI, (∀ gs1, gOk gs1 S → Q (gs1, (ys x).map mk1) S) → T (fi1 (e1 x) S) Q noE) →
    (∀ x ∈ xs, ∀ y ∈ ys x, ∀ Q : WP Bool, Q (p1 x y) S → T (tt1 (e2 x y) S) Q noE) → (∀ x ∈ xs, ∀ y ∈ ys x, p1 x y = true → ∀ Q : WP RW, Q (.d (f x y)) S → T (fe (e2 x y) S) Q noE) →
    P (.own (.lst (acc ++ (xs.filter p).flatMap fun x => ((ys x).filter (p1 x)).map (f x)))) S → T (lcOut gs t tt own1 t1 fi1 tt1 fe env (xs.map mk) acc S) P E
  | [], acc, _, _, _, _, _, _, _, h => by
    rw [List.map_nil]
    unfold lcOut
    rw [if_pos hg]
    simpa using h
  | x :: xs, acc, hl, hb, hb1, ht, hi, ht1, hf, h => by
    rw [List.map_cons]
    unfold lcOut
    rw [if_pos hg, hb x (by simp)]
    show T (((M.calm (tt (e1 x))).bind fun b => _) S) P E
    rw [T_bind]
    refine T_calm (ht x (by simp) _ ?_)
    simp only [List.flatMap_cons, List.length_append] at hl
    have fl : ((ys x).filter (p1 x)).length ≤ (ys x).length := List.length_filter_le _ _
    cases e : p x with
    | false =>
      rw [if_neg Bool.false_ne_true]
      refine lc2_pure hg (by omega) (fun y hy => hb y (by simp [hy])) (fun y hy => hb1 y (by simp [hy])) (fun y hy => ht y (by simp [hy])) (fun y hy => hi y (by simp [hy])) (fun y hy => ht1 y (by simp [hy])) (fun y hy => hf y (by simp [hy])) ?_
      simpa [List.filter_cons, e] using h
    | true =>
      rw [if_pos rfl, T_bind]
      refine T_calm (hi x (by simp) e _ fun gs1 hg1 => ?_)
      refine lcIn_pure (e1 := e2 x) (p := p1 x) (f := f x) hg1 (by omega) (fun y hy => hb1 x (by simp) y hy) (fun y hy => ht1 x (by simp) y hy) (fun y hy => hf x (by simp) y hy) ?_
      refine lc2_pure hg (by simp only [List.length_append, List.length_map]; omega) (fun y hy => hb y (by simp [hy])) (fun y hy => hb1 y (by simp [hy])) (fun y hy => ht y (by simp [hy])) (fun y hy => hi y (by simp [hy])) (fun y hy => ht1 y (by simp [hy])) (fun y hy => hf y (by simp [hy])) ?_
      simpa [List.filter_cons, e] using h
end
end Dn

set_option Elab.async false
set_option linter.all false
set_option maxRecDepth 100000
set_option maxHeartbeats 4000000
/-! # Dn, part K: f-strings, x op= e -/
namespace Dn
open PySem PySem.Spec L2
inductive FP where
  | c (s : Str) | a | b
def fmtD : W → Option Str
  | .d (.str s) => some s
  | .d (.int i) => if i.natAbs.log2 < 1920 then some (strI i) else none
  | _ => none
def fsGo (fa fb : ES) : List FP → Str → ES
  | [], acc => cstS (.str acc)
  | .c s :: r, acc => if (acc ++ s).length ≤ sizeLine then fsGo fa fb r (acc ++ s) else fun _ _ => .stuck
  | .a :: r, acc => fun env => (fa env).bind fun w => match fmtD w.toW with
    | some s => if s.length ≤ sizeLine ∧ (acc ++ s).length ≤ sizeLine then fsGo fa fb r (acc ++ s) env else fun _ => .stuck
    | none => fun _ => .stuck
  | .b :: r, acc => fun env => (fb env).bind fun w => match fmtD w.toW with
    | some s => if s.length ≤ sizeLine ∧ (acc ++ s).length ≤ sizeLine then fsGo fa fb r (acc ++ s) env else fun _ => .stuck
    | none => fun _ => .stuck
section
variable {X : Cx} {ca : CA} {Wx : WX} {fa fb : ES}
def fsT (ta tb : TE) : List FP → List TE
  | [] => []
  | .c s :: r => tC (.str s) :: fsT ta tb r
  | .a :: r => ta :: fsT ta tb r
  | .b :: r => tb :: fsT ta tb r
theorem lenA (a b : Str) : (a ++ b).length = a.length + b.length := by
  show (a.cps ++ b.cps).size = _
  rw [Array.size_append]; rfl
theorem okS_app' {a b : Str} (ha : okS a) (hb : okS b) (hl : (a ++ b).length ≤ sizeLine) : okS (a ++ b) := okS_append ha hb (by rw [← lenA]; exact hl)
theorem fs_part {fx : ES} {g : Str → ES} {acc : Str} {σ : L2.St} {H : Hp} {Q : VK} {R : Str → Hp → Prop} (step : ∀ s H1, okS s → (acc ++ s).length ≤ sizeLine → tE (GX X ca) Wx (g (acc ++ s)) σ H1 Q → R (acc ++ s) H1)
    (h : tE (GX X ca) Wx (fun env => (fx env).bind fun w => match fmtD w.toW with
      | some s => if s.length ≤ sizeLine ∧ (acc ++ s).length ≤ sizeLine then g (acc ++ s) env else fun _ => .stuck
      | none => fun _ => .stuck) σ H Q) :
    tFmt (tE (GX X ca) Wx fx) σ H (fun x H1 => ∃ y : Str, x = .str y ∧ (acc ++ y).length ≤ sizeLine ∧ R (acc ++ y) H1) := by
  obtain ⟨ω, env, ok, er, p⟩ := h
  refine tE_mono (bindW ok er p) fun v H1 ⟨ω1, w, le1, ok1, r1, er1, p1⟩ => ?_
  cases e : fmtD w.toW with
  | none => simp only [e] at p1; exact p1.elim
  | some s =>
    simp only [e] at p1
    split at p1
    rotate_left
    · exact p1.elim
    rename_i hz
    have go : okS s → R (acc ++ s) H1 := fun o => step s H1 o hz.2 ⟨ω1, env, ok1, er1, PostE.step le1 p1⟩
    cases hw : w.toW with
    | loc n => rw [hw] at e; cases e
    | d x =>
      rw [hw] at e r1
      cases x with
      | str t =>
        have : t = s := by
          have e : some t = some s := e
          exact Option.some.inj e
        subst this
        have r1 : Rep (GX X ca) ω1.F (.str t) v := r1
        unfold Rep at r1
        obtain ⟨rfl, o⟩ := r1
        exact .inl ⟨t, rfl, o.2, t, rfl, hz.2, go o⟩
      | int i =>
        have e : (if i.natAbs.log2 < 1920 then some (strI i) else none) = some s := e
        split at e
        rotate_left
        · cases e
        rename_i hl
        have e := Option.some.inj e
        subst e
        have r1 : Rep (GX X ca) ω1.F (.int i) v := r1
        unfold Rep at r1
        subst r1
        exact .inr ⟨i, rfl, hl, strI i, rfl, hz.2, go (okS_strI hl)⟩
      | _ => cases e
theorem fs_ok : ∀ (tpl : List FP) {acc : Str} {σ : L2.St} {H : Hp} {Q : VK}, okS acc → (∀ s, FP.c s ∈ tpl → okS s) → tE (GX X ca) Wx (fsGo fa fb tpl acc) σ H Q →
    tJs (fsT (tFmt (tE (GX X ca) Wx fa)) (tFmt (tE (GX X ca) Wx fb)) tpl) acc σ H (fun out H1 => Q (.str out) H1)
  | [], acc, σ, H, Q, ha, _, h => by
    obtain ⟨ω, env, ok, er, p⟩ := h
    exact p ω H (.str acc) rfl (Le.refl _ _ ok) ok (rep_str (G := GX X ca) (F := ω.F) ha)
  | .c s :: r, acc, σ, H, Q, ha, hs, h => by
    unfold fsGo at h
    split at h
    · rename_i hz
      exact ⟨s, rfl, hz, fs_ok r (okS_app' ha (hs s (by simp)) hz) (fun t ht => hs t (by simp [ht])) h⟩
    · obtain ⟨ω, env, ok, er, p⟩ := h
      exact p.elim
  | .a :: r, acc, σ, H, Q, ha, hs, h => fs_part (R := fun s H1 => tJs (fsT (tFmt (tE (GX X ca) Wx fa)) (tFmt (tE (GX X ca) Wx fb)) r) s σ H1 (fun out H1 => Q (.str out) H1)) (g := fsGo fa fb r) (fun s H1 o hz z => fs_ok r (okS_app' ha o hz) (fun t ht => hs t (by simp [ht])) z) h
  | .b :: r, acc, σ, H, Q, ha, hs, h => fs_part (R := fun s H1 => tJs (fsT (tFmt (tE (GX X ca) Wx fa)) (tFmt (tE (GX X ca) Wx fb)) r) s σ H1 (fun out H1 => Q (.str out) H1)) (g := fsGo fa fb r) (fun s H1 o hz z => fs_ok r (okS_app' ha o hz) (fun t ht => hs t (by simp [ht])) z) h
end
def fsCk (ka kb : Expr → Bool) : List FP → List Expr → Bool
  | [], [] => true
  | .c s :: r, .Constant (.str t) _ _ :: es => sq s t && okB t && fsCk ka kb r es
  | .a :: r, .FormattedValue e c none _ :: es => decide (c = -1) && ka e && fsCk ka kb r es
  | .b :: r, .FormattedValue e c none _ :: es => decide (c = -1) && kb e && fsCk ka kb r es
  | _, _ => false
def fsR (tpl : List FP) : Ru where
  sem := fun a b => fsGo a.e b.e tpl Str.empty
  chk := fun _ _ ka kb ex => match ex with
    | .JoinedStr (v1 :: v2 :: rest) _ => fsCk ka.e kb.e tpl (v1 :: v2 :: rest)
    | _ => false
theorem fs_pj {X : Cx} {ta tb : TE} {ka kb : Expr → Bool} (ha : ∀ e, ka e = true → PE X e ta) (hb : ∀ e, kb e = true → PE X e tb) : ∀ {tpl : List FP} {es : List Expr}, fsCk ka kb tpl es = true → PJ X es (fsT (tFmt ta) (tFmt tb) tpl) ∧ ∀ s, FP.c s ∈ tpl → okS s
  | [], [], _ => ⟨.nil, fun s h => by simp at h⟩
  | .c s :: r, e :: es, h => by
    unfold fsCk at h
    split at h
    · simp_all
    · rename_i heq1 heq2
      cases heq1; cases heq2
      simp only [Bool.and_eq_true] at h
      obtain ⟨⟨h1, h2⟩, h3⟩ := h
      obtain ⟨z1, z2⟩ := fs_pj ha hb h3
      cases sq_eq h1
      refine ⟨.cons pe_str z1, fun t ht => ?_⟩
      rcases List.mem_cons.mp ht with q | q
      · cases q; exact okS_of h2
      · exact z2 t q
    · rename_i heq1 heq2; cases heq1
    · rename_i heq1 heq2; cases heq1
    · cases h
  | .a :: r, e :: es, h => by
    unfold fsCk at h
    split at h
    · simp_all
    · rename_i heq1 heq2; cases heq1
    · rename_i heq1 heq2
      cases heq1; cases heq2
      simp only [Bool.and_eq_true, decide_eq_true_eq] at h
      obtain ⟨⟨rfl, h2⟩, h3⟩ := h
      obtain ⟨z1, z2⟩ := fs_pj ha hb h3
      exact ⟨.cons (pe_fmt (ha _ h2)) z1, fun t ht => z2 t (by simpa using ht)⟩
    · rename_i heq1 heq2; cases heq1
    · cases h
  | .b :: r, e :: es, h => by
    unfold fsCk at h
    split at h
    · simp_all
    · rename_i heq1 heq2; cases heq1
    · rename_i heq1 heq2; cases heq1
    · rename_i heq1 heq2
      cases heq1; cases heq2
      simp only [Bool.and_eq_true, decide_eq_true_eq] at h
      obtain ⟨⟨rfl, h2⟩, h3⟩ := h
      obtain ⟨z1, z2⟩ := fs_pj ha hb h3
      exact ⟨.cons (pe_fmt (hb _ h2)) z1, fun t ht => z2 t (by simpa using ht)⟩
    · cases h
  | [], _ :: _, h => by cases h
  | .c _ :: _, [], h => by cases h
  | .a :: _, [], h => by cases h
  | .b :: _, [], h => by cases h
theorem ru_fs {P : Program} {w : World} {K : PySem.W.Frag} {mg : Str → Option Value} {base : Heap} {ca : CA} {k : Nat} {tpl : List FP} : RuK P w K mg base ca k (fsR tpl) := by
  intro X N m Wx b g a c sa sc ex hx
  simp only [fsR] at hx
  split at hx
  · obtain ⟨z1, z2⟩ := fs_pj (fun e h => sa.e e h) (fun e h => sc.e e h) hx
    exact tst_of (peImp (pe_joined z1) fun σ H Q h => fs_ok tpl (okS_of (by decide +kernel)) z2 h) ⟨fun _ => rfl, fun _ _ _ z => nomatch z⟩
  · cases hx
/-! ### x op= e, ints and texts -/
def augD (o : BO) : DPrim := fun ds => match o, ds with
  | .add, [.int i, .int j] => some (.d (.int (i + j)))
  | .add, [.str a, .str b] => if a.length + b.length ≤ sizeLine then some (.d (.str (a ++ b))) else none
  | .sub, [.int i, .int j] => some (.d (.int (i - j)))
  | _, _ => none
def augR (o : BO) (i : Nat) : RuS where
  sem := fun a _ _ _ _ => setS i false (opS (liftD (augD o)) (varS i) a.e)
  chk := fun N sc ka _ _ _ _ st => match st with
    | .AugAssign (.Name x _) op e _ => decide (op = o.op) && atN N i x && stor true sc x && ka.e e
    | _ => false
theorem pip_aug {X : Cx} {ca : CA} {o : BO} : PIp X o.op (fun x y H Q => tP ⟨X.K, ca⟩ (liftD (augD o)) [x, y] H Q) := by
  intro pins s σ H x y v u Q I r1 r2 h
  have z : (o = .add ∧ ∃ i j, x = .int i ∧ y = .int j ∧ Q (.int (i + j)) H) ∨ (o = .add ∧ ∃ i j, x = .str i ∧ y = .str j ∧ i.length + j.length ≤ sizeLine ∧ Q (.str (i ++ j)) H) ∨ (o = .sub ∧ ∃ i j, x = .int i ∧ y = .int j ∧ Q (.int (i - j)) H) := by
    refine liftD_ok (G := ⟨X.K, ca⟩) (r := fun vs H Q => ∀ x y, vs = [x, y] → (o = .add ∧ ∃ i j, x = .int i ∧ y = .int j ∧ Q (.int (i + j)) H) ∨ (o = .add ∧ ∃ i j, x = .str i ∧ y = .str j ∧ i.length + j.length ≤ sizeLine ∧ Q (.str (i ++ j)) H) ∨ (o = .sub ∧ ∃ i j, x = .int i ∧ y = .int j ∧ Q (.int (i - j)) H)) (fun ω H ds vs a Q ok n e p => ?_) h x y rfl
    rintro x y rfl
    unfold augD at e
    split at e
    · cases e
      obtain ⟨v1, u1, e2, n1, n2⟩ := nows2 n
      simp only [List.cons.injEq, and_true] at e2
      obtain ⟨rfl, rfl⟩ := e2
      cases now_int n1; cases now_int n2
      exact .inl ⟨rfl, _, _, rfl, rfl, end_d ok p (rep_int _)⟩
    · split at e
      · rename_i hz
        cases e
        obtain ⟨v1, u1, e2, n1, n2⟩ := nows2 n
        simp only [List.cons.injEq, and_true] at e2
        obtain ⟨rfl, rfl⟩ := e2
        obtain ⟨rfl, o1⟩ := now_str n1
        obtain ⟨rfl, o2⟩ := now_str n2
        exact .inr (.inl ⟨rfl, _, _, rfl, rfl, hz, end_d ok p (rep_str (okS_append o1 o2 hz))⟩)
      · cases e
    · cases e
      obtain ⟨v1, u1, e2, n1, n2⟩ := nows2 n
      simp only [List.cons.injEq, and_true] at e2
      obtain ⟨rfl, rfl⟩ := e2
      cases now_int n1; cases now_int n2
      exact .inr (.inr ⟨rfl, _, _, rfl, rfl, end_d ok p (rep_int _)⟩)
    · cases e
  rcases z with ⟨rfl, z⟩ | ⟨rfl, z⟩ | ⟨rfl, z⟩
  · exact ip_add pins s σ H x y v u Q I r1 r2 z
  · exact iop_add_str pins s σ H x y v u Q I r1 r2 z
  · exact ip_sub pins s σ H x y v u Q I r1 r2 z
theorem rs_aug {P : Program} {w : World} {K : PySem.W.Frag} {mg : Str → Option Value} {base : Heap} {ca : CA} {k : Nat} {o : BO} {i : Nat} : RsK P w K mg base ca k (augR o i) := by
  intro X N m Wx g a c _ ff fg kf kg sa sc _ _ _ st hx
  simp only [augR] at hx
  split at hx
  · simp only [Bool.and_eq_true, decide_eq_true_eq] at hx
    obtain ⟨⟨⟨rfl, h2⟩, h3⟩, h4⟩ := hx
    obtain ⟨z1, z2⟩ := stor_of g h3
    refine psImp (ps_aug g.nd (by rw [g.N]; exact atN_of h2) z1 (sa.e _ h4) (pip_aug (ca := ca)) z2) fun D σ H h => ?_
    have h2 : tE (GX X ca) Wx (varS i) σ H (fun v H1 => tE (GX X ca) Wx a.sem.e σ H1 fun u H2 => tP (GX X ca) (liftD (augD o)) [v, u] H2 fun z H3 => D.nx (σ.set i (some z)) H3) := opS_ok (set_pre (mu := false) h)
    obtain ⟨ω, env, ok, er, p⟩ := h2
    unfold varS at p
    split at p
    · rename_i w e
      obtain ⟨v, h1, h2⟩ := er.2 i w e
      exact ⟨v, h1, p ω H v rfl (Le.refl _ _ ok) ok (repRW_wRW h2)⟩
    · exact p.elim
  · cases hx
section
variable {S : Store} {env : Env} {E : WE} {P : WP RW} {fa fb : ES} {Z : En}
@[simp] theorem sem_augR {o : BO} {i : Nat} {a b c : Sx} {x y : SS} : (augR o i).sem a b c x y = setS i false (opS (liftD (augD o)) (varS i) a.e) := (rfl)
@[simp] theorem aug_ii {i j : Int} : augD .add [.int i, .int j] = some (.d (.int (i + j))) := (rfl)
@[simp] theorem aug_si {i j : Int} : augD .sub [.int i, .int j] = some (.d (.int (i - j))) := (rfl)
theorem aug_ss {a b : Str} (h : a.length + b.length ≤ sizeLine) : augD .add [.str a, .str b] = some (.d (.str (a ++ b))) := if_pos h
@[simp] theorem sem_fsR {tpl : List FP} {a b : Sx} : (fsR tpl).sem a b = fsGo a.e b.e tpl Str.empty := (rfl)
def Kfs (fa fb : ES) (r : List FP) (acc : Str) (env : Env) (P : WP RW) (E : WE) : WP RW := fun w S => ∃ s, fmtD w.toW = some s ∧ s.length ≤ sizeLine ∧ (acc ++ s).length ≤ sizeLine ∧ T (fsGo fa fb r (acc ++ s) env S) P E
@[simp] theorem T_fsn {acc : Str} : T (fsGo fa fb [] acc env S) P E = P (.d (.str acc)) S := (rfl)
theorem T_fsc {s acc : Str} {r : List FP} (h : (acc ++ s).length ≤ sizeLine) : T (fsGo fa fb (.c s :: r) acc env S) P E = T (fsGo fa fb r (acc ++ s) env S) P E := by
  rw [fsGo, if_pos h]
theorem T_fs1 {fx : ES} {g : Str → ES} {acc : Str} : T ((fun env => (fx env).bind fun w => match fmtD w.toW with
      | some s => if s.length ≤ sizeLine ∧ (acc ++ s).length ≤ sizeLine then g (acc ++ s) env else fun _ => .stuck
      | none => fun _ => .stuck) env S) P E = T (fx env S) (fun w S => ∃ s, fmtD w.toW = some s ∧ s.length ≤ sizeLine ∧ (acc ++ s).length ≤ sizeLine ∧ T (g (acc ++ s) env S) P E) E := by
  show T (((fx env).bind _) S) P E = _
  rw [T_bind]
  congr 1
  funext w S'
  apply propext
  cases e : fmtD w.toW with
  | none => simp [T]
  | some s =>
    simp only [Option.some.injEq]
    split
    · rename_i h
      refine ⟨fun z => ⟨s, rfl, h.1, h.2, z⟩, ?_⟩
      rintro ⟨s', rfl, _, _, z⟩
      exact z
    · rename_i h
      refine ⟨fun z => z.elim, ?_⟩
      rintro ⟨s', rfl, h1, h2, _⟩
      exact (h ⟨h1, h2⟩).elim
@[simp] theorem T_fsa {acc : Str} {r : List FP} : T (fsGo fa fb (.a :: r) acc env S) P E = T (fa env S) (Kfs fa fb r acc env P E) E := T_fs1 (g := fsGo fa fb r)
@[simp] theorem T_fsb {acc : Str} {r : List FP} : T (fsGo fa fb (.b :: r) acc env S) P E = T (fb env S) (Kfs fa fb r acc env P E) E := T_fs1 (g := fsGo fa fb r)
@[simp] theorem Kfs_s {acc x : Str} {r : List FP} : Kfs fa fb r acc env P E (.d (.str x)) S = (x.length ≤ sizeLine ∧ (acc ++ x).length ≤ sizeLine ∧ T (fsGo fa fb r (acc ++ x) env S) P E) := by
  unfold Kfs
  apply propext
  refine ⟨?_, fun z => ⟨x, rfl, z⟩⟩
  rintro ⟨s, e, z⟩
  have e : some x = some s := e
  cases e
  exact z
theorem Kfs_i {acc : Str} {i : Int} {r : List FP} (h : i.natAbs.log2 < 1920) : Kfs fa fb r acc env P E (.d (.int i)) S = ((strI i).length ≤ sizeLine ∧ (acc ++ strI i).length ≤ sizeLine ∧ T (fsGo fa fb r (acc ++ strI i) env S) P E) := by
  unfold Kfs
  apply propext
  refine ⟨?_, fun z => ⟨strI i, if_pos h, z⟩⟩
  rintro ⟨s, e, z⟩
  have e : (if i.natAbs.log2 < 1920 then some (strI i) else none) = some s := e
  rw [if_pos h] at e
  cases e
  exact z
end
end Dn

set_option Elab.async false
set_option linter.all false
set_option maxRecDepth 100000
set_option maxHeartbeats 4000000
/-! # Dn, part L: dicts with ints and texts as keys -/
namespace Dn
open PySem PySem.Spec L2
def keyD : D → Option Key
  | .int i => some (.inl i)
  | .str s => some (.inr s)
  | _ => none
def lookD : List Key → List D → Key → Option D
  | k :: ks, v :: vs, j => if k = j then some v else lookD ks vs j
  | _, _, _ => none
theorem lookD_val {G : RC} {F : Hp} : ∀ {ks : List Key} {vs : List D} {ws : List V} (j : Key), Reps G F vs ws → ks.length = vs.length →
    (∀ d, lookD ks vs j = some d → ∃ u, valV (ks.zip ws) j = some u ∧ Rep G F d u) ∧ (lookD ks vs j = none → valV (ks.zip ws) j = none)
  | [], [], _, j, h, _ => by
    refine ⟨fun d e => (nomatch e), fun _ => ?_⟩
    simp [valV_nil]
  | k :: ks, v :: vs, _, j, h, hl => by
    obtain ⟨w, ws, rfl, h1, h2⟩ := h.inv_cons
    rw [List.zip_cons_cons]
    unfold lookD
    by_cases hk : k = j
    · rw [if_pos hk]
      refine ⟨fun d e => ?_, fun e => (nomatch e)⟩
      cases e
      exact ⟨w, valV_pos (p := (k, w)) hk, h1⟩
    · rw [if_neg hk, valV_neg (p := (k, w)) hk]
      exact lookD_val j h2 (by simpa using hl)
  | [], _ :: _, _, _, _, hl => by simp at hl
  | _ :: _, [], _, _, _, hl => by simp at hl
theorem keyD_v {G : RC} {ω : Wd} {H : Hp} {d : D} {v : V} {k : Key} (h : Now G ω H d v) (e : keyD d = some k) : v = kV k := by
  cases d with
  | int i => cases e; exact now_int h
  | str s => cases e; exact (now_str h).1
  | _ => cases e
def dgetD : DPrim
  | [.dic _ ks vs, y] => (keyD y).bind fun k => (lookD ks vs k).map .d
  | _ => none
def dinD (ng : Bool) : DPrim
  | [y, .dic _ ks vs] => (keyD y).map fun k => .d (.bl ((lookD ks vs k).isSome != ng))
  | _ => none
section
variable {X : Cx} {ca : CA} {Wx : WX} {fa fb fo : ES}
theorem dget_pre {σ : L2.St} {H : Hp} {Q : VK} (h : tE (GX X ca) Wx (opS (liftD dgetD) fa fb) σ H Q) : tDGet (tE (GX X ca) Wx fa) (tE (GX X ca) Wx fb) σ H Q := by
  refine tE_mono (opS_ok h) fun x H1 h1 => tE_mono h1 fun y H2 h2 => ?_
  refine liftD_ok (G := GX X ca) (r := fun vs H Q => ∀ x y, vs = [x, y] → ∃ a v, x = .ref a ∧ DGet H a y (some v) ∧ Q v H) (fun ω H ds vs a Q ok n e p => ?_) h2 x y rfl
  rintro x y rfl
  unfold dgetD at e
  split at e
  · rename_i ks vs yd
    obtain ⟨k, e1, e2⟩ := Option.bind_eq_some_iff.mp e
    obtain ⟨d, e3, rfl⟩ := Option.map_eq_some_iff.mp e2
    obtain ⟨v1, u1, e4, n1, n2⟩ := nows2 n
    simp only [List.cons.injEq, and_true] at e4
    obtain ⟨rfl, rfl⟩ := e4
    obtain ⟨a, ws, rfl, h3, h4, h5⟩ := n1
    obtain ⟨u, hu, ru⟩ := (lookD_val k h5 h4).1 d e3
    refine ⟨a, u, rfl, ?_, end_d ok p ru⟩
    rw [keyD_v n2 e1, ← hu]
    exact .inl ⟨_, _, h3.rd, rfl, rfl⟩
  · cases e
end
def dgetR : Ru where
  sem := fun a b => opS (liftD dgetD) a.e b.e
  chk := fun _ _ ka kb ex => match ex with
    | .Subscript a b _ => ka.e a && kb.e b && notSlice b
    | _ => false
theorem noSl_of {e : Expr} (h : notSlice e = true) : NoSl e := by
  intro o i
  cases e <;> first | rfl | cases h
theorem ru_dget {P : Program} {w : World} {K : PySem.W.Frag} {mg : Str → Option Value} {base : Heap} {ca : CA} {k : Nat} : RuK P w K mg base ca k dgetR := by
  intro X N m Wx b g a c sa sc ex hx
  simp only [dgetR] at hx
  split at hx
  · simp only [Bool.and_eq_true] at hx
    obtain ⟨⟨h1, h2⟩, h3⟩ := hx
    exact tst_of (peImp (pe_dget (by have := g.un; omega) (sa.e _ h1) (sc.e _ h2) (noSl_of h3)) fun σ H Q h => dget_pre h) ⟨fun _ => rfl, fun _ _ _ z => nomatch z⟩
  · cases hx
/-! {} -/
def dnewR : Ru where
  sem := fun _ _ => fun _ => M.ret (.own (.dic [] []))
  chk := fun _ _ _ _ ex => match ex with
    | .Dict [] [] _ => true
    | _ => false
theorem ru_dnew {P : Program} {w : World} {K : PySem.W.Frag} {mg : Str → Option Value} {base : Heap} {ca : CA} {k : Nat} : RuK P w K mg base ca k dnewR := by
  intro X N m Wx b g a c sa sc ex hx
  simp only [dnewR] at hx
  split at hx
  · refine tst_of (peImp pe_dnewK fun σ H Q h => ?_) ⟨fun _ => rfl, fun _ _ _ z => nomatch z⟩
    obtain ⟨ω, env, ok, er, p⟩ := h
    intro q hq
    exact end_own ok p hq ⟨[], upd_same, rfl, Reps.nil⟩
  · cases hx
/-! k in d, k not in d -/
section
variable {X : Cx} {ca : CA} {Wx : WX} {fa fb : ES}
theorem din_pre {ng : Bool} {σ : L2.St} {H : Hp} {Q : VK} (h : tE (GX X ca) Wx (opS (liftD (dinD ng)) fa fb) σ H Q) :
    tE (GX X ca) Wx fa σ H fun y H1 => tE (GX X ca) Wx fb σ H1 fun x H2 => ∃ a o, x = .ref a ∧ DGet H2 a y o ∧ Q (.bl (o.isSome != ng)) H2 := by
  refine tE_mono (opS_ok h) fun y H1 h1 => tE_mono h1 fun x H2 h2 => ?_
  refine liftD_ok (G := GX X ca) (r := fun vs H Q => ∀ y x, vs = [y, x] → ∃ a o, x = .ref a ∧ DGet H a y o ∧ Q (.bl (o.isSome != ng)) H) (fun ω H ds vs a Q ok n e p => ?_) h2 y x rfl
  rintro y x rfl
  unfold dinD at e
  split at e
  · rename_i yd lk ks vs
    obtain ⟨k, e1, rfl⟩ := Option.map_eq_some_iff.mp e
    obtain ⟨v1, u1, e4, n1, n2⟩ := nows2 n
    simp only [List.cons.injEq, and_true] at e4
    obtain ⟨rfl, rfl⟩ := e4
    obtain ⟨a, ws, rfl, h3, h4, h5⟩ := n2
    obtain ⟨z1, z2⟩ := lookD_val k h5 h4
    have hs : (valV (ks.zip ws) k).isSome = (lookD ks vs k).isSome := by
      cases e6 : lookD ks vs k with
      | none => rw [z2 e6]; rfl
      | some d => obtain ⟨u, hu, _⟩ := z1 d e6; rw [hu]; rfl
    refine ⟨a, valV (ks.zip ws) k, rfl, ?_, ?_⟩
    · rw [keyD_v n1 e1]; exact .inl ⟨_, _, h3.rd, rfl, rfl⟩
    · rw [hs]; exact end_d ok p (rep_bl _)
  · cases e
theorem bl_din {ng : Bool} : Bl (opS (liftD (dinD ng)) fa fb) := bl_op fun ds r e => by
  unfold dinD at e
  split at e
  · obtain ⟨k, _, rfl⟩ := Option.map_eq_some_iff.mp e
    exact ⟨_, rfl⟩
  · cases e
end
def dinR (ng : Bool) : Ru where
  sem := fun a b => opS (liftD (dinD ng)) a.e b.e
  chk := fun _ _ ka kb ex => match ex with
    | .Compare a [op] [b] _ => decide (op = if ng then .NotIn else .In) && ka.e a && kb.e b && notSet b
    | _ => false
theorem ru_din {P : Program} {w : World} {K : PySem.W.Frag} {mg : Str → Option Value} {base : Heap} {ca : CA} {k : Nat} {ng : Bool} : RuK P w K mg base ca k (dinR ng) := by
  intro X N m Wx b g a c sa sc ex hx
  simp only [dinR] at hx
  split at hx
  · simp only [Bool.and_eq_true, decide_eq_true_eq] at hx
    obtain ⟨⟨⟨rfl, h1⟩, h2⟩, h3⟩ := hx
    have hu : X.A.units + 1 < cLine := by have := g.un; omega
    cases ng with
    | false =>
      have pc := pc_din hu (sa.e _ h1) (sc.e _ h2)
      refine ⟨peImp (pe_cmp pc (beh_of h3)) fun σ H Q h => ?_, ptImp (pt_cmp pc (beh_of h3)) fun σ H Q h => ?_, fun _ _ _ z => nomatch z⟩
      · exact tE_mono (din_pre h) fun y H1 z => tE_mono z fun x H2 ⟨a, o, e1, e2, e3⟩ => ⟨a, o, e1, e2, by simpa using e3⟩
      · exact tE_mono (din_pre (Q := fun x H' => ∃ k, x = .bl k ∧ Q k H') (tst_bl bl_din h)) fun y H1 z => tE_mono z fun x H2 ⟨a, o, e1, e2, e3⟩ => ⟨a, o, e1, e2, by simpa using e3⟩
    | true =>
      have pc := pc_dnotin hu (sa.e _ h1) (sc.e _ h2)
      refine ⟨peImp (pe_cmp pc (beh_of h3)) fun σ H Q h => ?_, ptImp (pt_cmp pc (beh_of h3)) fun σ H Q h => ?_, fun _ _ _ z => nomatch z⟩
      · exact tE_mono (din_pre h) fun y H1 z => tE_mono z fun x H2 ⟨a, o, e1, e2, e3⟩ => ⟨a, o, e1, e2, by simpa using e3⟩
      · exact tE_mono (din_pre (Q := fun x H' => ∃ k, x = .bl k ∧ Q k H') (tst_bl bl_din h)) fun y H1 z => tE_mono z fun x H2 ⟨a, o, e1, e2, e3⟩ => ⟨a, o, e1, e2, by simpa using e3⟩
  · cases hx
end Dn

set_option Elab.async false
set_option linter.all false
set_option maxRecDepth 100000
set_option maxHeartbeats 4000000
/-! # Dn, part M: zip and enumerate over lists, tuples, texts of any mixture -/
namespace Dn
open PySem PySem.Spec PyProof.Rows L2

/-- what is drawn from: k tells a list from a tuple -/
def ZSrc (K : PySem.W.Frag) (H : Hp) (k : Bool) (v : V) (its : List V) : Prop :=
  (k = true ∧ ∃ a, v = .ref a ∧ SqL K H a its) ∨ (k = false ∧ ∃ a, v = .ref a ∧ SqT K H a its) ∨ ∃ x, v = .str x ∧ its = x.cps.toList.map fun c => V.str ⟨#[c]⟩
def itObj (k : Bool) (u : Value) : Obj := match u with
  | .str x t => { cls := .type (strIterType x), data := .fields #[.str x t, .int 0 0] }
  | u => { cls := .type (if k then "list_iterator" else "tuple_iterator"), data := .fields #[u, .int 0 0] }
def ItAt (k : Bool) (h : Heap) (it : Addr) (u : Value) (i : Nat) : Prop := match u with
  | .ref a => if k then h.IsListIter it a i else h.IsTupleIter it a i
  | .str x t => h.IsStrIter it (strIterType x) x t i
  | _ => False
theorem vals_getV {its : List V} {vs : List Value} (r : Vals its vs) {j : Nat} {y : Value} (e : vs[j]? = some y) : ∃ x, its[j]? = some x ∧ RelV x y := by
  have hj : j < its.length := by rw [r.length]; exact (List.getElem?_eq_some_iff.mp e).1
  obtain ⟨u, hu, ru⟩ := r.get (List.getElem?_eq_getElem hj)
  rw [e] at hu; cases hu
  exact ⟨_, List.getElem?_eq_getElem hj, ru⟩
theorem ItAt.there {k : Bool} {h : Heap} {it : Addr} {u : Value} {i : Nat} (st : ItAt k h it u i) : ∃ o, h.get? it = some o ∧ ∀ v, o.data ≠ .cell v := by
  cases u with
  | ref a =>
    simp only [ItAt] at st
    cases k with
    | true => obtain ⟨o, ho, hc, hd⟩ := st; exact ⟨o, ho, fun v q => by rw [hd] at q; cases q⟩
    | false => obtain ⟨o, ho, hc, hd⟩ := st; exact ⟨o, ho, fun v q => by rw [hd] at q; cases q⟩
  | str x t => obtain ⟨o, ho, hc, hd⟩ := st; exact ⟨o, ho, fun v q => by rw [hd] at q; cases q⟩
  | _ => exact st.elim
theorem ItAt.at {k : Bool} {h h' : Heap} {it : Addr} {u : Value} {i : Nat} (st : ItAt k h it u i) (e : ∀ o, h.get? it = some o → h'.get? it = some o) : ItAt k h' it u i := by
  cases u with
  | ref a =>
    simp only [ItAt] at st ⊢
    cases k with
    | true => exact Heap.IsListIter.at st e
    | false => exact Heap.IsTupleIter.at st e
  | str x t => obtain ⟨o, ho, r⟩ := st; exact ⟨o, e o ho, r⟩
  | _ => exact st.elim
section
variable {X : Cx} {pins : List (Addr × Obj)} {σ : L2.St} {H : Hp} {s : Shared}
/-- what is drawn -/
theorem zdraw {A : Around} (hA : A.handled = none) (I : Inv X pins σ H s) {k : Bool} {v : V} {u : Value} {its : List V} {it : Addr} {i : Nat} (r : RelV v u) (hz : ZSrc X.K H k v its) (hne : ∀ a, u = .ref a → a ≠ it) (st : ItAt k s.heap it u i) :
    ∃ fp P St, Draws X.prog X.w A it fp its.length P St ∧ St i s.heap ∧ (∀ j h, St j h → ItAt k h it u j) ∧ (fp = [it] ∨ ∃ a, u = .ref a ∧ fp = [it, a]) ∧ ∀ j y, P j y → ∃ x, its[j]? = some x ∧ RelV x y := by
  rcases hz with ⟨rfl, a, rfl, hq⟩ | ⟨rfl, a, rfl, hq⟩ | ⟨x, rfl, rfl⟩
  · obtain rfl : u = .ref a := r
    obtain ⟨vs, rv, p, _⟩ := I.list hq
    refine ⟨_, _, _, (show vs.toArray.size = its.length from by simp [rv.length]) ▸ Draws.list hA it a (hne a rfl) vs.toArray, ⟨st, p.isList⟩, fun j h q => q.1, .inr ⟨a, rfl, rfl⟩, fun j y e => ?_⟩
    have e : vs[j]? = some y := by simpa using e
    obtain ⟨x, hx, rx⟩ := vals_getV rv e
    exact ⟨x, hx, rx⟩
  · obtain rfl : u = .ref a := r
    obtain ⟨vs, rv, p, _⟩ := I.tuple hq
    refine ⟨_, _, _, (show vs.toArray.size = its.length from by simp [rv.length]) ▸ Draws.tuple hA it a (hne a rfl) vs.toArray, ⟨st, p⟩, fun j h q => q.1, .inr ⟨a, rfl, rfl⟩, fun j y e => ?_⟩
    have e : vs[j]? = some y := by simpa using e
    obtain ⟨x, hx, rx⟩ := vals_getV rv e
    exact ⟨x, hx, rx⟩
  · obtain ⟨t, rfl⟩ := r
    refine ⟨_, _, _, (show x.cps.size = (x.cps.toList.map fun c => V.str ⟨#[c]⟩).length from by simp) ▸ Draws.text hA it x t, st, fun j h q => q, .inl rfl, fun j y e => ?_⟩
    obtain ⟨c, t', hc, rfl⟩ := e
    refine ⟨.str ⟨#[c]⟩, ?_, ⟨t', rfl⟩⟩
    rw [List.getElem?_map, Array.getElem?_toList, hc]; rfl
theorem zbeg (I : Inv X pins σ H s) {k : Bool} {v : V} {u : Value} {its : List V} (r : RelV v u) (hz : ZSrc X.K H k v its) :
    ∃ Hq, Begins u (itObj k u) Hq ∧ Hq s.heap ∧ (∀ a, u = .ref a → a < s.heap.objs.size) ∧ ∀ h it, h.get? it = some (itObj k u) → ItAt k h it u 0 := by
  rcases hz with ⟨rfl, a, rfl, hq⟩ | ⟨rfl, a, rfl, hq⟩ | ⟨x, rfl, rfl⟩
  · obtain rfl : u = .ref a := r
    obtain ⟨vs, rv, p, _⟩ := I.list hq
    exact ⟨_, begins_list a vs.toArray, p.isList, fun b e => by cases e; exact p.lt, fun h it e => ⟨_, e, rfl, rfl⟩⟩
  · obtain rfl : u = .ref a := r
    obtain ⟨vs, rv, p, _⟩ := I.tuple hq
    obtain ⟨o1, ho1, _⟩ := id p
    exact ⟨_, begins_tuple a vs.toArray, p, fun b e => by cases e; exact Heap.lt_size ho1, fun h it e => ⟨_, e, rfl, rfl⟩⟩
  · obtain ⟨t, rfl⟩ := r
    exact ⟨_, begins_text x t, trivial, fun b e => (by cases e), fun h it e => ⟨_, e, rfl, rfl⟩⟩
theorem zinj (I : Inv X pins σ H s) {k : Bool} {v : V} {its its' : List V} (h : ZSrc X.K H k v its) (h' : ZSrc X.K H k v its') : its = its' := by
  rcases h with ⟨rfl, a, rfl, hq⟩ | ⟨rfl, a, rfl, hq⟩ | ⟨x, rfl, rfl⟩
  · rcases h' with ⟨_, b, e, hq'⟩ | ⟨z, _⟩ | ⟨_, e, _⟩
    · cases e; exact I.list_inj hq hq'
    · cases z
    · cases e
  · rcases h' with ⟨z, _⟩ | ⟨_, b, e, hq'⟩ | ⟨_, e, _⟩
    · cases z
    · cases e; exact I.tuple_inj hq hq'
    · cases e
  · rcases h' with ⟨_, b, e, hq'⟩ | ⟨_, b, e, hq'⟩ | ⟨_, e, z⟩
    · cases e
    · cases e
    · cases e; exact z.symm
end
/-- the sources as they stand at each turn, the items in new pairs -/
def Izz (K : PySem.W.Frag) (k1 k2 : Bool) (v1 v2 : V) : It :=
  ⟨fun i H => ∃ (xs ys : List V) (x y : V), ZSrc K H k1 v1 xs ∧ ZSrc K H k2 v2 ys ∧ xs[i]? = some x ∧ ys[i]? = some y,
    fun i H v H' => ∃ T x y, v = .ref T ∧ H T = none ∧ H' = upd H T (.tup [x, y]) ∧ (∀ xs, ZSrc K H k1 v1 xs → xs[i]? = some x) ∧ ∀ ys, ZSrc K H k2 v2 ys → ys[i]? = some y,
    fun i H => ∃ xs ys : List V, ZSrc K H k1 v1 xs ∧ ZSrc K H k2 v2 ys ∧ i ≤ xs.length ∧ i ≤ ys.length ∧ (i = xs.length ∨ i = ys.length)⟩
/-- the cells lie apart -/
structure ZAp (z TI TO i1 i2 : Addr) (u1 u2 : Value) : Prop where
  TIz : TI ≠ z
  TOz : TO ≠ z
  TITO : TI ≠ TO
  TIi1 : TI ≠ i1
  TIi2 : TI ≠ i2
  zi1 : z ≠ i1
  zi2 : z ≠ i2
  Ti1 : TO ≠ i1
  Ti2 : TO ≠ i2
  i12 : i1 ≠ i2
  a1 : ∀ a, u1 = .ref a → a ≠ z ∧ a ≠ TO ∧ a ≠ i1 ∧ a ≠ i2
  a2 : ∀ a, u2 = .ref a → a ≠ z ∧ a ≠ TO ∧ a ≠ i1 ∧ a ≠ i2
theorem zap_of {u1 u2 : Value} (n : Nat) (l1 : ∀ a : Nat, u1 = .ref a → a < n) (l2 : ∀ a : Nat, u2 = .ref a → a < n) : ZAp (n + 4) (n + 2) (n + 3) n (n + 1) u1 u2 where
  TIz := (by omega : (n + 2 : Nat) ≠ n + 4)
  TOz := (by omega : (n + 3 : Nat) ≠ n + 4)
  TITO := (by omega : (n + 2 : Nat) ≠ n + 3)
  TIi1 := (by omega : (n + 2 : Nat) ≠ n)
  TIi2 := (by omega : (n + 2 : Nat) ≠ n + 1)
  zi1 := (by omega : (n + 4 : Nat) ≠ n)
  zi2 := (by omega : (n + 4 : Nat) ≠ n + 1)
  Ti1 := (by omega : (n + 3 : Nat) ≠ n)
  Ti2 := (by omega : (n + 3 : Nat) ≠ n + 1)
  i12 := (by omega : (n : Nat) ≠ n + 1)
  a1 := fun (a : Nat) e => by have := l1 a e; exact (by omega : (a : Nat) ≠ n + 4 ∧ a ≠ n + 3 ∧ a ≠ n ∧ a ≠ n + 1)
  a2 := fun (a : Nat) e => by have := l2 a e; exact (by omega : (a : Nat) ≠ n + 4 ∧ a ≠ n + 3 ∧ a ≠ n ∧ a ≠ n + 1)
theorem ZAp.sep {z TI TO i1 i2 : Addr} {u1 u2 : Value} {fp1 fp2 : List Addr} (D : ZAp z TI TO i1 i2 u1 u2) (h1 : fp1 = [i1] ∨ ∃ a, u1 = .ref a ∧ fp1 = [i1, a]) (h2 : fp2 = [i2] ∨ ∃ a, u2 = .ref a ∧ fp2 = [i2, a]) : ZipSep2 z TI TO i1 i2 fp1 fp2 where
  TIz := D.TIz
  TOz := D.TOz
  TITO := D.TITO
  TIi1 := D.TIi1
  TIi2 := D.TIi2
  mem1 := by rcases h1 with rfl | ⟨a, _, rfl⟩ <;> simp
  mem2 := by rcases h2 with rfl | ⟨a, _, rfl⟩ <;> simp
  zf1 := by rcases h1 with rfl | ⟨a, e, rfl⟩; simpa using D.zi1; simpa using ⟨D.zi1, (D.a1 a e).1.symm⟩
  zf2 := by rcases h2 with rfl | ⟨a, e, rfl⟩; simpa using D.zi2; simpa using ⟨D.zi2, (D.a2 a e).1.symm⟩
  Tf1 := by rcases h1 with rfl | ⟨a, e, rfl⟩; simpa using D.Ti1; simpa using ⟨D.Ti1, (D.a1 a e).2.1.symm⟩
  Tf2 := by rcases h2 with rfl | ⟨a, e, rfl⟩; simpa using D.Ti2; simpa using ⟨D.Ti2, (D.a2 a e).2.1.symm⟩
  sep1_2 := by rcases h2 with rfl | ⟨a, e, rfl⟩; simpa using D.i12; simpa using ⟨D.i12, (D.a2 a e).2.2.1.symm⟩
  sep2_1 := by rcases h1 with rfl | ⟨a, e, rfl⟩; simpa using D.i12.symm; simpa using ⟨D.i12.symm, (D.a1 a e).2.2.2.symm⟩
theorem turn_zz {P : Program} {w : World} {K : PySem.W.Frag} {elts : List Expr} {kk : Nat} {tpos : Pos} {k1 k2 : Bool} {v1 v2 : V} {u1 u2 : Value} {z TI TO i1 i2 : Addr} (D : ZAp z TI TO i1 i2 u1 u2) (ru1 : RelV v1 u1) (ru2 : RelV v2 u2) :
    Turn P w K (.Tuple elts kk tpos) (Izz K k1 k2 v1 v2) [z, TI, TO, i1, i2] z (fun i h => IsZip h z TI TO .none ∧ IsPair h TI (.ref i1) (.ref i2) ∧ (∃ x y, IsPair h TO x y) ∧ ItAt k1 h i1 u1 i ∧ ItAt k2 h i2 u2 i) where
  mem := by simp
  obj := fun i h st c hc => by
    obtain ⟨hz, hTI, ⟨x, y, hTO⟩, h1, h2⟩ := st
    have e' : c = z ∨ c = TI ∨ c = TO ∨ c = i1 ∨ c = i2 := by simpa using hc
    rcases e' with q | q | q | q | q
    · rw [q]; exact ⟨_, hz, fun v q => nomatch q⟩
    · rw [q]; exact ⟨_, hTI, fun v q => nomatch q⟩
    · rw [q]; exact ⟨_, hTO, fun v q => nomatch q⟩
    · rw [q]; exact h1.there
    · rw [q]; exact h2.there
  keep := fun i h h' st k => by
    obtain ⟨hz, hTI, ⟨x, y, hTO⟩, h1, h2⟩ := st
    exact ⟨k z (by simp) _ hz, k TI (by simp) _ hTI, ⟨x, y, k TO (by simp) _ hTO⟩, h1.at fun o q => k i1 (by simp) o q, h2.at fun o q => k i2 (by simp) o q⟩
  item := by
    intro X hP hw hK hc i pins s σ H E I hf st hg
    subst hP hw hK
    obtain ⟨hz, hTI, ⟨x0, y0, hTO⟩, h1, h2⟩ := st
    obtain ⟨xs, ys, x, y, hqx, hqy, hx, hy⟩ := hg
    have hh : X.A.in1.handled = none := I.ok.hd hc
    obtain ⟨fp1, P1, St1, D1, s1, b1, f1, g1⟩ := zdraw hh I ru1 hqx (fun a e => (D.a1 a e).2.2.1) h1
    obtain ⟨fp2, P2, St2, D2, s2, b2, f2, g2⟩ := zdraw hh I ru2 hqy (fun a e => (D.a2 a e).2.2.2) h2
    have hzl : z < s.heap.objs.size := Heap.lt_size hz
    refine wpAny_pyNext_zipD2_item (D.sep f1 f2) D1 D2 hz hTI hTO s1 s2 (List.getElem?_eq_some_iff.mp hx).1 (List.getElem?_eq_some_iff.mp hy).1 fun u u2 h' tk p1 p2 z' TO' h1' h2' hT hsz hk => ?_
    obtain ⟨x', hx', rux⟩ := g1 _ _ p1
    obtain ⟨y', hy', ruy⟩ := g2 _ _ p2
    rw [hx] at hx'; cases hx'
    rw [hy] at hy'; cases hy'
    refine ⟨_, rfl, wpAny_letOwnedTupleGo_zip (s := { s with heap := h', toks := tk }) z' fun h'' z'' sb => ?_⟩
    have hT2 : h''.get? s.heap.objs.size = some { cls := .type "tuple", data := .seq #[u, u2] } := (sb.2 _ (Nat.ne_of_gt hzl)).trans hT
    have new : ObjOk X.prog X.w (upd H s.heap.objs.size (.tup [x, y])) h'' s.heap.objs.size (.tup [x, y]) :=
      ⟨by show 2 ≤ sizeLine; decide, [u, u2], .cons rux (.cons ruy .nil), ⟨_, hT2, rfl, _, rfl⟩⟩
    have I1 : Inv X pins σ (upd H s.heap.objs.size (.tup [x, y])) { s with heap := h'', toks := tk } :=
      I.turnedNew (t' := tk) (ch := [z, TI, TO, i1, i2]) (fun c o hb q => (sb.2 c (fun q' => hb (by simp [q']))).trans (hk c o (fun q' => hb (by simp [q'])) (fun q' => hb (by simp [q'])) (fun q' => hb (by simp [q'])) (fun q' => hb (by simp [q'])) q)) hf (Nat.le_refl _) new
    refine ⟨.ref s.heap.objs.size, _, I1, rfl, ⟨_, x, y, rfl, I.hok.fresh (Nat.le_refl _), rfl, fun l hl => by rw [zinj I hl hqx]; exact hx, fun l hl => by rw [zinj I hl hqy]; exact hy⟩, ⟨z'', ?_, ⟨u, u2, ?_⟩, ?_, ?_⟩, fun c hcm => ?_⟩
    · exact (sb.2 _ D.TIz).trans (hk _ _ D.TIz D.TITO D.TIi1 D.TIi2 hTI)
    · exact (sb.2 _ D.TOz).trans TO'
    · exact (b1 _ _ h1').at fun o q => (sb.2 _ D.zi1.symm).trans q
    · exact (b2 _ _ h2').at fun o q => (sb.2 _ D.zi2.symm).trans q
    · have hlt : c < s.heap.objs.size := by
        have e' : c = z ∨ c = TI ∨ c = TO ∨ c = i1 ∨ c = i2 := by simpa using hcm
        rcases e' with q | q | q | q | q
        · rw [q]; exact hzl
        · rw [q]; exact Heap.lt_size hTI
        · rw [q]; exact Heap.lt_size hTO
        · rw [q]; obtain ⟨_, e1, _⟩ := h1.there; exact Heap.lt_size e1
        · rw [q]; obtain ⟨_, e2, _⟩ := h2.there; exact Heap.lt_size e2
      rw [upd_ne (Nat.ne_of_lt hlt)]
      exact (hf c hcm).1
  done := by
    intro X hP hw hK hc i pins s σ H E I hf st hg
    subst hP hw hK
    obtain ⟨hz, hTI, ⟨x0, y0, hTO⟩, h1, h2⟩ := st
    obtain ⟨xs, ys, hqx, hqy, l1, l2, hend⟩ := hg
    have hh : X.A.in1.handled = none := I.ok.hd hc
    obtain ⟨fp1, P1, St1, D1, s1, b1, f1, g1⟩ := zdraw hh I ru1 hqx (fun a e => (D.a1 a e).2.2.1) h1
    obtain ⟨fp2, P2, St2, D2, s2, b2, f2, g2⟩ := zdraw hh I ru2 hqy (fun a e => (D.a2 a e).2.2.2) h2
    exact wpAny_pyNext_zipD2_end (D.sep f1 f2) D1 D2 hz hTI hTO s1 s2 l1 l2 hend fun h' tk hk => ⟨rfl, I.turnedL (t' := tk) (ch := [z, TI, TO, i1, i2]) (fun c o hb q =>
      hk c o (fun q' => hb (by simp [q'])) (fun q' => hb (by simp [q'])) (fun q' => hb (by simp [q'])) (fun q' => hb (by simp [q'])) q) hf⟩
  self := fun A i s Q E st h => wpAny_pyIter_zip st.1 h
def iZz (K : PySem.W.Frag) (ta : TA) : TI := fun σ H R => ta σ H fun vs H1 => ∃ k1 k2 v1 v2 xs ys, vs = [v1, v2] ∧ ZSrc K H1 k1 v1 xs ∧ ZSrc K H1 k2 v2 ys ∧ R (Izz K k1 k2 v1 v2) H1
theorem pi_zz {X : Cx} {e e2 : Expr} {ta : TA} {p pos tpos : Pos} {elts : List Expr} {kk : Nat} (hg : Gl X "zip") (hm : X.mg "zip" = none) (ha : PA X [e, e2] ta)
    (hs : starEach [e, e2] X.env = (false, eval e X.env) :: starEach [e2] X.env) (hpl : (backTo pos (starEach [e2] X.env)).any (·.1) = false) :
    PI X (.Tuple elts kk tpos) (.Call (.Name "zip" p) [e, e2] [] pos) (iZz X.K ta) := by
  refine ⟨fun pins s σ H R I h => ?_⟩
  refine Call_ (ld_blt I hg hm PyProof.Rows.boot_zip (PyProof.Rows.callWith_type1 (thn (ha.run pos pins s σ H _ I h) fun us s1 ⟨vs, H1, I1, r1, q1⟩ => ?_) hs hpl))
  obtain ⟨k1, k2, v1, v2, xs, ys, ex, hqx, hqy, q⟩ := q1
  subst ex
  cases r1 with
  | @cons _ u1 _ _ r rr =>
    cases rr with
    | @cons _ u2 _ _ r' rr =>
      cases rr
      obtain ⟨Q1, B1, y1, l1, n1⟩ := zbeg I1 r hqx
      obtain ⟨Q2, B2, y2, l2, n2⟩ := zbeg I1 r' hqy
      refine zip_begins2 B1 B2 y1 y2 fun h' hz hTI hTO g1 g2 hsz hk => wpAny_pyIter_zip hz ?_
      have I2 : Inv X pins σ H1 { s1 with heap := h' } := I1.kept (t' := s1.toks) hk
      have D := zap_of (u1 := u1) (u2 := u2) s1.heap.objs.size l1 l2
      refine ⟨s1.heap.objs.size + 4, [s1.heap.objs.size + 4, s1.heap.objs.size + 2, s1.heap.objs.size + 3, s1.heap.objs.size, s1.heap.objs.size + 1], _, _, H1, rfl, I2, turn_zz D r r', ⟨hz, hTI, ⟨_, _, hTO⟩, n1 _ _ g1, n2 _ _ g2⟩, fun c hcm => ?_, q⟩
      have e' : c = s1.heap.objs.size + 4 ∨ c = s1.heap.objs.size + 2 ∨ c = s1.heap.objs.size + 3 ∨ c = s1.heap.objs.size ∨ c = s1.heap.objs.size + 1 := by simpa using hcm
      have hle : s1.heap.objs.size ≤ c := by
        rcases e' with z | z | z | z | z
        · rw [z]; exact Nat.le_add_right _ _
        · rw [z]; exact Nat.le_add_right _ _
        · rw [z]; exact Nat.le_add_right _ _
        · rw [z]; exact Nat.le_refl _
        · rw [z]; exact Nat.le_add_right _ _
      exact I1.fpOk hle (I1.hok.fresh hle)
/-! ### the data -/
def zipW (w u : W) : M (Gs × List D) := fun S => match itemsW w S, itemsW u S with
  | .ok a _, .ok b _ => .ok (a.1 ++ b.1, List.zipWith (fun x y => D.tup [x, y]) a.2 b.2) S
  | _, _ => .stuck
def zipS (fs : AS) : IS := fun env => (fs env).bind fun ws => match ws with
  | [w, u] => zipW w u
  | _ => fun _ => .stuck
theorem itemsW_S {w : W} {S S' : Store} {a : Gs × List D} (h : itemsW w S = .ok a S') : S' = S := by
  unfold itemsW at h
  split at h
  · cases h; rfl
  · cases h; rfl
  · cases h; rfl
  · split at h
    · cases h; rfl
    · cases h
  · cases h
theorem src_of {G : RC} {ω1 : Wd} {w : W} {v : V} {gs : Gs} {ds : List D} {S' : Store} (r : RepW G ω1 w v) (h : itemsW w ω1.S = .ok (gs, ds) S') :
    ∃ k, ∀ (ω : Wd) (H : Hp), Sub ω1.F ω.F → ω1.mu <+: ω.mu → ω.Ok G H → gOk gs ω.S → ∃ its, ZSrc G.K H k v its ∧ Reps G ω.F ds its := by
  unfold itemsW at h
  split at h
  · cases h
    have r : Rep G ω1.F (.lst ds) v := r
    unfold Rep at r
    obtain ⟨a, ws, rfl, h1, h2⟩ := r
    exact ⟨true, fun ω H sb pr ok g => ⟨ws, .inl ⟨rfl, a, rfl, .of (ok.sub _ _ (sb _ _ h1))⟩, h2.mono sb⟩⟩
  · cases h
    have r : Rep G ω1.F (.tup ds) v := r
    unfold Rep at r
    obtain ⟨a, ws, rfl, h1, h2⟩ := r
    exact ⟨false, fun ω H sb pr ok g => ⟨ws, .inr (.inl ⟨rfl, a, rfl, ok.sub.sqT (sb.sqT h1)⟩), h2.mono sb⟩⟩
  · rename_i s
    cases h
    have r : Rep G ω1.F (.str s) v := r
    unfold Rep at r
    obtain ⟨rfl, o⟩ := r
    refine ⟨true, fun ω H sb pr ok g => ⟨_, .inr (.inr ⟨s, rfl, rfl⟩), ?_⟩⟩
    have e1 : signsD s = (s.cps.toList.map fun c => (⟨#[c]⟩ : Str)).map D.str := by unfold signsD; rw [List.map_map]; rfl
    have e2 : (s.cps.toList.map fun c => V.str ⟨#[c]⟩) = (s.cps.toList.map fun c => (⟨#[c]⟩ : Str)).map V.str := by rw [List.map_map]; rfl
    rw [e1, e2]
    refine Reps.of_strs _ fun n hn => ?_
    obtain ⟨c, hc, rfl⟩ := List.mem_map.mp hn
    exact okS_sign o (by simpa using hc)
  · rename_i n
    split at h
    · rename_i xs hc
      cases h
      obtain ⟨a, rfl, hm⟩ := r
      refine ⟨true, fun ω H sb pr ok g => ?_⟩
      have hs := g (n, ds) (by simp)
      obtain ⟨_, ws, h1, rr⟩ := ok.cell n _ a hs rfl (pre_get pr hm)
      exact ⟨ws, .inl ⟨rfl, a, rfl, .of h1⟩, rr⟩
    · cases h
  · cases h
theorem gOk_app {g1 g2 : Gs} {S : Store} (h : gOk (g1 ++ g2) S) : gOk g1 S ∧ gOk g2 S := ⟨fun p hp => h p (List.mem_append_left _ hp), fun p hp => h p (List.mem_append_right _ hp)⟩
theorem rep_pair {G : RC} {F : Hp} {T : Addr} {x y : D} {v u : V} (h : F T = some (.tup [v, u])) (r1 : Rep G F x v) (r2 : Rep G F y u) : Rep G F (.tup [x, y]) (.ref T) := by
  unfold Rep
  exact ⟨T, _, rfl, .inl (.inl h), Reps.cons r1 (Reps.cons r2 Reps.nil)⟩
theorem walk_zz {G : RC} {ω1 : Wd} {w u : W} {v1 v2 : V} {g1 g2 : Gs} {xs ys : List D} {S1 S2 : Store} (r1 : RepW G ω1 w v1) (r2 : RepW G ω1 u v2) (h1 : itemsW w ω1.S = .ok (g1, xs) S1) (h2 : itemsW u ω1.S = .ok (g2, ys) S2) :
    ∃ k1 k2, (∀ H, ω1.Ok G H → gOk (g1 ++ g2) ω1.S → ∃ a b, ZSrc G.K H k1 v1 a ∧ ZSrc G.K H k2 v2 b) ∧ Walk G (Izz G.K k1 k2 v1 v2) (g1 ++ g2) (List.zipWith (fun x y => D.tup [x, y]) xs ys) ω1 := by
  obtain ⟨k1, q1⟩ := src_of r1 h1
  obtain ⟨k2, q2⟩ := src_of r2 h2
  refine ⟨k1, k2, fun H ok g => ?_, fun ω H i sb pr ok g => ?_⟩
  · obtain ⟨z1, z2⟩ := gOk_app g
    obtain ⟨a, ha, _⟩ := q1 ω1 H (Sub.refl _) (List.prefix_refl _) ok z1
    obtain ⟨b, hb, _⟩ := q2 ω1 H (Sub.refl _) (List.prefix_refl _) ok z2
    exact ⟨a, b, ha, hb⟩
  obtain ⟨z1, z2⟩ := gOk_app g
  obtain ⟨a, ha, ra⟩ := q1 ω H sb pr ok z1
  obtain ⟨b, hb, rb⟩ := q2 ω H sb pr ok z2
  have la := ra.length
  have lb := rb.length
  refine ⟨fun d hd => ?_, fun hi => ⟨a, b, ha, hb, ?_⟩⟩
  · rw [List.getElem?_zipWith] at hd
    cases hx : xs[i]? with
    | none => rw [hx] at hd; cases hd
    | some x =>
      cases hy : ys[i]? with
      | none => rw [hx, hy] at hd; cases hd
      | some y =>
        rw [hx, hy] at hd
        cases hd
        obtain ⟨x', hx', rx⟩ := ra.get hx
        obtain ⟨y', hy', ry⟩ := rb.get hy
        refine ⟨⟨a, b, x', y', ha, hb, hx', hy'⟩, fun z H' ⟨T, x2, y2, e1, e2, e3, e4, e5⟩ => ?_⟩
        have := e4 a ha
        rw [hx'] at this; cases this
        have := e5 b hb
        rw [hy'] at this; cases this
        subst e1; subst e3
        obtain ⟨f1, f2, f3, f4⟩ := froz_ok (o := .tup [x', y']) ok e2
        exact ⟨freezeAt ω T (.tup [x', y']), rfl, f2, f1, rep_pair upd_same (Rep.mono f3 _ _ rx) (Rep.mono f3 _ _ ry)⟩
  · rw [List.length_zipWith] at hi
    omega
section
variable {X : Cx} {ca : CA} {Wx : WX} {fa fb : ES} {fs : AS}
theorem zip_pre {σ : L2.St} {H : Hp} {R : It → Hp → Prop} (h : tI (GX X ca) Wx (zipS (consS fa (consS fb nilS))) σ H R) : iZz X.K (tA (GX X ca) Wx (consS fa (consS fb nilS))) σ H R := by
  obtain ⟨ω, env, ok, er, p⟩ := h
  refine ⟨ω, env, ok, er, ?_⟩
  unfold zipS M.bind at p
  cases e1 : (consS fa (consS fb nilS)) env ω.S with
  | err x S' => rw [e1] at p; exact p
  | stuck => rw [e1] at p; exact p
  | ok ws S' =>
    rw [e1] at p
    intro ω1 H1 vs hs1 le1 ok1 r1
    subst hs1
    simp only at p
    split at p
    · rename_i w u
      unfold zipW at p
      split at p
      · rename_i a S1 b S2 e2 e3
        obtain ⟨v1, vs1, rfl, r1, v2, vs2, rfl, r2, rfl⟩ := r1
        obtain ⟨g1, xs⟩ := a
        obtain ⟨g2, ys⟩ := b
        obtain ⟨k1, k2, q, wk⟩ := walk_zz r1 r2 e2 e3
        have g0 : gOk (g1 ++ g2) ω1.S := by
          intro p hp
          have one : ∀ {w : W} {g : Gs} {ds : List D} {S3 : Store}, itemsW w ω1.S = .ok (g, ds) S3 → p ∈ g → ω1.S[p.1]? = some (.lst p.2) := fun {w g ds S3} e hp => by
            unfold itemsW at e
            split at e
            · cases e; cases hp
            · cases e; cases hp
            · cases e; cases hp
            · split at e
              · rename_i hc
                cases e
                rw [List.mem_singleton] at hp
                subst hp
                exact hc
              · cases e
            · cases e
          rcases List.mem_append.mp hp with hp | hp
          · exact one e2 hp
          · exact one e3 hp
        obtain ⟨a, b, ha, hb⟩ := q H1 ok1 g0
        exact ⟨k1, k2, v1, v2, a, b, rfl, ha, hb, p ω1 H1 _ rfl le1 ok1 wk⟩
      · exact p.elim
    · exact p.elim
end
def isTupE : Expr → Bool
  | .Tuple .. => true
  | _ => false
/-- zip(a, b) walked -/
def zipR : RuI where
  sem := fun a b => zipS (consS a.e (consS b.e nilS))
  chk := fun _ sc ka kb tg ex => match ex with
    | .Call (.Name x _) [e, e2] [] _ => sq "zip" x && kd sc x .globalImplicit && ka.e e && notStar e && kb.e e2 && notStar e2 && isTupE tg
    | _ => false
theorem star2 {e e2 : Expr} {env : PySem.Env} {pos : Pos} (h1 : notStar e = true) (h2 : notStar e2 = true) : starEach [e, e2] env = (false, eval e env) :: starEach [e2] env ∧ starEach [e2] env = (false, eval e2 env) :: starEach [] env ∧ (backTo pos (starEach [e2] env)).any (·.1) = false := by
  refine ⟨star_of h1, star_of h2, ?_⟩
  rw [star_of h2]
  rfl
theorem ri_zip {P : Program} {w : World} {K : PySem.W.Frag} {mg : Str → Option Value} {base : Heap} {ca : CA} {k : Nat} : RiK P w K mg base ca k zipR := by
  intro X N m Wx b g a c sa sc tg ex hx
  simp only [zipR] at hx
  split at hx
  · simp only [Bool.and_eq_true] at hx
    obtain ⟨⟨⟨⟨⟨⟨h1, h2⟩, h3⟩, h4⟩, h5⟩, h6⟩, h7⟩ := hx
    cases sq_eq h1
    obtain ⟨s1, s2, s3⟩ := star2 (env := X.env) (pos := ‹_›) h4 h6
    cases tg with
    | Tuple es j p => exact piImp (pi_zz (kd_eq h2) (g.blt _ (by simp [bNames])) (pa_consS (sa.e _ h3) (pa_consS (sc.e _ h5) pa_nilS s2) s1) s1 s3) fun σ H R h => zip_pre h
    | _ => cases h7
  · cases hx
/-! ### reckoning -/
section
variable {S : Store} {env : Env} {E : WE} {fa fb : ES} {fs : AS} {PI : WI}
@[simp] theorem sem_zipR {a b : Sx} : zipR.sem a b = zipS (consS a.e (consS b.e nilS)) := (rfl)
def Kzip (PI : WI) (E : WE) : WP (List W) := fun ws S => T ((match ws with | [w, u] => zipW w u | _ => fun _ => .stuck) S) PI E
@[simp] theorem T_zip : T (zipS fs env S) PI E = T (fs env S) (Kzip PI E) E := T_bind
theorem Kzip_of {w u : W} {xs ys : List D} {g1 g2 : Gs} (h1 : itemsW w S = .ok (g1, xs) S) (h2 : itemsW u S = .ok (g2, ys) S) (h : PI (g1 ++ g2, List.zipWith (fun x y => D.tup [x, y]) xs ys) S) : Kzip PI E [w, u] S := by
  show T (zipW w u S) PI E
  unfold zipW
  rw [h1, h2]
  exact h
@[simp] theorem Kzip_ss {x y : Str} : Kzip PI E [.d (.str x), .d (.str y)] S = PI ([], List.zipWith (fun x y => D.tup [x, y]) (signsD x) (signsD y)) S := (rfl)
@[simp] theorem Kzip_tt {x y : List D} : Kzip PI E [.d (.tup x), .d (.tup y)] S = PI ([], List.zipWith (fun x y => D.tup [x, y]) x y) S := (rfl)
@[simp] theorem Kzip_lt {x y : List D} : Kzip PI E [.d (.lst x), .d (.tup y)] S = PI ([], List.zipWith (fun x y => D.tup [x, y]) x y) S := (rfl)
end
end Dn

set_option Elab.async false
set_option linter.all false
set_option maxRecDepth 100000
set_option maxHeartbeats 4000000
/-! # Dn, part N: d[k] = v, len(d), one thing or the other, methods of built-in types -/
namespace Dn
open PySem PySem.Spec PyProof.Rows L2
/-! ### one reading or the other: the second where the first is stuck -/
def orF (f g : ES) : ES := fun env S => match f env S with
  | .stuck => g env S
  | r => r
theorem orF_eq (f g : ES) (env : Env) (S : Store) : orF f g env S = f env S ∨ orF f g env S = g env S := by
  unfold orF
  cases f env S with
  | stuck => exact .inr rfl
  | ok _ _ => exact .inl rfl
  | err _ _ => exact .inl rfl
theorem tE_or {X : Cx} {ca : CA} {Wx : WX} {f g : ES} {σ : L2.St} {H : Hp} {Q : VK} (h : tE (GX X ca) Wx (orF f g) σ H Q) : tE (GX X ca) Wx f σ H Q ∨ tE (GX X ca) Wx g σ H Q := by
  obtain ⟨ω, env, ok, er, p⟩ := h
  rcases orF_eq f g env ω.S with e | e
  · exact .inl ⟨ω, env, ok, er, by rw [← e]; exact p⟩
  · exact .inr ⟨ω, env, ok, er, by rw [← e]; exact p⟩
theorem pe_orF {X : Cx} {ca : CA} {Wx : WX} {f g : ES} {ex : Expr} (a : PE X ex (tE (GX X ca) Wx f)) (b : PE X ex (tE (GX X ca) Wx g)) : PE X ex (tE (GX X ca) Wx (orF f g)) :=
  ⟨fun pins s σ H Q I h => (tE_or h).elim (a.run pins s σ H Q I) (b.run pins s σ H Q I)⟩
theorem tstS_or (f g : ES) (env : Env) (S : Store) : tstS (orF f g) env S = tstS f env S ∨ tstS (orF f g) env S = tstS g env S := by
  rcases orF_eq f g env S with e | e
  · exact .inl (by unfold tstS M.bind; rw [e])
  · exact .inr (by unfold tstS M.bind; rw [e])
theorem pt_orF {X : Cx} {ca : CA} {Wx : WX} {f g : ES} {ex : Expr} (a : PT X ex (tB (GX X ca) Wx (tstS f))) (b : PT X ex (tB (GX X ca) Wx (tstS g))) : PT X ex (tB (GX X ca) Wx (tstS (orF f g))) :=
  ⟨fun pins s σ H Q I ⟨ω, env, ok, er, p⟩ => (tstS_or f g env ω.S).elim (fun e => a.run pins s σ H Q I ⟨ω, env, ok, er, by rw [← e]; exact p⟩) fun e => b.run pins s σ H Q I ⟨ω, env, ok, er, by rw [← e]; exact p⟩⟩
/-- two rules for one expression -/
def orR (r r' : Ru) : Ru where
  sem := fun a b => orF (r.sem a b) (r'.sem a b)
  chk := fun N sc ka kb ex => r.chk N sc ka kb ex && r'.chk N sc ka kb ex
theorem ru_or {P : Program} {w : World} {K : PySem.W.Frag} {mg : Str → Option Value} {base : Heap} {ca : CA} {k : Nat} {r r' : Ru} (h : RuK P w K mg base ca k r) (h' : RuK P w K mg base ca k r') : RuK P w K mg base ca k (orR r r') := by
  intro X N m Wx b g a c sa sc ex hx
  simp only [orR, Bool.and_eq_true] at hx
  obtain ⟨z1, z2, z3⟩ := h X N m Wx b g a c sa sc ex hx.1
  obtain ⟨y1, y2, y3⟩ := h' X N m Wx b g a c sa sc ex hx.2
  exact ⟨pe_orF z1 y1, pt_orF z2 y2, z3⟩
/-! ### d[k] = v -/
def putD (d : D) (j : Key) : List Key → List D → List Key × List D
  | k :: ks, v :: vs => if k = j then (k :: ks, d :: vs) else (k :: (putD d j ks vs).1, v :: (putD d j ks vs).2)
  | _, _ => ([j], [d])
def updD (d : D) (j : Key) (ks : List Key) (vs : List D) : List Key × List D := putD d j ks vs
theorem putK_cons_ne {k : Key} {w : V} {l : List (Key × V)} {j : Key} {u : V} (h : k ≠ j) : putK ((k, w) :: l) j u = (k, w) :: putK l j u := by
  unfold putK
  simp only [List.any_cons, h, decide_false, Bool.false_or, List.map_cons, if_false]
  split <;> simp
theorem map_put_none {j : Key} {u : V} : ∀ {l : List (Key × V)}, (∀ p ∈ l, p.1 ≠ j) → l.map (fun kv => if kv.1 = j then (kv.1, u) else kv) = l
  | [], _ => rfl
  | p :: l, h => by
    rw [List.map_cons, if_neg (h p (by simp)), map_put_none fun q hq => h q (by simp [hq])]
theorem putD_zip {G : RC} {F : Hp} {d : D} {u : V} {j : Key} (ru : Rep G F d u) : ∀ {ks : List Key} {vs : List D} {ws : List V}, ks.Nodup → Reps G F vs ws → ks.length = vs.length →
    ∃ ws', putK (ks.zip ws) j u = (putD d j ks vs).1.zip ws' ∧ Reps G F (putD d j ks vs).2 ws' ∧ (putD d j ks vs).1.length = (putD d j ks vs).2.length
  | [], [], _, _, h, _ => by
    simp only [Reps] at h
    subst h
    exact ⟨[u], rfl, Reps.cons ru Reps.nil, rfl⟩
  | k :: ks, v :: vs, _, nd, h, hl => by
    obtain ⟨w, ws, rfl, h1, h2⟩ := h.inv_cons
    rw [List.zip_cons_cons]
    unfold putD
    by_cases hk : k = j
    · subst hk
      rw [if_pos rfl]
      refine ⟨u :: ws, ?_, Reps.cons ru h2, hl⟩
      unfold putK
      simp only [List.any_cons, decide_true, Bool.true_or, if_true, List.map_cons, List.zip_cons_cons]
      rw [map_put_none]
      intro p hp
      have := (List.of_mem_zip hp).1
      rintro rfl
      exact (List.nodup_cons.mp nd).1 this
    · rw [if_neg hk]
      obtain ⟨ws', e1, e2, e3⟩ := putD_zip (j := j) ru (List.nodup_cons.mp nd).2 h2 (by simpa using hl)
      refine ⟨w :: ws', ?_, Reps.cons h1 e2, by simp [e3]⟩
      rw [putK_cons_ne hk, e1]; rfl
  | [], _ :: _, _, _, _, hl => by simp at hl
  | _ :: _, [], _, _, _, hl => by simp at hl
def dputP : Prim
  | [.loc n, .d y, .d v], S => match S[n]? with
    | some (.dic ks vs) => if ks.Nodup ∧ ks.length < sizeLine then (keyD y).map fun k => (.d .non, S.set n (.dic (putD v k ks vs).1 (putD v k ks vs).2)) else none
    | _ => none
  | _, _ => none
def dputS (fo fi fe : ES) : SS := fun env S => exS env (((fe env).bind fun v => (fo env).bind fun o => (fi env).bind fun i => liftP dputP [o.toW, i.toW, v.toW]) S) fun _ S' => .nx env S'
section
variable {X : Cx} {ca : CA} {Wx : WX} {o i value : Expr} {pos pos' : Pos} {fo fi fe : ES}
theorem dput_end {ω : Wd} {H : Hp} {ws : List W} {x y v : V} {Q : VK} {E : XK} (ok : ω.Ok (GX X ca) H) (r : RepWs (GX X ca) ω ws [x, y, v]) (h : PostE (GX X ca) ω H Q E (liftP dputP ws ω.S)) : ∃ a H', x = .ref a ∧ DPut H a y v H' ∧ Q .non H' := by
  unfold liftP at h
  split at h
  · rename_i a S' e
    unfold dputP at e
    split at e
    · rename_i n yd vd
      split at e
      · rename_i ks vs hs
        split at e
        · rename_i hc
          obtain ⟨k, hk, e2⟩ := Option.map_eq_some_iff.mp e
          simp only [Prod.mk.injEq] at e2
          obtain ⟨rfl, rfl⟩ := e2
          obtain ⟨u0, us0, e0, ⟨a1, rfl, hm⟩, u1, us1, rfl, r1, u2, us2, rfl, r2, r3⟩ := r
          cases r3
          simp only [List.cons.injEq, and_true] at e0
          obtain ⟨rfl, rfl, rfl⟩ := e0
          obtain ⟨fa, ws0, h1, h0, h2⟩ := ok.cell n _ a1 hs rfl hm
          obtain ⟨ws', p1, p2, p3⟩ := putD_zip (j := k) r2 hc.1 h2 h0
          have ek := keyD_v (now_of_rep ok r1) hk
          subst ek
          obtain ⟨ok', le'⟩ := upd_cell (c' := .dic (putD vd k ks vs).1 (putD vd k ks vs).2) ok hs rfl hm (o := .dK (putK (ks.zip ws0) k v)) ⟨ws', by rw [upd_same, p1], p3, p2⟩
          refine ⟨a1, _, rfl, DPut.k h1 ?_, h _ _ .non rfl le' ok' (rep_non (G := GX X ca) (F := ω.F))⟩
          rw [List.length_zip]
          exact Nat.lt_of_le_of_lt (Nat.min_le_left _ _) hc.2
        · cases e
      · cases e
    · cases e
  · exact h.elim
theorem ps_dputS (hu : X.A.units + 1 < cLine) (ho : PE X o (tE (GX X ca) Wx fo)) (hi : PE X i (tE (GX X ca) Wx fi)) (hv : PE X value (tE (GX X ca) Wx fe)) (hs : swapsWith value (some (.Subscript o i pos')) pos.line X.env = pure false) :
    PS X (.Assign [.Subscript o i pos'] value pos) (tS (GX X ca) Wx (dputS fo fi fe)) := by
  refine psImp (ps_dput hu ho hi hv hs) fun D σ H h => ?_
  obtain ⟨ω, env, ok, er, p⟩ := h
  have key : Post (GX X ca) (fun ω' H' (_ : RW) (_ : Unit) => EnvR (GX X ca) ω' env σ) ω H (fun _ H' => D.nx σ H') (fun c d H' => Wx c d σ H') (((fe env).bind fun v => (fo env).bind fun o => (fi env).bind fun i => liftP dputP [o.toW, i.toW, v.toW]) ω.S) := by
    unfold dputS exS at p
    cases e : ((fe env).bind fun v => (fo env).bind fun o => (fi env).bind fun i => liftP dputP [o.toW, i.toW, v.toW]) ω.S with
    | ok w S' => rw [e] at p; exact fun ω' H' _ e1 le ok' r => p ω' H' σ e1 le ok' r
    | err x S' => rw [e] at p; exact fun ω' H' cls d e1 le ok' rx => p ω' H' σ cls d e1 le ok' (er.mono le) rx
    | stuck => rw [e] at p; exact p
  refine tE_mono (bindW ok er key) fun v H1 ⟨ω1, w1, le1, ok1, r1, er1, p1⟩ => ?_
  refine tE_mono (bindW ok1 er1 (Post.step le1 (fun _ _ _ _ z => z) p1)) fun x H2 ⟨ω2, w2, le2, ok2, r2, er2, p2⟩ => ?_
  have p2 := Post.step (R' := fun ω' H' (_ : RW) (_ : Unit) => EnvR (GX X ca) ω' env σ) le2 (fun _ _ _ _ z => z) p2
  refine tE_mono (bindW ok2 er2 p2) fun y H3 ⟨ω3, w3, le3, ok3, r3, er3, p3⟩ => ?_
  have p3 := Post.step (R' := fun ω' H' (_ : RW) (_ : Unit) => EnvR (GX X ca) ω' env σ) le3 (fun _ _ _ _ z => z) p3
  have hp : PostE (GX X ca) ω3 H3 (fun _ H' => D.nx σ H') (fun c d H' => Wx c d σ H') (liftP dputP [w2.toW, w3.toW, w1.toW] ω3.S) := by
    cases e : liftP dputP [w2.toW, w3.toW, w1.toW] ω3.S with
    | ok w S' => rw [e] at p3; exact fun ω' H' u e1 le ok' r => p3 ω' H' () e1 le ok' (er3.mono le)
    | err x S' => rw [e] at p3; exact p3
    | stuck => rw [e] at p3; exact p3
  obtain ⟨a, H', e1, e2, e3⟩ := dput_end (ws := [w2.toW, w3.toW, w1.toW]) (x := x) (y := y) (v := v) ok3 ⟨_, _, rfl, r2.mono le3, _, _, rfl, r3, _, _, rfl, (r1.mono le2).mono le3, rfl⟩ hp
  exact ⟨a, H', e1, e2, e3⟩
end
def dputR : RuS where
  sem := fun a b c _ _ => dputS a.e b.e c.e
  chk := fun _ _ ka kb kc _ _ st => match st with
    | .Assign [.Subscript o i _] v _ => ka.e o && kb.e i && kc.e v && notComp v && notSlice i
    | _ => false
theorem rs_dput {P : Program} {w : World} {K : PySem.W.Frag} {mg : Str → Option Value} {base : Heap} {ca : CA} {k : Nat} : RsK P w K mg base ca k dputR := by
  intro X N m Wx g a c d ff fg kf kg sa sc sd _ _ st hx
  simp only [dputR] at hx
  split at hx
  · simp only [Bool.and_eq_true] at hx
    obtain ⟨⟨⟨⟨h1, h2⟩, h3⟩, h4⟩, h5⟩ := hx
    exact ps_dputS (by have := g.un; omega) (sa.e _ h1) (sc.e _ h2) (sd.e _ h3) (sw_none h4)
  · cases hx
/-! ### len(d) -/
def dlenD : DPrim
  | [.dic _ ks _] => some (.d (.int ks.length))
  | _ => none
theorem call_dlen {X : Cx} {ca : CA} : CallD X ca (.builtin "len") dlenD := by
  have h : CallR X (.builtin "len") (fun xs H Q => ∃ a kvs, xs = [V.ref a] ∧ Rd H a (.dK kvs) ∧ Q (.int kvs.length) H) := by
    intro pins s σ H xs us Q I r h
    obtain ⟨a, kvs, rfl, ha, q⟩ := h
    obtain ⟨u, rfl, ru⟩ := vals1 r
    cases ru
    exact d_len I ha fun t s' I' => ⟨.int kvs.length, H, I', ⟨t, rfl⟩, q⟩
  refine callD_of h fun ω H ds vs a Q ok n e p => ?_
  unfold dlenD at e
  split at e
  · cases e
    obtain ⟨v, rfl, n1⟩ := nows1 n
    obtain ⟨a1, ws, rfl, h1, h2, h3⟩ := n1
    refine ⟨a1, _, rfl, h1.rd, ?_⟩
    rw [List.length_zip, h3.length, h2, Nat.min_self, ← h2]
    exact end_d ok p (rep_int _)
  · cases e
/-! ### one operation on data or the other -/
def orD (p q : DPrim) : DPrim := fun ds => match p ds with
  | some r => some r
  | none => q ds
theorem liftD_or {p q : DPrim} (ws : List W) (S : Store) : liftP (liftD (orD p q)) ws S = liftP (liftD p) ws S ∨ liftP (liftD (orD p q)) ws S = liftP (liftD q) ws S := by
  unfold liftP liftD orD
  cases viewAll S ws with
  | none => exact .inl rfl
  | some ds => cases e : p ds with
    | some r => left; simp only [e, Option.map_some]
    | none => right; simp only [e]
theorem tP_or {G : RC} {p q : DPrim} {vs : List V} {H : Hp} {Q : VK} (h : tP G (liftD (orD p q)) vs H Q) : tP G (liftD p) vs H Q ∨ tP G (liftD q) vs H Q := by
  obtain ⟨ω, ws, ok, r, z⟩ := h
  rcases liftD_or (p := p) (q := q) ws ω.S with e | e
  · exact .inl ⟨ω, ws, ok, r, by rw [← e]; exact z⟩
  · exact .inr ⟨ω, ws, ok, r, by rw [← e]; exact z⟩
theorem callD_or {X : Cx} {ca : CA} {f : Value} {p q : DPrim} (a : CallD X ca f p) (b : CallD X ca f q) : CallD X ca f (orD p q) := by
  intro pins s σ H xs us Q I r hp
  exact (tP_or hp).elim (a pins s σ H xs us Q I r) (b pins s σ H xs us Q I r)
theorem opD_or {X : Cx} {ca : CA} {f : Value → Value → PySem.Sem Value} {p q : DPrim} (a : OpD X ca f p) (b : OpD X ca f q) : OpD X ca f (orD p q) := by
  intro pins s σ H x y v u Q I rx ry hp
  exact (tP_or hp).elim (a pins s σ H x y v u Q I rx ry) (b pins s σ H x y v u Q I rx ry)
/-! ### a built-in called by its name -/
structure BltN where
  nm : Str
  ty : Bool
  id : String
  q : DPrim
def BltN.v (b : BltN) : Value := if b.ty then .type b.id else .builtin b.id
structure BltN.Ok (b : BltN) : Prop where
  mem : b.nm ∈ bNames
  boot : bootBuiltins b.nm = some b.v
  n1 : b.nm ≠ "__name__"
  n2 : (b.nm == ("__debug__" : Str)) = false
  call : ∀ (X : Cx) (ca : CA), X.calm = true → CallD X ca b.v b.q
def bltR (b : BltN) : Ru where
  sem := fun _ c => callS (liftP (liftD b.q)) c.a
  chk := fun _ sc _ kc ex => match ex with
    | .Call (.Name x _) (e :: es) [] _ => sq b.nm x && kd sc x .globalImplicit && kc.a (e :: es)
    | _ => false
theorem ru_blt {P : Program} {w : World} {K : PySem.W.Frag} {mg : Str → Option Value} {base : Heap} {ca : CA} {k : Nat} {t : BltN} (h : t.Ok) : RuK P w K mg base ca k (bltR t) := by
  intro X N m Wx b g a c sa sc ex hx
  simp only [bltR] at hx
  split at hx
  · rename_i x p e es pos
    simp only [Bool.and_eq_true] at hx
    obtain ⟨⟨h1, h2⟩, h3⟩ := hx
    cases sq_eq h1
    obtain ⟨z1, z2⟩ := args_star (env := X.env) h3
    have key : PE X (.Call (.Name t.nm p) (e :: es) [] pos) (tCB (tP ⟨X.K, ca⟩ (liftD t.q)) (tA (GX X ca) Wx c.sem.a)) := by
      have hc := h.call X ca m.calm
      have hb := h.boot
      unfold BltN.v at hc hb
      cases e : t.ty with
      | true =>
        rw [e] at hc hb
        exact pe_callTy hc (kd_eq h2) (g.blt _ h.mem) hb (sc.a _ h3) h.n1 h.n2 (star_of z1) (z2 _)
      | false =>
        rw [e] at hc hb
        exact pe_callB hc (kd_eq h2) (g.blt _ h.mem) hb (sc.a _ h3) h.n1 h.n2 (star_of z1) (z2 _)
    refine tst_of (peImp key fun σ H Q h => ?_) ⟨fun _ => rfl, fun _ _ _ z => nomatch z⟩
    obtain ⟨ω, env, ok, er, p⟩ := h
    refine tA_mono (bindA ok er p) fun vs H1 ⟨ω1, ws, le1, ok1, r1, er1, p1⟩ => ?_
    exact prim_of ok1 le1 r1 p1
  · cases hx
def lenG : BltN := ⟨"len", false, "len", orD lenD dlenD⟩
theorem lenG_ok : lenG.Ok := ⟨by decide, by decide +kernel, by decide, by decide, fun X ca _ => callD_or Dn.call_lenD call_dlen⟩
/-! ### a method of a built-in type -/
structure BMth where
  T : String
  nm : Str
  id : String
  p : Prim
structure BMth.Ok (b : BMth) : Prop where
  pa : PlainAttrs b.T
  sl : Slot b.T b.nm b.id
  ty : typeOf (.builtin b.id) = pure (.type "method_descriptor")
  mt : ∀ (X : Cx) (ca : CA), X.A.units + 65 < cLine → MtD X ca b.id b.p
def bmR (b : BMth) : Ru where
  sem := fun a c => methS b.T b.p a.e c.a
  chk := fun _ sc ka kc ex => ckMeth b.nm ka kc ex
theorem ru_bm {P : Program} {w : World} {K : PySem.W.Frag} {mg : Str → Option Value} {base : Heap} {ca : CA} {k : Nat} {t : BMth} (h : t.Ok) : RuK P w K mg base ca k (bmR t) := by
  intro X N m Wx b g a c sa sc ex hx
  simp only [bmR] at hx
  unfold ckMeth at hx
  split at hx
  · simp only [Bool.and_eq_true, decide_eq_true_eq] at hx
    obtain ⟨⟨⟨⟨⟨h1, h2⟩, h3⟩, h4⟩, h5⟩, h6⟩ := hx
    cases sq_eq h1
    obtain ⟨z1, z2⟩ := args_star (env := X.env) h4
    refine tst_of (peImp (pe_bm h.pa h.sl h.ty (h.mt X ca g.un) (sa.e _ h2) (sc.a _ h4) (base_of h3) (few_of h4 h5) h6 (star_of z1) (z2 _)) fun σ H Q h => ?_) ⟨fun _ => rfl, fun _ _ _ z => nomatch z⟩
    obtain ⟨ω, env, ok, er, p⟩ := h
    refine tE_mono (bindW ok er p) fun v H1 ⟨ω1, w, le1, ok1, r1, er1, p1⟩ => ?_
    split at p1
    · rename_i ht
      refine ⟨isTy_ty (G := GX X ca) ok1 r1 ht, ?_⟩
      refine tA_mono (bindA ok1 er1 (Post.step le1 (rw_after le1) p1)) fun vs H2 ⟨ω2, ws, le2, ok2, r2, er2, p2⟩ => ?_
      exact prim_of (ws := w.toW :: ws) ok2 le2 ⟨v, vs, rfl, r1.mono le2, r2⟩ p2
    · exact p1.elim
  · cases hx
/-! xs.pop(i) -/
def popP : Prim
  | [.loc n, .d (.int i)], S => match S[n]? with
    | some (.lst xs) => if -(2 ^ 63) ≤ i ∧ i < 2 ^ 63 then (ixN xs.length i).bind fun k => (xs[k]?).map fun y => (.d y, S.set n (.lst (xs.eraseIdx k))) else none
    | _ => none
  | _, _ => none
theorem mt_popP {X : Cx} {ca : CA} : MtD X ca "list.pop" popP := by
  intro pins s σ H x xs v us Q I rx rxs hp
  refine mt_popAt pins s σ H x xs v us Q I rx rxs ?_
  obtain ⟨ω, ws, ok, r, p⟩ := hp
  unfold liftP at p
  split at p
  · rename_i a S' e
    unfold popP at e
    split at e
    · rename_i n i
      split at e
      · rename_i zs hs
        split at e
        · rename_i hz
          obtain ⟨k, e1, e2⟩ := Option.bind_eq_some_iff.mp e
          obtain ⟨y, e3, e4⟩ := Option.map_eq_some_iff.mp e2
          simp only [Prod.mk.injEq] at e4
          obtain ⟨rfl, rfl⟩ := e4
          obtain ⟨u0, us0, e0, ⟨a1, rfl, hm⟩, u1, us1, rfl, r1, r2⟩ := r
          cases r2
          simp only [List.cons.injEq] at e0
          obtain ⟨rfl, rfl⟩ := e0
          have r1 : Rep ⟨X.K, ca⟩ ω.F (.int i) u1 := r1
          unfold Rep at r1
          subst r1
          obtain ⟨fa, vs0, h1, h2⟩ := ok.cell n _ a1 hs rfl hm
          obtain ⟨yv, hy, ry⟩ := h2.get e3
          refine ⟨a1, vs0, i, k, yv, rfl, rfl, h1, hz.1, hz.2, ?_, hy, ?_⟩
          · rw [h2.length]; exact (ixN_seq e1).1
          · obtain ⟨ok', le'⟩ := upd_cell (c' := .lst (zs.eraseIdx k)) ok hs rfl hm ⟨vs0.eraseIdx k, upd_same, h2.eraseIdx k⟩
            exact p _ _ yv rfl le' ok' ry
        · cases e
      · cases e
    · cases e
  · exact p.elim
def popM : BMth := ⟨"list", "pop", "list.pop", popP⟩
theorem popM_ok : popM.Ok := ⟨F.plainAttrs_list, F.slot_list_pop, F.type_list_pop, fun _ _ _ => mt_popP⟩
/-! xs.index(x), of any depth -/
def idxP : DPrim
  | [.lst xs, x] => if (shal 6 x && xs.all (shal 6)) = true then (idxD x xs 0).map (fun (k : Nat) => RW.d (.int (k : Int))) else none
  | _ => none
theorem toPys_get {n : Nat} : ∀ {xs : List D} {m : Nat} {z : PyData}, (toPys xs)[m]? = some z → ∃ y, xs[m]? = some y ∧ z = toPy y
  | [], m, z, h => by simp [toPys] at h
  | x :: xs, 0, z, h => by
    simp only [toPys] at h
    simp at h
    exact ⟨x, rfl, h.symm⟩
  | x :: xs, m + 1, z, h => by
    simp only [toPys] at h
    simp at h
    obtain ⟨y, h1, h2⟩ := toPys_get (n := n) h
    exact ⟨y, by simpa using h1, h2⟩
theorem toPys_getD : ∀ {xs : List D} {m : Nat} {y : D}, xs[m]? = some y → (toPys xs)[m]? = some (toPy y)
  | [], m, z, h => by simp at h
  | x :: xs, 0, z, h => by
    simp at h
    subst h
    simp [toPys]
  | x :: xs, m + 1, z, h => by
    simp only [toPys]
    simpa using toPys_getD (xs := xs) (m := m) (by simpa using h)
theorem mt_idxP {X : Cx} {ca : CA} (hu : X.A.units + 65 < cLine) : MtD X ca "list.index" (liftD idxP) := by
  refine mtD_of (mt_indexD hu) fun ω H d ds v vs a Q ok n1 n2 e p => ?_
  unfold idxP at e
  split at e
  · rename_i heq
    simp only [List.cons.injEq] at heq
    obtain ⟨rfl, rfl⟩ := heq
    split at e
    rotate_left
    · cases e
    rename_i xs x hz
    rw [Bool.and_eq_true] at hz
    obtain ⟨j, e1, e2⟩ := Option.map_eq_some_iff.mp e
    subst e2
    have hl : shal 7 (.lst xs) = true := by simpa only [shal] using hz.2
    obtain ⟨b1, b2⟩ := dp_now ok (n := 7) (by omega) hl n1
    obtain ⟨a1, ws, rfl, h1, r1⟩ := n1
    obtain ⟨u, rfl, n3⟩ := nows1 n2
    obtain ⟨c1, c2⟩ := dp_now ok (n := 6) (by omega) hz.1 n3
    simp only [toPy] at b1 b2
    obtain ⟨_, ⟨y, h2, h3⟩, h4⟩ := idxD_spec e1
    rw [Nat.sub_zero] at h2 h4
    have sy : shal 6 y = true := List.all_eq_true.mp hz.2 y (List.mem_of_getElem? h2)
    refine ⟨a1, u, _, _, j, toPy y, rfl, rfl, b1, c1, b2, c2, toPys_getD h2, by rw [deq_eqv 6 y x sy hz.1]; exact h3, fun m z' hm hz' => ?_, end_d ok p (rep_int _)⟩
    obtain ⟨y', hy', rfl⟩ := toPys_get (n := 6) hz'
    have sy' : shal 6 y' = true := List.all_eq_true.mp hz.2 y' (List.mem_of_getElem? hy')
    rw [deq_eqv 6 y' x sy' hz.1]
    exact h4 m hm y' hy'
  · cases e
def idxM : BMth := ⟨"list", "index", "list.index", liftD idxP⟩
theorem idxM_ok : idxM.Ok := ⟨F.plainAttrs_list, F.slot_list_index, F.type_list_index, fun _ _ h => mt_idxP h⟩
/-! s.split(sep), s.partition(sep) -/
def splitD : DPrim
  | [.str a, .str b] => if (b.length == 0) = false ∧ a.length + 2 ≤ sizeLine ∧ (Txt.split a b).all okB = true then some (.own (.lst ((Txt.split a b).map .str))) else none
  | _ => none
theorem mt_splitD {X : Cx} {ca : CA} : MtD X ca "str.split" (liftD splitD) := by
  refine mtD_of mt_split fun ω H d ds v vs a Q ok n1 n2 e p => ?_
  unfold splitD at e
  split at e
  · rename_i heq
    simp only [List.cons.injEq] at heq
    obtain ⟨rfl, rfl⟩ := heq
    split at e
    · rename_i hz
      cases e
      obtain ⟨rfl, o1⟩ := now_str n1
      obtain ⟨u, rfl, n3⟩ := nows1 n2
      obtain ⟨rfl, o2⟩ := now_str n3
      exact ⟨_, _, rfl, rfl, hz.1, hz.2.1, fun q hq => end_lst ok p (Reps.of_strs _ fun n hn => okS_of (List.all_eq_true.mp hz.2.2 n hn)) hq⟩
    · cases e
  · cases e
def splitM : BMth := ⟨"str", "split", "str.split", liftD splitD⟩
theorem splitM_ok : splitM.Ok := ⟨F.plainAttrs_str, F.slot_str_split, F.type_str_split, fun _ _ _ => mt_splitD⟩
def partD : DPrim
  | [.str a, .str b] => if (b.length == 0) = false ∧ a.length ≤ sizeLine ∧ okB (Txt.partition a b).1 = true ∧ okB (Txt.partition a b).2.1 = true ∧ okB (Txt.partition a b).2.2 = true then
      some (.d (.tup [.str (Txt.partition a b).1, .str (Txt.partition a b).2.1, .str (Txt.partition a b).2.2])) else none
  | _ => none
theorem mt_partD {X : Cx} {ca : CA} : MtD X ca "str.partition" (liftD partD) := by
  refine mtD_of mt_partition fun ω H d ds v vs a Q ok n1 n2 e p => ?_
  unfold partD at e
  split at e
  · rename_i heq
    simp only [List.cons.injEq] at heq
    obtain ⟨rfl, rfl⟩ := heq
    split at e
    · rename_i hz
      cases e
      obtain ⟨rfl, o1⟩ := now_str n1
      obtain ⟨u, rfl, n3⟩ := nows1 n2
      obtain ⟨rfl, o2⟩ := now_str n3
      exact ⟨_, _, rfl, rfl, hz.1, hz.2.1, fun q hq => end_tup ok p (Reps.cons (rep_str (okS_of hz.2.2.1)) (Reps.cons (rep_str (okS_of hz.2.2.2.1)) (Reps.cons (rep_str (okS_of hz.2.2.2.2)) Reps.nil))) hq⟩
    · cases e
  · cases e
def partM : BMth := ⟨"str", "partition", "str.partition", liftD partD⟩
theorem partM_ok : partM.Ok := ⟨F.plainAttrs_str, F.slot_str_partition, F.type_str_partition, fun _ _ _ => mt_partD⟩
end Dn

set_option Elab.async false
set_option linter.all false
set_option maxRecDepth 100000
set_option maxHeartbeats 4000000
/-! # Dn, part O: items, len, in: of lists, tuples, texts, dicts alike; reckoning of part N -/
namespace Dn
open PySem PySem.Spec PyProof.Rows L2
theorem orF_op {p q : DPrim} {fa fb : ES} : orF (opS (liftD p) fa fb) (opS (liftD q) fa fb) = opS (liftD (orD p q)) fa fb := by
  funext env S
  unfold orF opS M.bind
  cases e1 : fa env S with
  | err x S' => rfl
  | stuck => rfl
  | ok w S1 =>
    simp only
    cases e2 : fb env S1 with
    | err x S' => rfl
    | stuck => rfl
    | ok u S2 =>
      simp only
      unfold liftP liftD orD
      cases viewAll S2 [w.toW, u.toW] with
      | none => rfl
      | some ds =>
        cases e : p ds with
        | some r => simp only [e, Option.map_some]
        | none => simp only [e, Option.map_none]
def ixG : Ru where
  sem := fun a b => opS (liftD (orD ixD dgetD)) a.e b.e
  chk := fun _ _ ka kb ex => match ex with
    | .Subscript a b _ => ka.e a && kb.e b && notSlice b
    | _ => false
theorem ru_ixG {P : Program} {w : World} {K : PySem.W.Frag} {mg : Str → Option Value} {base : Heap} {ca : CA} {k : Nat} : RuK P w K mg base ca k ixG := by
  intro X N m Wx b g a c sa sc ex hx
  simp only [ixG] at hx
  split at hx
  · simp only [Bool.and_eq_true] at hx
    obtain ⟨⟨h1, h2⟩, h3⟩ := hx
    refine tst_of ?_ ⟨fun _ => rfl, fun _ _ _ z => nomatch z⟩
    show PE X _ (tE (GX X ca) Wx (opS (liftD (orD ixD dgetD)) a.sem.e c.sem.e))
    rw [← orF_op]
    exact pe_orF (pe_ixS (sa.e _ h1) (sc.e _ h2) (ix_of h3)) (peImp (pe_dget (by have := g.un; omega) (sa.e _ h1) (sc.e _ h2) (noSl_of h3)) fun σ H Q h => dget_pre h)
  · cases hx
def inG (ng : Bool) : Ru where
  sem := fun a b => opS (liftD (orD (inN ng) (dinD ng))) a.e b.e
  chk := fun _ _ ka kb ex => match ex with
    | .Compare a [op] [b] _ => decide (op = if ng then .NotIn else .In) && ka.e a && kb.e b && notSet b
    | _ => false
theorem ru_inG {P : Program} {w : World} {K : PySem.W.Frag} {mg : Str → Option Value} {base : Heap} {ca : CA} {k : Nat} {ng : Bool} : RuK P w K mg base ca k (inG ng) := by
  intro X N m Wx b g a c sa sc ex hx
  have hx' : (dinR ng).chk N X.env.scope (a.chk N X.env.scope) (c.chk N X.env.scope) ex = true := hx
  obtain ⟨y1, y2, y3⟩ := ru_din (P := P) (w := w) (K := K) (mg := mg) (base := base) (ca := ca) (k := k) (ng := ng) X N m Wx b g a c sa sc ex hx'
  simp only [inG] at hx
  split at hx
  · rename_i e1 op e2 pp
    simp only [Bool.and_eq_true, decide_eq_true_eq] at hx
    obtain ⟨⟨⟨rfl, h1⟩, h2⟩, h3⟩ := hx
    have z : PE X (.Compare e1 [if ng then .NotIn else .In] [e2] pp) (tE (GX X ca) Wx (opS (liftD (inN ng)) a.sem.e c.sem.e)) ∧ PT X (.Compare e1 [if ng then .NotIn else .In] [e2] pp) (tB (GX X ca) Wx (tstS (opS (liftD (inN ng)) a.sem.e c.sem.e))) := by
      cases ng with
      | false => exact ⟨pe_cmpS (op_cmp g.un .isin) (sa.e _ h1) (sc.e _ h2) (beh_of h3), pt_cmpS (op_cmp g.un .isin) (sa.e _ h1) (sc.e _ h2) (beh_of h3) (bl_op fun ds r => cmp_bl (o := .isin))⟩
      | true => exact ⟨pe_cmpS (op_cmp g.un .notin) (sa.e _ h1) (sc.e _ h2) (beh_of h3), pt_cmpS (op_cmp g.un .notin) (sa.e _ h1) (sc.e _ h2) (beh_of h3) (bl_op fun ds r => cmp_bl (o := .notin))⟩
    refine ⟨?_, ?_, fun _ _ _ z => nomatch z⟩
    · show PE X _ (tE (GX X ca) Wx (opS (liftD (orD (inN ng) (dinD ng))) a.sem.e c.sem.e))
      rw [← orF_op]
      exact pe_orF z.1 y1
    · show PT X _ (tB (GX X ca) Wx (tstS (opS (liftD (orD (inN ng) (dinD ng))) a.sem.e c.sem.e)))
      rw [← orF_op]
      exact pt_orF z.2 y2
  · cases hx
/-! ### reckoning -/
section
variable {S : Store} {env : Env} {P : WP RW} {E : WE} {Z : En} {f g fo fi fe : ES}
theorem T_orL (h : T (f env S) P E) : T (orF f g env S) P E := by
  unfold orF
  cases e : f env S with
  | stuck => rw [e] at h; exact h.elim
  | ok _ _ => rw [e] at h; exact h
  | err _ _ => rw [e] at h; exact h
theorem T_orR (hf : f env S = .stuck) : T (orF f g env S) P E = T (g env S) P E := by
  unfold orF
  rw [hf]
@[simp] theorem sem_ixG {a b : Sx} : ixG.sem a b = opS (liftD (orD ixD dgetD)) a.e b.e := (rfl)
@[simp] theorem sem_inG {ng : Bool} {a b : Sx} : (inG ng).sem a b = opS (liftD (orD (inN ng) (dinD ng))) a.e b.e := (rfl)
@[simp] theorem sem_bltR {t : BltN} {a b : Sx} : (bltR t).sem a b = callS (liftP (liftD t.q)) b.a := (rfl)
@[simp] theorem sem_bmR {t : BMth} {a b : Sx} : (bmR t).sem a b = methS t.T t.p a.e b.a := (rfl)
@[simp] theorem sem_dnewR {a b : Sx} : dnewR.sem a b = fun _ => M.ret (.own (.dic [] [])) := (rfl)
@[simp] theorem sem_dputR {a b c : Sx} {x y : SS} : dputR.sem a b c x y = dputS a.e b.e c.e := (rfl)
@[simp] theorem lenG_q : lenG.q = orD lenD dlenD := (rfl)
@[simp] theorem popM_T : popM.T = "list" := (rfl)
@[simp] theorem popM_p : popM.p = popP := (rfl)
@[simp] theorem idxM_T : idxM.T = "list" := (rfl)
@[simp] theorem idxM_p : idxM.p = liftD idxP := (rfl)
@[simp] theorem splitM_T : splitM.T = "str" := (rfl)
@[simp] theorem splitM_p : splitM.p = liftD splitD := (rfl)
@[simp] theorem partM_T : partM.T = "str" := (rfl)
@[simp] theorem partM_p : partM.p = liftD partD := (rfl)
theorem orD_none {p q : DPrim} {ds : List D} (h : q ds = none) : orD p q ds = p ds := by
  unfold orD
  cases e : p ds with
  | some r => rfl
  | none => exact h
@[simp] theorem lenG_l {xs : List D} : orD lenD dlenD [.lst xs] = lenD [.lst xs] := orD_none rfl
@[simp] theorem lenG_t {xs : List D} : orD lenD dlenD [.tup xs] = lenD [.tup xs] := orD_none rfl
@[simp] theorem lenG_s {x : Str} : orD lenD dlenD [.str x] = lenD [.str x] := orD_none rfl
@[simp] theorem lenG_d {lk : Bool} {ks : List Key} {vs : List D} : orD lenD dlenD [.dic lk ks vs] = some (.d (.int ks.length)) := (rfl)
@[simp] theorem ixG_l {xs : List D} {y : D} : orD ixD dgetD [.lst xs, y] = ixD [.lst xs, y] := orD_none rfl
@[simp] theorem ixG_t {xs : List D} {y : D} : orD ixD dgetD [.tup xs, y] = ixD [.tup xs, y] := orD_none rfl
@[simp] theorem ixG_s {x : Str} {y : D} : orD ixD dgetD [.str x, y] = ixD [.str x, y] := orD_none rfl
@[simp] theorem ixG_d {lk : Bool} {ks : List Key} {vs : List D} {y : D} : orD ixD dgetD [.dic lk ks vs, y] = dgetD [.dic lk ks vs, y] := by
  unfold orD
  have : ixD [.dic lk ks vs, y] = none := by cases y <;> rfl
  rw [this]
theorem dget_some {lk : Bool} {ks : List Key} {vs : List D} {y d : D} {k : Key} (h : keyD y = some k) (h2 : lookD ks vs k = some d) : dgetD [.dic lk ks vs, y] = some (.d d) := by
  show (keyD y).bind _ = _
  rw [h]
  simp [h2]
@[simp] theorem inG_l {ng : Bool} {x : D} {ys : List D} : orD (inN ng) (dinD ng) [x, .lst ys] = inN ng [x, .lst ys] := orD_none rfl
@[simp] theorem inG_t {ng : Bool} {x : D} {ys : List D} : orD (inN ng) (dinD ng) [x, .tup ys] = inN ng [x, .tup ys] := orD_none rfl
@[simp] theorem inG_s {ng : Bool} {x : D} {y : Str} : orD (inN ng) (dinD ng) [x, .str y] = inN ng [x, .str y] := orD_none rfl
@[simp] theorem inF_l {x : D} {ys : List D} : orD inD (dinD false) [x, .lst ys] = inD [x, .lst ys] := orD_none rfl
@[simp] theorem inF_t {x : D} {ys : List D} : orD inD (dinD false) [x, .tup ys] = inD [x, .tup ys] := orD_none rfl
@[simp] theorem inF_s {x : D} {y : Str} : orD inD (dinD false) [x, .str y] = inD [x, .str y] := orD_none rfl
@[simp] theorem inT_l {x : D} {ys : List D} : orD notinD (dinD true) [x, .lst ys] = notinD [x, .lst ys] := orD_none rfl
@[simp] theorem inT_t {x : D} {ys : List D} : orD notinD (dinD true) [x, .tup ys] = notinD [x, .tup ys] := orD_none rfl
@[simp] theorem inT_s {x : D} {y : Str} : orD notinD (dinD true) [x, .str y] = notinD [x, .str y] := orD_none rfl
theorem exit_l {n m : Nat} {c : Cell} (h : ¬ m < n) (hc : S[m]? = some c) (hl : c.live = true) : T (exitR n (.loc m) S) P E = P (.own c) (S.take n) := by
  unfold exitR
  simp [h, hc, hl]
theorem exit_lt {n m : Nat} (h : m < n) : T (exitR n (.loc m) S) P E = P (.loc m) (S.take n) := by
  unfold exitR
  simp [h]
@[simp] theorem inN_f : inN false = inD := (rfl)
@[simp] theorem inN_t : inN true = notinD := (rfl)
theorem inF_d {lk : Bool} {x : D} {ks : List Key} {vs : List D} {k : Key} (h : keyD x = some k) : orD inD (dinD false) [x, .dic lk ks vs] = some (.d (.bl (lookD ks vs k).isSome)) := by
  unfold orD
  have : inD [x, .dic lk ks vs] = none := by
    unfold inD inN
    have : inB [x, .dic lk ks vs] = none := by cases x <;> rfl
    rw [this]; rfl
  rw [this]
  show (keyD x).map _ = _
  rw [h]; simp
theorem inT_d {lk : Bool} {x : D} {ks : List Key} {vs : List D} {k : Key} (h : keyD x = some k) : orD notinD (dinD true) [x, .dic lk ks vs] = some (.d (.bl !(lookD ks vs k).isSome)) := by
  unfold orD
  have : notinD [x, .dic lk ks vs] = none := by
    unfold notinD inN
    have : inB [x, .dic lk ks vs] = none := by cases x <;> rfl
    rw [this]; rfl
  rw [this]
  show (keyD x).map _ = _
  rw [h]; simp
theorem inG_d {ng lk : Bool} {x : D} {ks : List Key} {vs : List D} {k : Key} (h : keyD x = some k) : orD (inN ng) (dinD ng) [x, .dic lk ks vs] = some (.d (.bl ((lookD ks vs k).isSome != ng))) := by
  unfold orD
  have : inN ng [x, .dic lk ks vs] = none := by
    unfold inN
    have : inB [x, .dic lk ks vs] = none := by cases x <;> rfl
    rw [this]; rfl
  rw [this]
  show (keyD x).map _ = _
  rw [h]; rfl
@[simp] theorem toD_dic {ks : List Key} {vs : List D} : (Cell.dic ks vs).toD = .dic false ks vs := (rfl)
@[simp] theorem cellD_dic {ks : List Key} {vs : List D} : cellD (some (.dic ks vs)) = some (.dic false ks vs) := (rfl)
def Kdp1 (fo fi : ES) (Z : En) (env : Env) : WP RW := fun v S => T (fo env S) (fun o S => T (fi env S) (fun i S => Tr (dputP [o.toW, i.toW, v.toW] S) fun _ S => Z.n env S) (Kx Z env)) (Kx Z env)
def Kdp2 (fi : ES) (v : RW) (Z : En) (env : Env) : WP RW := fun o S => T (fi env S) (fun i S => Tr (dputP [o.toW, i.toW, v.toW] S) fun _ S => Z.n env S) (Kx Z env)
def Kdp3 (o v : RW) (Z : En) (env : Env) : WP RW := fun i S => Tr (dputP [o.toW, i.toW, v.toW] S) (Kdrop Z env)
@[simp] theorem TS_dput : TS (dputS fo fi fe env S) Z = T (fe env S) (Kdp1 fo fi Z env) (Kx Z env) := by
  unfold dputS
  rw [TS_ex, T_bind]
  congr 1
  funext v S'
  rw [T_bind]
  unfold Kdp1
  congr 1
  funext o S2
  rw [T_bind]
  congr 1
  funext i S3
  exact T_liftP
@[simp] theorem Kdp1_ {v : RW} : Kdp1 fo fi Z env v S = T (fo env S) (Kdp2 fi v Z env) (Kx Z env) := (rfl)
@[simp] theorem Kdp2_ {o v : RW} : Kdp2 fi v Z env o S = T (fi env S) (Kdp3 o v Z env) (Kx Z env) := (rfl)
@[simp] theorem Kdp3_ {o i v : RW} : Kdp3 o v Z env i S = Tr (dputP [o.toW, i.toW, v.toW] S) (Kdrop Z env) := (rfl)
theorem dput_ok {n : Nat} {y v : D} {ks : List Key} {vs : List D} {k : Key} (hs : S[n]? = some (.dic ks vs)) (nd : ks.Nodup) (hl : ks.length < sizeLine) (hk : keyD y = some k) : dputP [.loc n, .d y, .d v] S = some (.d .non, S.set n (.dic (putD v k ks vs).1 (putD v k ks vs).2)) := by
  unfold dputP
  simp only [hs]
  rw [if_pos ⟨nd, hl⟩, hk]; rfl
theorem pop_ok {n k : Nat} {i : Int} {xs : List D} {y : D} (hs : S[n]? = some (.lst xs)) (h1 : 0 ≤ i) (h2 : i.toNat = k) (hy : xs[k]? = some y) (hl : xs.length < 2 ^ 62) : popP [.loc n, .d (.int i)] S = some (.d y, S.set n (.lst (xs.eraseIdx k))) := by
  unfold popP
  simp only [hs]
  have hk := (List.getElem?_eq_some_iff.mp hy).1
  rw [if_pos (by omega)]
  have : ixN xs.length i = some k := by
    unfold ixN
    rw [if_pos h1, if_pos (by omega), h2]
  rw [this]
  simp [hy]
end
end Dn

set_option Elab.async false
set_option linter.all false
set_option maxRecDepth 100000
set_option maxHeartbeats 4000000
/-! # Dn, part P: methods of own classes, called by name and by operators -/
namespace Dn
open PySem PySem.Spec PyProof.Rows L2
/-! ### o.m(..) -/
theorem call_tree {o : Expr} {m : Str} {apos pos : Pos} {es : List Expr} {env : PySem.Env} (hbase : attributeBase o m env (eval o env) = eval o env)
    (hfew : ((backTo pos (starEach es env)).all (fun x => !x.1) && (backToKw pos (keywordEach [] env)).all (fun x => x.1.isSome) && decide (es.length + ([] : List Keyword).length + (if ([] : List Keyword).isEmpty then 0 else 1) < 30)) = true) (hline : (apos.endLine == pos.line) = true) :
    eval (.Call (.Attribute o m apos) es [] pos) env = (do
      let ov ← eval o env
      standAt apos.atName
      let (f, first) ← holding [ov] (getMethod ov m (do return (← importBound o env).getD true))
      callWith pos f first (backTo pos (starEach es env)) (backToKw pos (keywordEach [] env))) := by
  have hform : methodCallForm (es.length + ([] : List Keyword).length) (backTo pos (starEach es env)) (backToKw pos (keywordEach [] env)) = true := hfew
  have hpos : methodCallPos true o env apos pos = pure pos := by unfold methodCallPos; simp [hline]
  rw [arm_eval_Call, hbase]
  unfold methodCall
  rw [hform, hpos]
  rfl
def ckMthR (m : Str) (ka kb : Ck) : Expr → Bool
  | .Call (.Attribute o x ap) es [] p => sq m x && ka.e o && plainBase o && kb.a es && decide (es.length < 20) && (ap.endLine == p.line)
  | _ => false
def mthR (m : Str) (tb : List (Str × FnE)) : Ru where
  sem := fun a b => mthF m tb a.e b.a
  chk := fun _ _ ka kb => ckMthR m ka kb
theorem args_nil {N : List Str} {sc : Scope} {s : IE} (h : (s.chk N sc).a [] = true) : s.sem.a = nilS := by
  cases s <;> first | rfl | (simp only [IE.chk, ckCons] at h; cases h) | cases h
theorem star_cons {N : List Str} {sc : Scope} {env : PySem.Env} {s : IE} {e : Expr} {es : List Expr} (h : (s.chk N sc).a (e :: es) = true) (pos : Pos) : starEach (e :: es) env = (false, eval e env) :: starEach es env ∧ (backTo pos (starEach es env)).any (·.1) = false := by
  obtain ⟨z1, z2⟩ := args_star (env := env) h
  exact ⟨star_of z1, by
    cases s <;> first | (simp only [IE.chk, ckCons, Bool.and_eq_true] at h; exact args_plain h.2) | cases h⟩
section
variable {P : Program} {w : World} {K : PySem.W.Frag} {mg : Str → Option Value} {base : Heap} {ca : CA} {k : Nat}
theorem ru_mth {m : Str} {tb : List (Str × FnE)} (h : MthOk P w K mg base ca m k tb) : RuK P w K mg base ca k (mthR m tb) := by
  intro X N mm Wx b g a c sa sc ex hx
  simp only [mthR] at hx
  unfold ckMthR at hx
  split at hx
  · rename_i o x ap es p
    simp only [Bool.and_eq_true, decide_eq_true_eq] at hx
    obtain ⟨⟨⟨⟨⟨h1, h2⟩, h3⟩, h4⟩, h5⟩, h6⟩ := hx
    cases sq_eq h1
    have T : MthOk X.prog X.w X.K X.mg X.base ca m k tb := by rw [mm.prog, mm.w, mm.K, mm.mg, mm.base]; exact h
    have few : ((backTo p (starEach es X.env)).all (fun x => !x.1) && (backToKw p (keywordEach [] X.env)).all (fun x => x.1.isSome) && decide (es.length + ([] : List Keyword).length + (if ([] : List Keyword).isEmpty then 0 else 1) < 30)) = true := by
      cases es with
      | nil => rfl
      | cons e es => exact few_of h4 (by simp only [List.length_cons] at h5; omega)
    refine tst_of (pe_mthS T mm.room g.tk (sa.e _ h2) (sc.a _ h4) (fun e => by subst e; exact args_nil h4) (fun e r z => by subst z; exact star_cons h4 _) (call_tree (base_of h3) few h6)) ⟨fun _ => rfl, fun _ _ _ z => nomatch z⟩
  · cases hx
end
/-! ### an own method run, somewhere below the body -/
section
variable {X : Cx} {ca : CA} {Wx : WX}
theorem run_in {A' : Around} (hfr : A'.frames = X.A.frames) {k : Nat} {f : Addr} {fd : FuncData} {ps : List Str} {sp : Sp} {pins : List (Addr × Obj)} {σ : L2.St} {H : Hp} {s : Shared} {Q : VK} {us : List Value} {vs : List V} (F : FnOk X.prog X.w X.K X.mg X.base (L2.CX X.prog X.w) k f fd ps sp) (hr : Room k A') (hb : Binds X.K fd ps []) (tk : Takes X Wx)
    (I : Inv X pins σ H s) (r : Vals vs us) (h : sp vs H Q (fun c d H' => Wx c d σ H')) : wpAny (model X.prog X.w) A' (call (.ref f) us) (EP X pins σ Q) X.xe s := by
  have e0 : Env0 X.prog X.w X.K X.mg X.base A' X.stack s H := by
    have e := I.env0
    exact ⟨by rw [hfr]; exact e.frames, e.mod, e.bs, e.bsz, e.funs, e.frf, e.hok, e.bare⟩
  have hl : (us ++ []).length = ps.length := by rw [List.append_nil, ← r.length]; exact F.len _ _ _ _ h
  refine wpAny_call (codeAny_mono (F.run A' X.stack s H ⟨us, []⟩ us vs _ _ hr e0 (by
    have := hb s us I.kIn hl
    simpa using this) r h) fun r s' hq => ?_)
  cases r with
  | error e => exact passAt tk σ pins H s e s' I hq
  | ok fl =>
    cases fl with
    | ret u =>
      exact I.after hq
    | _ => exact hq.elim
end
end Dn

set_option Elab.async false
set_option linter.all false
set_option maxRecDepth 100000
set_option maxHeartbeats 4000000
/-! # Dn, part Q: own operators of instances -/
namespace Dn
open PySem PySem.Spec PyProof.Rows L2
/-- an own method, by the class of what stands there -/
def mthB (tb : List (Str × FnE)) (w : W) (us : List W) : M RW := fun S => match view S w with
  | some (.ins C _ _) => match tb.lookup C with
    | some en => if us.length + 1 = en.np then en.sem (w :: us) S else .stuck
    | none => .stuck
  | _ => .stuck
theorem back_of {X : Cx} {pins : List (Addr × Obj)} {σ : L2.St} {Q : VK} {v : Value} {s' : Shared} (h : EP X pins σ Q v s') : PySem.W.CmpBack (EP X pins σ Q) v s' := by
  cases v <;> first | exact h | (obtain ⟨x, _, _, r, _⟩ := h; cases x <;> simp [L2.RelV] at r)
section
variable {X : Cx} {ca : CA} {Wx : WX}
theorem own_run {m : Str} {k : Nat} {tb : List (Str × FnE)} (T : MthOk X.prog X.w X.K X.mg X.base ca m k tb) (tk : Takes X Wx) {A' : Around} (hfr : A'.frames = X.A.frames) (hr : Room k A') {pins : List (Addr × Obj)} {s : Shared} {σ : L2.St} {H : Hp}
    {Q : VK} {ω : Wd} {w : W} {us : List W} {x : V} {vs : List V} {u : Value} {us' : List Value} (I : Inv X pins σ H s) (ok : ω.Ok (GX X ca) H) (r : RepW (GX X ca) ω w x) (rs : RepWs (GX X ca) ω us vs) (rx : RelV x u) (rus : Vals vs us')
    (p : PostE (GX X ca) ω H Q (fun c d H' => Wx c d σ H') (mthB tb w us ω.S)) :
    ∃ C ks fs en f a dx ws, view ω.S w = some (.ins C ks fs) ∧ tb.lookup C = some en ∧ u = .ref a ∧ H a = some (.ins (ca.f C) dx (ks.zip ws)) ∧ Meth X.K (ca.f C) m f ∧
      wpAny (model X.prog X.w) A' (call (.ref f) (.ref a :: us')) (EP X pins σ Q) X.xe s := by
  unfold mthB at p
  cases e : view ω.S w with
  | none => simp only [e] at p; exact p.elim
  | some d =>
    cases d with
    | ins C ks fs =>
      simp only [e] at p
      cases hl : tb.lookup C with
      | none => simp only [hl] at p; exact p.elim
      | some en =>
        simp only [hl] at p
        obtain ⟨hk, f, fd, ps, c, hm, F, hb⟩ := T C en hl
        obtain ⟨a, dx, ws, rfl, hat, hrp⟩ := now_of ok r e
        have eu : u = Value.ref a := rx
        subst eu
        split at p
        · rename_i hlen
          refine ⟨C, ks, fs, en, f, a, dx, ws, rfl, hl, rfl, hat, hm, ?_⟩
          refine run_in hfr F (hr.mono hk) hb tk I (.cons (show L2.RelV (.ref a) (.ref a) from rfl) rus) ?_
          exact ⟨by simp only [List.length_cons, rs.length]; exact hlen, ω, w :: us, ok, ⟨_, _, rfl, r, rs⟩, p⟩
        · exact p.elim
    | _ => simp only [e] at p; exact p.elim
/-! ### operators of two places -/
def OpX (X : Cx) (ca : CA) (Wx : WX) (f : Value → Value → PySem.Sem Value) (g : W → W → M RW) : Prop :=
  ∀ (pins : List (Addr × Obj)) (s : Shared) (σ : L2.St) (H : Hp) (x y : V) (v u : Value) (Q : VK) (ω : Wd) (a b : W), Inv X pins σ H s → RelV x v → RelV y u → ω.Ok (GX X ca) H → RepW (GX X ca) ω a x → RepW (GX X ca) ω b y →
    PostE (GX X ca) ω H Q (fun c d H' => Wx c d σ H') (g a b ω.S) → wpAny (model X.prog X.w) X.A (f v u) (EP X pins σ Q) X.xe s
theorem opX_data {f : Value → Value → PySem.Sem Value} {q : DPrim} (h : OpD X ca f q) : OpX X ca Wx f (fun a b => liftP (liftD q) [a, b]) := by
  intro pins s σ H x y v u Q ω a b I rx ry ok r1 r2 p
  exact h pins s σ H x y v u Q I rx ry (prim_of (ws := [a, b]) ok (Le.refl _ _ ok) ⟨x, [y], rfl, r1, y, [], rfl, r2, rfl⟩ p)
def orX (g g' : W → W → M RW) : W → W → M RW := fun a b S => match g a b S with
  | .stuck => g' a b S
  | r => r
theorem opX_or {f : Value → Value → PySem.Sem Value} {g g' : W → W → M RW} (h : OpX X ca Wx f g) (h' : OpX X ca Wx f g') : OpX X ca Wx f (orX g g') := by
  intro pins s σ H x y v u Q ω a b I rx ry ok r1 r2 p
  unfold orX at p
  cases e : g a b ω.S with
  | stuck => rw [e] at p; exact h' pins s σ H x y v u Q ω a b I rx ry ok r1 r2 p
  | ok _ _ => rw [e] at p; exact h pins s σ H x y v u Q ω a b I rx ry ok r1 r2 (by rw [e]; exact p)
  | err _ _ => rw [e] at p; exact h pins s σ H x y v u Q ω a b I rx ry ok r1 r2 (by rw [e]; exact p)
def op2S (g : W → W → M RW) (fa fb : ES) : ES := fun env => (fa env).bind fun a => (fb env).bind fun b => g a.toW b.toW
variable {a b : Expr} {pos : Pos} {fa fb : ES}
theorem op2_pre {f : Value → Value → PySem.Sem Value} {g : W → W → M RW} (ho : OpX X ca Wx f g) (ha : PE X a (tE (GX X ca) Wx fa)) (hb : PE X b (tE (GX X ca) Wx fb)) {pins : List (Addr × Obj)} {s : Shared} {σ : L2.St} {H : Hp} {Q : VK}
    (I : Inv X pins σ H s) (h : tE (GX X ca) Wx (op2S g fa fb) σ H Q) :
    wpAny (model X.prog X.w) X.A (eval a X.env) (fun v s₁ => wpAny (model X.prog X.w) X.A (eval b X.env) (fun u s₂ => wpAny (model X.prog X.w) X.A (f v u) (EP X pins σ Q) X.xe s₂) X.xe s₁) X.xe s := by
  obtain ⟨ω, env, ok, er, p⟩ := h
  refine binT ha hb I (R := fun x y H2 => ∃ ω2 w1 w2, ω2.Ok (GX X ca) H2 ∧ RepW (GX X ca) ω2 w1 x ∧ RepW (GX X ca) ω2 w2 y ∧ PostE (GX X ca) ω2 H2 Q (fun c d H' => Wx c d σ H') (g w1 w2 ω2.S)) ?_ fun v u s2 x y H2 I2 rx ry ⟨ω2, w1, w2, ok2, r1, r2, p2⟩ =>
    ho pins s2 σ H2 x y v u Q ω2 w1 w2 I2 rx ry ok2 r1 r2 p2
  refine tE_mono (bindW ok er p) fun x H1 ⟨ω1, w1, le1, ok1, r1, er1, p1⟩ => ?_
  refine tE_mono (bindW ok1 er1 (Post.step le1 (rw_after le1) p1)) fun y H2 ⟨ω2, w2, le2, ok2, r2, er2, p2⟩ => ?_
  exact ⟨ω2, w1.toW, w2.toW, ok2, r1.mono le2, r2, PostE.step le2 p2⟩
theorem pe_bin2 {op : Operator} {g : W → W → M RW} (ho : OpX X ca Wx (binaryOp op) g) (ha : PE X a (tE (GX X ca) Wx fa)) (hb : PE X b (tE (GX X ca) Wx fb)) : PE X (.BinOp a op b pos) (tE (GX X ca) Wx (op2S g fa fb)) :=
  ⟨fun pins s σ H Q I h => wpAny_BinOp (op2_pre ho ha hb I h)⟩
theorem pc_cmp2 {op : CmpOp} {g : W → W → M RW} (ho : OpX X ca Wx (compareOp op) g) (ha : PE X a (tE (GX X ca) Wx fa)) (hb : PE X b (tE (GX X ca) Wx fb)) : PC X op a b (tE (GX X ca) Wx (op2S g fa fb)) :=
  ⟨fun pins s σ H Q I h => op2_pre ho ha hb I h⟩
def BlX (g : W → W → M RW) : Prop := ∀ a b S r S', g a b S = .ok r S' → ∃ k, r = .d (.bl k)
theorem bl_op2 {g : W → W → M RW} (h : BlX g) : Bl (op2S g fa fb) := by
  intro env S r S' e
  unfold op2S M.bind at e
  cases e1 : fa env S with
  | err x S1 => rw [e1] at e; cases e
  | stuck => rw [e1] at e; cases e
  | ok w S1 =>
    rw [e1] at e
    simp only at e
    cases e2 : fb env S1 with
    | err x S1 => rw [e2] at e; cases e
    | stuck => rw [e2] at e; cases e
    | ok w2 S2 =>
      rw [e2] at e
      exact h _ _ _ _ _ e
theorem blX_or {g g' : W → W → M RW} (h : BlX g) (h' : BlX g') : BlX (orX g g') := by
  intro a b S r S' e
  unfold orX at e
  cases e1 : g a b S with
  | ok _ _ => rw [e1] at e; cases e; exact h _ _ _ _ _ e1
  | err _ _ => rw [e1] at e; cases e
  | stuck => rw [e1] at e; exact h' _ _ _ _ _ e
theorem blX_data {o : CO} : BlX (fun a b => liftP (liftD (cmpD o)) [a, b]) := by
  intro a b S r S' e
  unfold liftP liftD at e
  cases e1 : viewAll S [a, b] with
  | none => simp only [e1] at e; cases e
  | some ds =>
    cases e2 : cmpD o ds with
    | none => simp only [e1, e2, Option.map_none] at e; cases e
    | some r =>
      simp only [e1, e2, Option.map_some] at e
      cases e
      exact cmp_bl e2
theorem pt_cmp2 {op : CmpOp} {g : W → W → M RW} (ho : OpX X ca Wx (compareOp op) g) (ha : PE X a (tE (GX X ca) Wx fa)) (hb : PE X b (tE (GX X ca) Wx fb)) (hm : behindInMarks op b = false) (hbl : BlX g) :
    PT X (.Compare a [op] [b] pos) (tB (GX X ca) Wx (tstS (op2S g fa fb))) :=
  ptImp (pt_cmp (pc_cmp2 ho ha hb) hm) fun σ H Q h => tst_bl (bl_op2 hbl) h
/-- only a bool is handed on -/
def onlyB (r : RW) : M RW := match r with
  | .d (.bl b) => M.ret (.d (.bl b))
  | _ => fun _ => .stuck
def notB (r : RW) : M RW := match r with
  | .d (.bl b) => M.ret (.d (.bl (!b)))
  | _ => fun _ => .stuck
theorem onlyB_pre {G : RC} {ω : Wd} {H : Hp} {Q : VK} {E : XK} {f : M RW} (h : PostE G ω H Q E (f.bind onlyB ω.S)) : PostE G ω H (fun v H' => ∃ b, v = .bl b ∧ Q (.bl b) H') E (f ω.S) := by
  unfold M.bind at h
  cases e : f ω.S with
  | err x S' => rw [e] at h; exact h
  | stuck => rw [e] at h; exact h
  | ok r S' =>
    rw [e] at h
    simp only at h
    unfold onlyB at h
    split at h
    · rename_i b
      intro ω' H' v e1 le ok r
      have r : v = .bl b := by
        have r : Rep G ω'.F (.bl b) v := r
        unfold Rep at r
        exact r
      subst r
      exact ⟨b, rfl, h ω' H' _ e1 le ok (by unfold RepRW; exact rep_bl b)⟩
    · exact h.elim
theorem notB_pre {G : RC} {ω : Wd} {H : Hp} {Q : VK} {E : XK} {f : M RW} (h : PostE G ω H Q E (f.bind notB ω.S)) : PostE G ω H (fun v H' => ∃ b, v = .bl b ∧ Q (.bl (!b)) H') E (f ω.S) := by
  unfold M.bind at h
  cases e : f ω.S with
  | err x S' => rw [e] at h; exact h
  | stuck => rw [e] at h; exact h
  | ok r S' =>
    rw [e] at h
    simp only at h
    unfold notB at h
    split at h
    · rename_i b
      intro ω' H' v e1 le ok r
      have r : v = .bl b := by
        have r : Rep G ω'.F (.bl b) v := r
        unfold Rep at r
        exact r
      subst r
      exact ⟨b, rfl, h ω' H' _ e1 le ok (by unfold RepRW; exact rep_bl (!b))⟩
    · exact h.elim
theorem onlyB_bl {f : M RW} {S S' : Store} {r : RW} (h : f.bind onlyB S = .ok r S') : ∃ k, r = .d (.bl k) := by
  unfold M.bind at h
  cases e : f S with
  | err x S' => rw [e] at h; cases h
  | stuck => rw [e] at h; cases h
  | ok r S' =>
    rw [e] at h
    simp only at h
    unfold onlyB at h
    split at h
    · cases h; exact ⟨_, rfl⟩
    · cases h
theorem notB_bl {f : M RW} {S S' : Store} {r : RW} (h : f.bind notB S = .ok r S') : ∃ k, r = .d (.bl k) := by
  unfold M.bind at h
  cases e : f S with
  | err x S' => rw [e] at h; cases h
  | stuck => rw [e] at h; cases h
  | ok r S' =>
    rw [e] at h
    simp only at h
    unfold notB at h
    split at h
    · cases h; exact ⟨_, rfl⟩
    · cases h
/-! a op b, a an instance: b of the same class, or a whole number -/
structure OpC (K : PySem.W.Frag) (C : Addr) (op : Operator) : Prop where
  sf : PySem.W.selfFirst K C = true
  rr : ∃ rc, PySem.W.findIn K (.ref C) (dunderR op.info.2) = some rc ∧ (rc = none ∨ ∃ g : Addr, rc = some (.ref g))
  ty : ∃ fo ro, PySem.W.findIn K (.type "int") (PySem.dunder op.info.2) = some fo ∧ PySem.W.findIn K (.type "int") (dunderR op.info.2) = some ro
  su : PySem.W.subIn K (.type "int") (.ref C) = some false
def OpCs (K : PySem.W.Frag) (ca : CA) (op : Operator) (tb : List (Str × FnE)) : Prop := ∀ C en, tb.lookup C = some en → OpC K (ca.f C) op
def ownB (tb : List (Str × FnE)) (a b : W) : M RW := fun S => match view S a, view S b with
  | some (.ins C _ _), some (.ins C' _ _) => if C = C' then mthB tb a [b] S else .stuck
  | some (.ins _ _ _), some (.int _) => mthB tb a [b] S
  | _, _ => .stuck
theorem opX_bin {op : Operator} {m : Str} {k : Nat} {tb : List (Str × FnE)} (hn : PySem.dunder op.info.2 = m) (T : MthOk X.prog X.w X.K X.mg X.base ca m k tb) (O : OpCs X.K ca op tb) (tk : Takes X Wx) (hr : Room k X.A) : OpX X ca Wx (binaryOp op) (ownB tb) := by
  intro pins s σ H x y v u Q ω wa wb I rx ry ok r1 r2 p
  obtain ⟨mm, hF⟩ := I.fr
  unfold ownB at p
  split at p
  · rename_i C ks fs C' ks' fs' e1 e2
    split at p
    · rename_i hC
      subst hC
      obtain ⟨C0, ks0, fs0, en, f, a1, dx, ws, h0, hl, rfl, ha, hm, hc⟩ := own_run T tk rfl hr I ok r1 (us := [wb]) (vs := [y]) ⟨y, [], rfl, r2, rfl⟩ rx (.cons ry .nil) p
      rw [e1] at h0
      cases h0
      obtain ⟨b1, dx1, ws1, rfl, hb, _⟩ := now_of ok r2 e2
      obtain rfl : u = Value.ref b1 := ry
      obtain ⟨mA, J, _⟩ := ins_get I.hok ha
      obtain ⟨mB, J', _⟩ := ins_get I.hok hb
      obtain ⟨od, J, _⟩ := J.look
      obtain ⟨od', J', _⟩ := J'.look
      exact PySem.W.binop_K hF I.ok.mod.kin J J'.type (O C en hl).sf (by rw [hn]; exact hm.at_) hm.fn (thn hc fun v s' z => back_of z)
    · exact p.elim
  · rename_i C ks fs i e1 e2
    obtain ⟨C0, ks0, fs0, en, f, a1, dx, ws, h0, hl, rfl, ha, hm, hc⟩ := own_run T tk rfl hr I ok r1 (us := [wb]) (vs := [y]) ⟨y, [], rfl, r2, rfl⟩ rx (.cons ry .nil) p
    rw [e1] at h0
    cases h0
    have n2 := now_of ok r2 e2
    obtain rfl : y = .int i := by
      have n2 : Rep (GX X ca) ω.F (.int i) y := n2
      unfold Rep at n2
      exact n2
    obtain ⟨t, rfl⟩ := ry
    obtain ⟨mA, J, _⟩ := ins_get I.hok ha
    obtain ⟨od, J, _⟩ := J.look
    obtain ⟨o1, ⟨rc, o2, o3⟩, ⟨fo, ro, o4, o5⟩, o6⟩ := O C en hl
    exact PySem.W.ksp_binT (T := "int") hF I.ok.mod.kin J rfl o1 (by rw [hn]; exact hm.at_) hm.fn o2 o3 o4 o5 o6 (thn hc fun v s' z => back_of z)
  · exact p.elim
/-! a op b, comparisons -/
def CmpCs (K : PySem.W.Frag) (ca : CA) (tb : List (Str × FnE)) : Prop := ∀ C en, tb.lookup C = some en → ∀ n ∈ tyNames, PySem.W.subIn K (.type n) (.ref (ca.f C)) = some false
/-- what may stand on the right: an instance of the same class, or plain data -/
def rightB (C : Str) : Option D → Bool
  | some (.ins C' _ _) => decide (C = C')
  | some d => (tyN d).isSome
  | none => false
def ownC (tb : List (Str × FnE)) (a b : W) : M RW := fun S => match view S a with
  | some (.ins C _ _) => if rightB C (view S b) = true then (mthB tb a [b]).bind onlyB S else .stuck
  | _ => .stuck
theorem blX_own {tb : List (Str × FnE)} : BlX (ownC tb) := by
  intro a b S r S' e
  unfold ownC at e
  split at e
  · split at e
    · exact onlyB_bl e
    · cases e
  · cases e
theorem right_ty {C : Str} {en : FnE} {tb : List (Str × FnE)} (O : CmpCs X.K ca tb) (hl : tb.lookup C = some en) {pins : List (Addr × Obj)} {s : Shared} {σ : L2.St} {H : Hp} {ω : Wd} {w : W} {y : V} {u : Value}
    (I : Inv X pins σ H s) (ok : ω.Ok (GX X ca) H) (r : RepW (GX X ca) ω w y) (ry : RelV y u) (h : rightB C (view ω.S w) = true) :
    ∃ t, PySem.W.Looks (model X.prog X.w) s.heap (typeOf u) t ∧ PySem.W.notFirst X.K (ca.f C) t = true := by
  cases e : view ω.S w with
  | none => rw [e] at h; cases h
  | some d =>
    rw [e] at h
    have n := now_of ok r e
    by_cases hi : ∃ C ks vs, d = .ins C ks vs
    · obtain ⟨C', ks', vs', rfl⟩ := hi
      have h := of_decide_eq_true h
      subst h
      obtain ⟨b1, dx1, ws1, rfl, hb, _⟩ := n
      obtain rfl : u = Value.ref b1 := ry
      obtain ⟨mB, J', _⟩ := ins_get I.hok hb
      obtain ⟨od', J', _⟩ := J'.look
      exact ⟨_, J'.type, by simp [PySem.W.notFirst]⟩
    · have h2 : (tyN d).isSome = true := by
        cases d <;> first | exact absurd ⟨_, _, _, rfl⟩ hi | exact h
      obtain ⟨T, hT⟩ := Option.isSome_iff_exists.mp h2
      have ty := tyX_now (G := GX X ca) ok hT n
      obtain ⟨P, kx, hp, _⟩ := kit_of I ry ty
      refine ⟨_, kx.ty _ _ I.kIn hp, ?_⟩
      unfold PySem.W.notFirst
      rw [O C en hl T (tyN_in hT)]
      simp
theorem opX_cmp {op : CmpOp} {m : Str} {k : Nat} {tb : List (Str × FnE)} (hn : (cmpInfo op).2.1 = m) (ho : ∀ v u, compareOp op v u = richCompare op v u) (T : MthOk X.prog X.w X.K X.mg X.base ca m k tb) (O : CmpCs X.K ca tb) (tk : Takes X Wx) (hr : Room k X.A) :
    OpX X ca Wx (compareOp op) (ownC tb) := by
  intro pins s σ H x y v u Q ω wa wb I rx ry ok r1 r2 p
  obtain ⟨mm, hF⟩ := I.fr
  unfold ownC at p
  split at p
  · rename_i C ks fs e1
    split at p
    · rename_i hb
      obtain ⟨C0, ks0, fs0, en, f, a1, dx, ws, h0, hl, rfl, ha, hm, hc⟩ := own_run T tk rfl hr I ok r1 (us := [wb]) (vs := [y]) ⟨y, [], rfl, r2, rfl⟩ rx (.cons ry .nil) (onlyB_pre p)
      rw [e1] at h0
      cases h0
      obtain ⟨t, ht, hnf⟩ := right_ty O hl I ok r2 ry hb
      obtain ⟨mA, J, _⟩ := ins_get I.hok ha
      obtain ⟨od, J, _⟩ := J.look
      rw [ho]
      refine PySem.W.cmp_K hr.units0 hF I.ok.mod.kin J ht hnf (by rw [hn]; exact hm.at_) hm.fn (thn hc fun v s' z => back_of ?_)
      obtain ⟨x', H', I', rv, b, rfl, q⟩ := z
      exact ⟨_, H', I', rv, q⟩
    · exact p.elim
  · exact p.elim
end
end Dn

set_option Elab.async false
set_option linter.all false
set_option maxRecDepth 100000
set_option maxHeartbeats 4000000
/-! # Dn, part R: own operators of instances: !=, in, str, bool, len -/
namespace Dn
open PySem PySem.Spec PySem.W PySem.Calls PyProof.Rows L2 Builtin
section
variable {prog : Program} {w : World} {A : Around} {E : Value → Shared → Prop} {s : Shared} {K : Frag} {x C L f : Addr} {h₀ : Heap} {m : PySem.Str → Option Value} {ox : Obj} {od : Option Obj} {name : PySem.Str} {b tb : Value}
theorem one_bind (self : Value) : bindSpecial (.builtin "object.__ne__") self = pure (.builtin "object.__ne__", [self]) := rfl
theorem one_plain : plainId "object.__ne__" = true := by decide +kernel
theorem entry_one : entryFor table "object.__ne__" = some Builtin.«object.__ne__» := entryFor_of_tree (by kernel_rfl)
theorem one_kind : builtinKind "object.__ne__" = some .slot := by decide +kernel
theorem one_split : splitId "object.__ne__" = some ("object", "__ne__") := by decide +kernel
theorem one_args (a b : Value) : argsOk "object.__ne__" ⟨[a, b], []⟩ := by unfold argsOk; kernel_rfl
theorem one_run (X : K.In s.heap) (I : InstAt s.heap x ox C od) (hu : A.units < cLine) (hs : findIn K (.ref C) "__eq__" = some (some (.ref f))) (hf : isFn K (.ref f) = true) {Q : Fin → Shared → Prop}
    (h : wpAny (model prog w) A (call (.ref f) [.ref x, b]) (fun v s' => ∃ c, v = .bool c ∧ Q (.done (.ret (.bool (!c)))) s') E s) : wpAny (model prog w) A (Builtin.«object.__ne__» ⟨[.ref x, b], []⟩) Q E s := by
  unfold Builtin.«object.__ne__»
  refine wpAny_bind (m := slotArgs "__ne__" 1 _) (wpAny_pure ?_)
  refine wpAny_bind (m := cRoomFor _ _) (wpAny_cRoomFor hu ?_)
  refine wpAny_bind (m := callSpecialIfBound? (.ref x) (PySem.Str.ofString "__eq__") [b]) (ifBound_K X I hs hf (wpAny_mono h (fun v s' hv => ?_) fun _ _ e => e))
  obtain ⟨c, rfl, q⟩ := hv
  exact wpAny_bind (m := truthy (.bool c)) (wpAny_truthy_bool (wpAny_pure q))
theorem ne_K {Q : Value → Shared → Prop} (hu : A.units < cLine) (hu1 : A.in1.units < cLine) (F : Fr h₀ L s.heap m) (X₀ : K.In h₀) (I : InstAt s.heap x ox C od) (hb : Looks (model prog w) s.heap (typeOf b) tb) (hn : notFirst K C tb = true)
    (hs : findIn K (.ref C) "__eq__" = some (some (.ref f))) (hf : isFn K (.ref f) = true) (hne : findIn K (.ref C) "__ne__" = some (some (.builtin "object.__ne__"))) (ho : mroIn K C (.type "object") = some true)
    (h : wpAny (model prog w) A.in1 (call (.ref f) [.ref x, b]) (fun v s' => ∃ c, v = .bool c ∧ Q (.bool (!c)) s') E s) : wpAny (model prog w) A (richCompare .NotEq (.ref x) b) Q E s := by
  have X := X₀.keeps F.keep
  have one : wpAny (model prog w) A (tryCompare (.ref x) (cmpInfo .NotEq).2.1 b) (fun r s' => ∃ v, r = some v ∧ Q v s') E s := by
    unfold tryCompare
    refine wpAny_bind ?_
    simp only [callSpecialIfBound?, bindSpecialIfBound?]
    refine wpAny_holding (wpAny_bind (wpAny_bind (wpAny_bind (I.type.here ((looks_findIn X (name := (cmpInfo .NotEq).2.1) hne).here ?_)))))
    refine wpAny_bind (wpAny_askSetting (wpAny_ite ?_))
    have fin : wpAny (model prog w) A (call (.builtin "object.__ne__") ([.ref x] ++ [b]) >>= fun v => pure (some v)) (fun v s' => wpAny (model prog w) A (match v with
      | some .notImplemented | none => pure none
      | some v => pure (some v)) (fun r s' => ∃ v, r = some v ∧ Q v s') E s') E s := by
      refine wpAny_bind (wpAny_call (codeAny_call_builtin one_plain entry_one (check_slot (s := s) (self := .ref x) (rest := [b]) (kw := []) one_kind one_split (I.type.andThen (looks_mroIn X ho)) (one_args _ _) ?_)))
      refine one_run X I hu1 hs hf (wpAny_mono h (fun v s' hv => ?_) fun _ _ e => e)
      obtain ⟨c, rfl, q⟩ := hv
      exact ⟨c, rfl, wpAny_pure (wpAny_pure ⟨_, rfl, q⟩)⟩
    split
    · refine wpAny_bind ?_
      rw [one_bind]
      exact wpAny_pure (wpAny_pure fin)
    · refine wpAny_tryCatch (wpAny_bind ?_)
      rw [one_bind]
      exact wpAny_pure (wpAny_pure fin)
  unfold richCompare
  simp only [oneThing_ref]
  refine wpAny_holding (wpAny_bind (wpAny_cRoomFor hu ?_))
  refine wpAny_bind (I.type.here (wpAny_bind (hb.here ?_)))
  split
  · rename_i q
    have e : subIn K tb (.ref C) = some false := by
      rcases Bool.or_eq_true_iff.mp hn with e | e
      · rw [beq_iff_eq.mp e] at q; simp at q
      · exact beq_iff_eq.mp e
    refine wpAny_bind ((looks_subIn X e).here ?_)
    simp only [Bool.false_eq_true, if_false]
    refine wpAny_bind (wpAny_mono one (fun r s' z => ?_) fun _ _ e => e)
    obtain ⟨v, rfl, hq⟩ := z
    exact wpAny_pure hq
  · refine wpAny_bind (wpAny_pure ?_)
    simp only [Bool.false_eq_true, if_false]
    refine wpAny_bind (wpAny_mono one (fun r s' z => ?_) fun _ _ e => e)
    obtain ⟨v, rfl, hq⟩ := z
    exact wpAny_pure hq
end

/-! ### != -/
section
variable {X : Cx} {ca : CA} {Wx : WX}
structure NeC (K : PySem.W.Frag) (C : Addr) : Prop where
  ne : findIn K (.ref C) "__ne__" = some (some (.builtin "object.__ne__"))
  ob : mroIn K C (.type "object") = some true
def NeCs (K : PySem.W.Frag) (ca : CA) (tb : List (Str × FnE)) : Prop := ∀ C en, tb.lookup C = some en → NeC K (ca.f C)
def ownN (tb : List (Str × FnE)) (a b : W) : M RW := fun S => match view S a with
  | some (.ins C _ _) => if rightB C (view S b) = true then (mthB tb a [b]).bind notB S else .stuck
  | _ => .stuck
theorem blX_ownN {tb : List (Str × FnE)} : BlX (ownN tb) := by
  intro a b S r S' e
  unfold ownN at e
  split at e
  · split at e
    · exact notB_bl e
    · cases e
  · cases e
theorem opX_ne {k : Nat} {tb : List (Str × FnE)} (T : MthOk X.prog X.w X.K X.mg X.base ca "__eq__" k tb) (O : CmpCs X.K ca tb) (O2 : NeCs X.K ca tb) (tk : Takes X Wx) (hr : Room (k + 1) X.A) : OpX X ca Wx (compareOp .NotEq) (ownN tb) := by
  intro pins s σ H x y v u Q ω wa wb I rx ry ok r1 r2 p
  obtain ⟨mm, hF⟩ := I.fr
  unfold ownN at p
  split at p
  · rename_i C ks fs e1
    split at p
    · rename_i hb
      obtain ⟨C0, ks0, fs0, en, f, a1, dx, ws, h0, hl, rfl, ha, hm, hc⟩ := own_run T tk (A' := X.A.in1) rfl hr.in1 I ok r1 (us := [wb]) (vs := [y]) ⟨y, [], rfl, r2, rfl⟩ rx (.cons ry .nil) (notB_pre p)
      rw [e1] at h0
      cases h0
      obtain ⟨t, ht, hnf⟩ := right_ty O hl I ok r2 ry hb
      obtain ⟨mA, J, _⟩ := ins_get I.hok ha
      obtain ⟨od, J, _⟩ := J.look
      refine ne_K hr.units0 hr.in1.units0 hF I.ok.mod.kin J ht hnf hm.at_ hm.fn (O2 C en hl).ne (O2 C en hl).ob (thn hc fun v s' z => ?_)
      obtain ⟨x', H', I', rv, b, rfl, q⟩ := z
      obtain rfl : v = .bool b := rv
      exact ⟨b, rfl, .bl (!b), H', I', rfl, q⟩
    · exact p.elim
  · exact p.elim
/-! ### in, not in -/
def ownIn (ng : Bool) (tb : List (Str × FnE)) (a b : W) : M RW := fun S => match view S b with
  | some (.ins _ _ _) => (mthB tb b [a]).bind (if ng then notB else onlyB) S
  | _ => .stuck
theorem blX_in {ng : Bool} {tb : List (Str × FnE)} : BlX (ownIn ng tb) := by
  intro a b S r S' e
  unfold ownIn at e
  split at e
  · cases ng with
    | true => exact notB_bl e
    | false => exact onlyB_bl e
  · cases e
theorem opX_in {ng : Bool} {k : Nat} {tb : List (Str × FnE)} (T : MthOk X.prog X.w X.K X.mg X.base ca "__contains__" k tb) (tk : Takes X Wx) (hr : Room k X.A) : OpX X ca Wx (compareOp (if ng then .NotIn else .In)) (ownIn ng tb) := by
  intro pins s σ H x y v u Q ω wa wb I rx ry ok r1 r2 p
  obtain ⟨mm, hF⟩ := I.fr
  unfold ownIn at p
  split at p
  · rename_i C ks fs e1
    cases ng with
    | false =>
      obtain ⟨C0, ks0, fs0, en, f, a1, dx, ws, h0, hl, rfl, ha, hm, hc⟩ := own_run T tk rfl hr I ok r2 (us := [wa]) (vs := [x]) ⟨x, [], rfl, r1, rfl⟩ ry (.cons rx .nil) (onlyB_pre p)
      obtain ⟨mA, J, _⟩ := ins_get I.hok ha
      obtain ⟨od, J, _⟩ := J.look
      refine in_K hF I.ok.mod.kin J hm.at_ hm.fn (thn hc fun v s' z => ?_)
      obtain ⟨x', H', I', rv, b, rfl, q⟩ := z
      obtain rfl : v = .bool b := rv
      exact wpAny_truthy_bool ⟨.bl b, H', I', rfl, q⟩
    | true =>
      obtain ⟨C0, ks0, fs0, en, f, a1, dx, ws, h0, hl, rfl, ha, hm, hc⟩ := own_run T tk rfl hr I ok r2 (us := [wa]) (vs := [x]) ⟨x, [], rfl, r1, rfl⟩ ry (.cons rx .nil) (notB_pre p)
      obtain ⟨mA, J, _⟩ := ins_get I.hok ha
      obtain ⟨od, J, _⟩ := J.look
      refine notIn_K hF I.ok.mod.kin J hm.at_ hm.fn (thn hc fun v s' z => ?_)
      obtain ⟨x', H', I', rv, b, rfl, q⟩ := z
      obtain rfl : v = .bool b := rv
      exact wpAny_truthy_bool ⟨.bl (!b), H', I', rfl, q⟩
  · exact p.elim
/-! ### str(o), bool(o), len(o): an own method behind a built-in -/
/-- what a built-in of one place does: no error leaves it -/
def CallX (X : Cx) (ca : CA) (f : Value) (g : W → M RW) : Prop :=
  CallR X f (fun xs H Q => ∃ ω w x, xs = [x] ∧ ω.Ok (GX X ca) H ∧ RepW (GX X ca) ω w x ∧ PostE (GX X ca) ω H Q (fun _ _ _ => False) (g w ω.S))
/-- errors are not read -/
def noErr (f : M RW) : M RW := fun S => match f S with
  | .ok r S' => .ok r S'
  | _ => .stuck
def onlyS (r : RW) : M RW := match r with
  | .d (.str b) => M.ret (.d (.str b))
  | _ => fun _ => .stuck
def onlyL (r : RW) : M RW := match r with
  | .d (.int i) => if 0 ≤ i ∧ i < 2 ^ 63 then M.ret (.d (.int i)) else fun _ => .stuck
  | _ => fun _ => .stuck
theorem postE_no {G : RC} {ω : Wd} {H : Hp} {Q : VK} {E : XK} {r : Res RW} (h : PostE G ω H Q (fun _ _ _ => False) (match r with | .ok r S' => .ok r S' | _ => .stuck)) : PostE G ω H Q E r := by
  cases r with
  | ok _ _ => exact h
  | err _ _ => exact h.elim
  | stuck => exact h
theorem postE_mono {G : RC} {ω : Wd} {H : Hp} {Q Q' : VK} {E : XK} {r : Res RW} (h : PostE G ω H Q (fun _ _ _ => False) r) (hq : ∀ v H', Q v H' → Q' v H') : PostE G ω H Q' E r := by
  cases r with
  | ok _ _ => exact fun ω' H' b e le ok r => hq _ _ (h ω' H' b e le ok r)
  | err _ _ => exact fun ω' H' cls d e le ok r => (h ω' H' cls d e le ok r).elim
  | stuck => exact h
theorem onlyS_pre {G : RC} {ω : Wd} {H : Hp} {Q : VK} {E : XK} {f : M RW} (h : PostE G ω H Q E (f.bind onlyS ω.S)) : PostE G ω H (fun v H' => (∃ b, v = .str b) ∧ Q v H') E (f ω.S) := by
  unfold M.bind at h
  cases e : f ω.S with
  | err x S' => rw [e] at h; exact h
  | stuck => rw [e] at h; exact h
  | ok r S' =>
    rw [e] at h
    simp only at h
    unfold onlyS at h
    split at h
    · rename_i b
      intro ω' H' v e1 le ok r
      have r0 : Rep G ω'.F (.str b) v := r
      unfold Rep at r0
      exact ⟨⟨b, r0.1⟩, h ω' H' _ e1 le ok r⟩
    · exact h.elim
theorem onlyL_pre {G : RC} {ω : Wd} {H : Hp} {Q : VK} {E : XK} {f : M RW} (h : PostE G ω H Q E (f.bind onlyL ω.S)) : PostE G ω H (fun v H' => (∃ i, v = .int i ∧ 0 ≤ i ∧ i < 2 ^ 63) ∧ Q v H') E (f ω.S) := by
  unfold M.bind at h
  cases e : f ω.S with
  | err x S' => rw [e] at h; exact h
  | stuck => rw [e] at h; exact h
  | ok r S' =>
    rw [e] at h
    simp only at h
    unfold onlyL at h
    split at h
    · rename_i i
      split at h
      · rename_i hi
        intro ω' H' v e1 le ok r
        have r0 : Rep G ω'.F (.int i) v := r
        unfold Rep at r0
        exact ⟨⟨i, r0, hi.1, hi.2⟩, h ω' H' _ e1 le ok r⟩
      · exact h.elim
    · exact h.elim
def ownStr (tb : List (Str × FnE)) (w : W) : M RW := (mthB tb w []).bind onlyS
theorem callX_str {k : Nat} {tb : List (Str × FnE)} (T : MthOk X.prog X.w X.K X.mg X.base ca "__str__" k tb) (tk : Takes X Wx) (hr : Room (k + 2) X.A) : CallX X ca (.type "str") (ownStr tb) := by
  intro pins s σ H xs us Q I r h
  obtain ⟨ω, w, x, rfl, ok, rx, p⟩ := h
  obtain ⟨u, rfl, ru⟩ := vals1 r
  obtain ⟨C0, ks0, fs0, en, f, a1, dx, ws, h0, hl, rfl, ha, hm, hc⟩ := own_run (Q := fun v H' => (∃ b, v = .str b) ∧ Q v H') T tk (A' := X.A.in1.in1) rfl hr.in1.in1 I ok rx (us := []) (vs := []) rfl ru .nil (postE_mono (E := fun c d H' => Wx c d σ H') (onlyS_pre p) fun _ _ z => z)
  obtain ⟨mA, J, _⟩ := ins_get I.hok ha
  obtain ⟨od, J, _⟩ := J.look
  refine kso_call hr.in1.in1.units0 I.kIn J hm.at_ hm.fn (thn hc fun v s' z => ?_)
  obtain ⟨x', H', I', rv, ⟨b, rfl⟩, q⟩ := z
  obtain ⟨t, rfl⟩ := id rv
  exact ⟨_, H', I', rv, q⟩
def ownLen (tb : List (Str × FnE)) (w : W) : M RW := (mthB tb w []).bind onlyL
theorem callX_len {k : Nat} {tb : List (Str × FnE)} (T : MthOk X.prog X.w X.K X.mg X.base ca "__len__" k tb) (tk : Takes X Wx) (hr : Room (k + 1) X.A) : CallX X ca (.builtin "len") (ownLen tb) := by
  intro pins s σ H xs us Q I r h
  obtain ⟨ω, w, x, rfl, ok, rx, p⟩ := h
  obtain ⟨u, rfl, ru⟩ := vals1 r
  obtain ⟨mm, hF⟩ := I.fr
  obtain ⟨C0, ks0, fs0, en, f, a1, dx, ws, h0, hl, rfl, ha, hm, hc⟩ := own_run (Q := fun v H' => (∃ i, v = .int i ∧ 0 ≤ i ∧ i < 2 ^ 63) ∧ Q v H') T tk (A' := X.A.in1) rfl hr.in1 I ok rx (us := []) (vs := []) rfl ru .nil (postE_mono (E := fun c d H' => Wx c d σ H') (onlyL_pre p) fun _ _ z => z)
  obtain ⟨mA, J, _⟩ := ins_get I.hok ha
  obtain ⟨od, J, _⟩ := J.look
  refine len_K hF I.ok.mod.kin J hm.at_ hm.fn (thn hc fun v s' z => ?_)
  obtain ⟨x', H', I', rv, ⟨i, rfl, h1, h2⟩, q⟩ := z
  obtain ⟨t, rfl⟩ := rv
  exact ⟨⟨h1, h2⟩, .int i, H', I'.tok _, ⟨_, rfl⟩, q⟩
def ownBool (tb : List (Str × FnE)) (w : W) : M RW := (mthB tb w []).bind onlyB
theorem kbo_call {prog : Program} {w : World} {A : Around} {E : Value → Shared → Prop} {s : Shared} {K : Frag} {x C L f : Addr} {h₀ : Heap} {m : PySem.Str → Option Value} {ox : Obj} {od : Option Obj} {Q : Value → Shared → Prop} (F : Fr h₀ L s.heap m) (X₀ : K.In h₀) (I : InstAt s.heap x ox C od)
    (hs : findIn K (.ref C) "__bool__" = some (some (.ref f))) (hf : isFn K (.ref f) = true) (h : wpAny (model prog w) A.in1.in1 (call (.ref f) [.ref x]) (PySem.W.BoolBack fun b => Q (.bool b)) E s) : wpAny (model prog w) A (call (.type "bool") [.ref x]) Q E s := by
  refine callType_codes (T := "bool") (Bi := Builtin.«object.__init__») (Q₁ := fun r s₁ => ∃ b, r = .bool b ∧ Q r s₁) PySem.F.called_bool (PySem.F.typeCall_bool_1 _) PySem.F.entry_object_init ?_ ?_
  · refine codeAny_of_tree ?_
    show wpAny _ A.in1.in1 (do checkBuiltinCall "bool.__new__" ⟨[.type "bool", .ref x], []⟩; again (.builtin "bool.__new__" ⟨[.type "bool", .ref x], []⟩)) _ _ s
    refine wpAny_bind (wpAny_of_eq (PySem.F.newCall_bool_1 _) (wpAny_pure ⟨plainId_quiet (by decide +kernel) _, codeAny_builtin PySem.F.entry_bool_new ?_⟩))
    rw [Around.under_plainId (by decide +kernel) _]
    have f1 := PySem.F.conv_sub_bool
    have key : ∀ {Q' : Bool → Shared → Prop}, (∀ b s', Q (.bool b) s' → Q' b s') → wpAny (model prog w) A.in1.in1 (truthy (.ref x)) Q' E s := fun hq => wpAny_mono (truthy_K F X₀ I hs hf (wpAny_mono h (fun r s₁ hr => hr) fun _ _ y => y)) (fun b s' z => hq b s' z) fun _ _ e => e
    unfold Builtin.«bool.__new__»
    obtain ⟨hp, g, d, tk, os⟩ := s
    repeat (any_goals (first | assumption | (with_reducible refine wpAny_bind (m := truthy (.ref x)) (key fun b s' z => ?_)) | wp_step))
    all_goals first | exact ⟨b, rfl, z⟩ | exact wpAny_pure ⟨b, rfl, z⟩ | skip
  · rintro obj s₁ ⟨b, rfl, hq⟩
    exact ⟨PySem.typeIs_bool _ _, PySem.F.args_object_init_2 _ _, object_init_meets PySem.F.called_bool.init.lookup PySem.F.called_bool.made (by decide) prog w A.in1 _ s₁ ⟨PySem.typeIs_bool _ _, rfl, hq⟩⟩
theorem callX_bool {k : Nat} {tb : List (Str × FnE)} (T : MthOk X.prog X.w X.K X.mg X.base ca "__bool__" k tb) (tk : Takes X Wx) (hr : Room (k + 2) X.A) : CallX X ca (.type "bool") (ownBool tb) := by
  intro pins s σ H xs us Q I r h
  obtain ⟨ω, w, x, rfl, ok, rx, p⟩ := h
  obtain ⟨u, rfl, ru⟩ := vals1 r
  obtain ⟨mm, hF⟩ := I.fr
  obtain ⟨C0, ks0, fs0, en, f, a1, dx, ws, h0, hl, rfl, ha, hm, hc⟩ := own_run (Q := fun v H' => ∃ b, v = .bl b ∧ Q (.bl b) H') T tk (A' := X.A.in1.in1) rfl hr.in1.in1 I ok rx (us := []) (vs := []) rfl ru .nil (postE_mono (E := fun c d H' => Wx c d σ H') (onlyB_pre p) fun _ _ z => z)
  obtain ⟨mA, J, _⟩ := ins_get I.hok ha
  obtain ⟨od, J, _⟩ := J.look
  refine kbo_call hF I.ok.mod.kin J hm.at_ hm.fn (thn hc fun v s' z => ?_)
  obtain ⟨x', H', I', rv, b, rfl, q⟩ := z
  obtain rfl : v = .bool b := rv
  exact ⟨.bl b, H', I', rfl, q⟩
end
end Dn

set_option Elab.async false
set_option linter.all false
set_option maxRecDepth 100000
set_option maxHeartbeats 4000000
/-! # Dn, part S: rules for own methods and operators, what they lean on decided; keyword constants; two tuples in one list -/
namespace Dn
open PySem PySem.Spec L2
section
variable {P : Program} {w : World} {K : PySem.W.Frag} {mg : Str → Option Value} {base : Heap} {ca : CA} {k : Nat}
/-! ### one method -/
def MthAt (P : Program) (w : World) (K : PySem.W.Frag) (mg : Str → Option Value) (base : Heap) (ca : CA) (m C : Str) (en : FnE) : Prop :=
  ∃ f fd ps, Cls K (ca.f C) ∧ Meth K (ca.f C) m f ∧ FnOk P w K mg base (L2.CX P w) en.lvl f fd ps (spOf ⟨K, ca⟩ en.np en.sem) ∧ Binds K fd ps []
theorem mthOk_nil {m : Str} : MthOk P w K mg base ca m k [] := fun _ _ h => nomatch h
theorem mthOk_cons {m C : Str} {en : FnE} {tb : List (Str × FnE)} (h : MthAt P w K mg base ca m C en) (hk : en.lvl ≤ k) (t : MthOk P w K mg base ca m k tb) : MthOk P w K mg base ca m k ((C, en) :: tb) := by
  intro D e hl
  rw [List.lookup_cons] at hl
  cases q : D == C with
  | true =>
    rw [q] at hl
    cases hl
    rw [eq_of_beq q]
    exact ⟨hk, h⟩
  | false => rw [q] at hl; exact t D e hl
theorem meth_of {C m x qual : Str} {params : Arguments} {body : List Stmt} {scope : Scope} {fd : FuncData} {N ps : List Str} {ic : IC} {nm : Str} (F : FunD K x qual params body scope [] [] (He.ma K (He.ga K C) m) fd) (S : FnScope N ps scope)
    (c1 : (He.Fa.cls C).ok K = true) (c2 : (He.Fa.meth C m).ok K = true) (hm : ∀ y ∈ bNames, mg y = none) (hb : Binds K fd ps []) (hc : (ic.chk N scope).b body = true) (hu : ic.uses (fun _ _ => False) (UsK P w K mg base (caK K) k)) :
    MthAt P w K mg base (caK K) m C ⟨nm, ps.length, defS ps.length N.length ic.sem, k + 1⟩ :=
  ⟨_, fd, ps, He.cls_ok c1, He.meth_ok c2, def_fn F S hm rfl hc hu, hb⟩
/-! ### operators of two places -/
def binR (op : Operator) (tb : List (Str × FnE)) : Ru where
  sem := fun a b => op2S (ownB tb) a.e b.e
  chk := fun _ _ ka kb ex => match ex with
    | .BinOp a o b _ => decide (o = op) && ka.e a && kb.e b
    | _ => false
theorem ru_bin {op : Operator} {m : Str} {tb : List (Str × FnE)} (T : MthOk P w K mg base ca m k tb) (O : OpCs K ca op tb) (hn : PySem.dunder op.info.2 = m) : RuK P w K mg base ca k (binR op tb) := by
  intro X N mm Wx b g a c sa sc ex hx
  simp only [binR] at hx
  split at hx
  · simp only [Bool.and_eq_true, decide_eq_true_eq] at hx
    obtain ⟨⟨rfl, h1⟩, h2⟩ := hx
    have T : MthOk X.prog X.w X.K X.mg X.base ca m k tb := by rw [mm.prog, mm.w, mm.K, mm.mg, mm.base]; exact T
    exact tst_of (pe_bin2 (opX_bin hn T (by rw [mm.K]; exact O) g.tk mm.room) (sa.e _ h1) (sc.e _ h2)) ⟨fun _ => rfl, fun _ _ _ z => nomatch z⟩
  · cases hx
def cmp2R (op : CmpOp) (g : W → W → M RW) : Ru where
  sem := fun a b => op2S g a.e b.e
  chk := fun _ _ ka kb ex => match ex with
    | .Compare a [o] [b] _ => decide (o = op) && ka.e a && kb.e b && notSet b
    | _ => false
theorem ru_cmp2 {op : CmpOp} {q : W → W → M RW} (hb : BlX q) (h : ∀ (X : Cx) (N : List Str) (Wx : WX) (b : Bool), InM P w K mg base k X → Good X ca Wx N b → OpX X ca Wx (compareOp op) q) : RuK P w K mg base ca k (cmp2R op q) := by
  intro X N mm Wx b g a c sa sc ex hx
  simp only [cmp2R] at hx
  split at hx
  · simp only [Bool.and_eq_true, decide_eq_true_eq] at hx
    obtain ⟨⟨⟨rfl, h1⟩, h2⟩, h3⟩ := hx
    have z := h X N Wx b mm g
    exact ⟨pe_cmp (pc_cmp2 z (sa.e _ h1) (sc.e _ h2)) (beh_of h3), pt_cmp2 z (sa.e _ h1) (sc.e _ h2) (beh_of h3) hb, fun _ _ _ z => nomatch z⟩
  · cases hx
/-- a comparison by an own method -/
def cmpR (o : CmpOp) (tb : List (Str × FnE)) : Ru := cmp2R o (ownC tb)
theorem ru_cmp {op : CmpOp} {m : Str} {tb : List (Str × FnE)} (T : MthOk P w K mg base ca m k tb) (O : CmpCs K ca tb) (hn : (cmpInfo op).2.1 = m) (ho : ∀ v u, compareOp op v u = richCompare op v u) : RuK P w K mg base ca k (cmpR op tb) :=
  ru_cmp2 blX_own fun X N Wx b mm g => opX_cmp hn ho (by rw [mm.prog, mm.w, mm.K, mm.mg, mm.base]; exact T) (by rw [mm.K]; exact O) g.tk mm.room
/-- .. or on data -/
def cmpGR (o : CO) (tb : List (Str × FnE)) : Ru := cmp2R o.op (orX (ownC tb) fun a b => liftP (liftD (cmpD o)) [a, b])
theorem ru_cmpG {o : CO} {m : Str} {tb : List (Str × FnE)} (T : MthOk P w K mg base ca m k tb) (O : CmpCs K ca tb) (hn : (cmpInfo o.op).2.1 = m) (ho : ∀ v u, compareOp o.op v u = richCompare o.op v u) : RuK P w K mg base ca k (cmpGR o tb) :=
  ru_cmp2 (blX_or blX_own blX_data) fun X N Wx b mm g => opX_or (opX_cmp hn ho (by rw [mm.prog, mm.w, mm.K, mm.mg, mm.base]; exact T) (by rw [mm.K]; exact O) g.tk mm.room) (opX_data (op_cmp g.un o))
def neR (tb : List (Str × FnE)) : Ru := cmp2R .NotEq (ownN tb)
theorem ru_ne {j : Nat} {tb : List (Str × FnE)} (T : MthOk P w K mg base ca "__eq__" j tb) (hj : j + 1 ≤ k) (O : CmpCs K ca tb) (O2 : NeCs K ca tb) : RuK P w K mg base ca k (neR tb) :=
  ru_cmp2 blX_ownN fun X N Wx b mm g => opX_ne (by rw [mm.prog, mm.w, mm.K, mm.mg, mm.base]; exact T) (by rw [mm.K]; exact O) (by rw [mm.K]; exact O2) g.tk (mm.room.mono hj)
def ownInR (ng : Bool) (tb : List (Str × FnE)) : Ru := cmp2R (if ng then .NotIn else .In) (ownIn ng tb)
theorem ru_ownIn {ng : Bool} {tb : List (Str × FnE)} (T : MthOk P w K mg base ca "__contains__" k tb) : RuK P w K mg base ca k (ownInR ng tb) :=
  ru_cmp2 blX_in fun X N Wx b mm g => opX_in (by rw [mm.prog, mm.w, mm.K, mm.mg, mm.base]; exact T) g.tk mm.room
/-! ### str(o), bool(o), len(o) -/
def call1P (g : W → M RW) : Sem := fun ws => match ws with
  | [w] => noErr (g w)
  | _ => fun _ => .stuck
def call1R (nm : Str) (g : W → M RW) : Ru where
  sem := fun _ c => callS (call1P g) c.a
  chk := fun _ sc _ kc ex => match ex with
    | .Call (.Name x _) (e :: es) [] _ => sq nm x && kd sc x .globalImplicit && kc.a (e :: es)
    | _ => false
theorem noErr_pre {G : RC} {ω : Wd} {H : Hp} {Q : VK} {E : XK} {f : M RW} (h : PostE G ω H Q E (noErr f ω.S)) : PostE G ω H Q (fun _ _ _ => False) (f ω.S) := by
  unfold noErr at h
  cases e : f ω.S with
  | ok _ _ => rw [e] at h; exact h
  | err _ _ => rw [e] at h; exact h.elim
  | stuck => rw [e] at h; exact h
theorem ru_call1 {nm : Str} {v : Value} {q : W → M RW} (h0 : nm ∈ bNames) (h1 : bootBuiltins nm = some v) (h2 : nm ≠ "__name__") (h3 : (nm == ("__debug__" : Str)) = false) (hv : ∃ id, v = .type id ∨ v = .builtin id)
    (h : ∀ (X : Cx) (N : List Str) (Wx : WX) (b : Bool), InM P w K mg base k X → Good X ca Wx N b → CallX X ca v q) : RuK P w K mg base ca k (call1R nm q) := by
  intro X N mm Wx b g a c sa sc ex hx
  simp only [call1R] at hx
  split at hx
  · rename_i x p e es pos
    simp only [Bool.and_eq_true] at hx
    obtain ⟨⟨z1, z2⟩, z3⟩ := hx
    cases sq_eq z1
    obtain ⟨y1, y2⟩ := args_star (env := X.env) z3
    have hc := h X N Wx b mm g
    have key : PE X (.Call (.Name nm p) (e :: es) [] pos) (tCB (fun xs H Q => ∃ ω w x, xs = [x] ∧ ω.Ok (GX X ca) H ∧ RepW (GX X ca) ω w x ∧ PostE (GX X ca) ω H Q (fun _ _ _ => False) (q w ω.S)) (tA (GX X ca) Wx c.sem.a)) := by
      obtain ⟨id, rfl | rfl⟩ := hv
      · exact pe_callTy hc (kd_eq z2) (g.blt _ h0) h1 (sc.a _ z3) h2 h3 (star_of y1) (y2 _)
      · exact pe_callB hc (kd_eq z2) (g.blt _ h0) h1 (sc.a _ z3) h2 h3 (star_of y1) (y2 _)
    refine tst_of (peImp key fun σ H Q h => ?_) ⟨fun _ => rfl, fun _ _ _ z => nomatch z⟩
    obtain ⟨ω, env, ok, er, p⟩ := h
    refine tA_mono (bindA ok er p) fun vs H1 ⟨ω1, ws, le1, ok1, r1, er1, p1⟩ => ?_
    unfold call1P at p1
    split at p1
    · rename_i w0
      obtain ⟨v0, us, rfl, r2, r3⟩ := r1
      cases r3
      exact ⟨ω1, w0, v0, rfl, ok1, r2, noErr_pre (PostE.step le1 p1)⟩
    · exact p1.elim
  · cases hx
theorem ru_str {j : Nat} {tb : List (Str × FnE)} (T : MthOk P w K mg base ca "__str__" j tb) (hj : j + 2 ≤ k) : RuK P w K mg base ca k (call1R "str" (ownStr tb)) :=
  ru_call1 (v := .type "str") (by decide) (by decide +kernel) (by decide) (by decide) ⟨_, .inl rfl⟩ fun X N Wx b mm g => callX_str (by rw [mm.prog, mm.w, mm.K, mm.mg, mm.base]; exact T) g.tk (mm.room.mono hj)
theorem ru_boolO {j : Nat} {tb : List (Str × FnE)} (T : MthOk P w K mg base ca "__bool__" j tb) (hj : j + 2 ≤ k) : RuK P w K mg base ca k (call1R "bool" (ownBool tb)) :=
  ru_call1 (v := .type "bool") (by decide) (by decide +kernel) (by decide) (by decide) ⟨_, .inl rfl⟩ fun X N Wx b mm g => callX_bool (by rw [mm.prog, mm.w, mm.K, mm.mg, mm.base]; exact T) g.tk (mm.room.mono hj)
theorem ru_lenO {j : Nat} {tb : List (Str × FnE)} (T : MthOk P w K mg base ca "__len__" j tb) (hj : j + 1 ≤ k) : RuK P w K mg base ca k (call1R "len" (ownLen tb)) :=
  ru_call1 (v := .builtin "len") (by decide) (by decide +kernel) (by decide) (by decide) ⟨_, .inr rfl⟩ fun X N Wx b mm g => callX_len (by rw [mm.prog, mm.w, mm.K, mm.mg, mm.base]; exact T) g.tk (mm.room.mono hj)
/-! ### return NotImplemented: not read -/
def nimR : RuS where
  sem := fun _ _ _ _ _ => fun _ _ => .stuck
  chk := fun _ _ _ _ _ _ _ st => match st with
    | .Return (some (.Name x _)) _ => sq x "NotImplemented"
    | _ => false
theorem rs_nim : RsK P w K mg base ca k nimR := by
  intro X N m Wx g a c d ff fg kf kg sa sc sd _ _ st hx
  refine ⟨fun pins s σ H D I h => ?_⟩
  obtain ⟨ω, env, ok, er, p⟩ := h
  exact p.elim
/-! ### what the operators lean on, decided -/
def opB (K : PySem.W.Frag) (op : Operator) (C : Str) : Bool := PySem.W.selfFirst K (He.ga K C) && (match PySem.W.findIn K (.ref (He.ga K C)) (dunderR op.info.2) with
    | some none => true
    | some (some (.ref _)) => true
    | _ => false) && (PySem.W.findIn K (.type "int") (PySem.dunder op.info.2)).isSome && (PySem.W.findIn K (.type "int") (dunderR op.info.2)).isSome && decide (PySem.W.subIn K (.type "int") (.ref (He.ga K C)) = some false)
theorem opC_of {op : Operator} {C : Str} (c : opB K op C = true) : OpC K (He.ga K C) op := by
  unfold opB at c
  simp only [Bool.and_eq_true, decide_eq_true_eq] at c
  obtain ⟨⟨⟨⟨c1, c2⟩, c3⟩, c4⟩, c5⟩ := c
  refine ⟨c1, ?_, ?_, c5⟩
  · split at c2
    · rename_i e; exact ⟨_, e, .inl rfl⟩
    · rename_i g e; exact ⟨_, e, .inr ⟨g, rfl⟩⟩
    · cases c2
  · obtain ⟨a, ha⟩ := Option.isSome_iff_exists.mp c3
    obtain ⟨b, hb⟩ := Option.isSome_iff_exists.mp c4
    exact ⟨a, b, ha, hb⟩
theorem mem_of_lookup {tb : List (Str × FnE)} {C : Str} {en : FnE} (h : tb.lookup C = some en) : C ∈ tb.map (·.1) := List.mem_map_of_mem (lookup_mem' h)
theorem opCs_of {op : Operator} {tb : List (Str × FnE)} {cs : List Str} (e : tb.map (·.1) = cs) (c : cs.all (opB K op) = true) : OpCs K (caK K) op tb := fun C en hl => opC_of (List.all_eq_true.mp c C (e ▸ mem_of_lookup hl))
def cmpB (K : PySem.W.Frag) (C : Str) : Bool := tyNames.all fun n => decide (PySem.W.subIn K (.type n) (.ref (He.ga K C)) = some false)
theorem cmpCs_of {tb : List (Str × FnE)} {cs : List Str} (e : tb.map (·.1) = cs) (c : cs.all (cmpB K) = true) : CmpCs K (caK K) tb := fun C en hl n hn => of_decide_eq_true (List.all_eq_true.mp (List.all_eq_true.mp c C (e ▸ mem_of_lookup hl)) n hn)
def neB (K : PySem.W.Frag) (C : Str) : Bool := He.eqO (PySem.W.findIn K (.ref (He.ga K C)) "__ne__") (some (some (.builtin "object.__ne__"))) && decide (PySem.W.mroIn K (He.ga K C) (.type "object") = some true)
theorem neCs_of {tb : List (Str × FnE)} {cs : List Str} (e : tb.map (·.1) = cs) (c : cs.all (neB K) = true) : NeCs K (caK K) tb := fun C en hl => by
  have z := List.all_eq_true.mp c C (e ▸ mem_of_lookup hl)
  unfold neB at z
  simp only [Bool.and_eq_true, decide_eq_true_eq] at z
  exact ⟨He.eqO_ok z.1, z.2⟩
end
end Dn

set_option Elab.async false
set_option linter.all false
set_option maxRecDepth 100000
set_option maxHeartbeats 4000000
/-! # Dn, part T: C(.., k = e); [*a, *b]; bool of a list, a tuple -/
namespace Dn
open PySem PySem.Spec L2
/-! ### C(.., k = e) -/
def argsK (fs : AS) (fa : ES) : AS := fun env => (fs env).bind fun ws => (fa env).bind fun y => M.ret (ws ++ [y.toW])
section
variable {X : Cx} {ca : CA} {Wx : WX}
theorem argsK_pre {fs : AS} {fa : ES} {σ : L2.St} {H : Hp} {Q : List V → Hp → Prop} (h : tA (GX X ca) Wx (argsK fs fa) σ H Q) : tA (GX X ca) Wx fs σ H fun vs H1 => tE (GX X ca) Wx fa σ H1 fun y H2 => Q (vs ++ [y]) H2 := by
  obtain ⟨ω, env, ok, er, p⟩ := h
  refine tA_mono (bindA (G := GX X ca) (R := fun ω' _ ws vs => RepWs (GX X ca) ω' ws vs) ok er p) fun vs H1 ⟨ω1, ws, le1, ok1, r1, er1, p1⟩ => ?_
  refine tE_mono (bindW ok1 er1 (Post.step le1 (fun _ _ _ _ z => z) p1)) fun y H2 ⟨ω2, w2, le2, ok2, r2, er2, p2⟩ => ?_
  have p2 := Post.step (R' := fun ω' _ ws vs => RepWs (GX X ca) ω' ws vs) le2 (fun _ _ _ _ z => z) p2
  exact p2 ω2 H2 (vs ++ [y]) rfl (Le.refl _ _ ok2) ok2 (repWs_app (repWs_mono (fun w u z => z.mono le2) r1) ⟨y, [], rfl, r2, rfl⟩)
def NewKOk (P : Program) (w : World) (K : PySem.W.Frag) (mg : Str → Option Value) (base : Heap) (ca : CA) (C k : Str) (g : Sem) (np : Nat) (lvl : Nat) : Prop :=
  ∃ f fd ps n, np = n + 2 ∧ mg C = some (.ref (ca.f C)) ∧ Mk K (ca.f C) f ∧ FnOk P w K mg base (L2.CX P w) lvl f fd ps (spOf ⟨K, ca⟩ np g) ∧ KBn K fd ps (n + 1) [k] (fun us ws => us ++ ws) (fun vs zs => vs ++ zs)
theorem run_newK {C f : Addr} {k n : Nat} {fd : FuncData} {ps : List Str} {key : Str} {sp : Sp} {pins : List (Addr × Obj)} {σ : L2.St} {H : Hp} {s : Shared} {Q : VK} {us ws : List Value} {vs zs : List V} (M : Mk X.K C f) (F : FnOk X.prog X.w X.K X.mg X.base (L2.CX X.prog X.w) k f fd ps sp) (hr : Room (k + 1) X.A)
    (hb : KBn X.K fd ps (n + 1) [key] (fun us ws => us ++ ws) (fun vs zs => vs ++ zs)) (tk : Takes X Wx) (I : Inv X pins σ H s) (r : Vals vs us) (rz : Vals zs ws) (l1 : vs.length = n) (l2 : zs.length = 1)
    (h : ∀ x dx, H x = none → H dx = none → dx ≠ x → sp (.ref x :: (vs ++ zs)) (upd (upd H dx (.own x)) x (.ins C dx [])) (fun v H2 => v = .non ∧ Q (.ref x) H2) (fun c d H' => Wx c d σ H')) :
    wpAny (model X.prog X.w) X.A (call (.ref C) us ([key].zip ws)) (EP X pins σ Q) X.xe s := by
  have hq := h (s.heap.objs.size + 1) s.heap.objs.size (I.hok.fresh (Nat.le_succ _)) (I.hok.fresh (Nat.le_refl _)) (Nat.ne_of_lt (Nat.lt_succ_self _))
  have J := Inv.made (C := C) I
  have r1 : Vals (V.ref (s.heap.objs.size + 1) :: vs) (Value.ref (s.heap.objs.size + 1) :: us) := .cons rfl r
  have n1 : (Value.ref (s.heap.objs.size + 1) :: us).length = n + 1 := by
    rw [List.length_cons, ← r.length, l1]
  refine wpAny_call (make_map (f := f) I.kIn M.makes M.init (beq_iff_eq.mp M.fn) (codeAny_mono (F.run _ X.stack _ _ ⟨Value.ref (s.heap.objs.size + 1) :: us, [key].zip ws⟩ ((Value.ref (s.heap.objs.size + 1) :: us) ++ ws) _ _ _ (hr.make C us ([key].zip ws))
    (J.env0.make C us ([key].zip ws)) (hb.to _ (Value.ref (s.heap.objs.size + 1) :: us) ws J.kIn n1 (rz.length.symm.trans l2)) (hb.rel r1 rz) hq) fun r s1 z => ?_))
  cases r with
  | error e => exact passAt tk σ pins _ _ e s1 J z
  | ok fl =>
    cases fl with
    | ret u =>
      obtain ⟨v, H1, J1, rv, ev, q⟩ := J.after z
      cases ev
      exact ⟨rv, V.ref _, H1, J1, rfl, q⟩
    | _ => exact z.elim
theorem pe_newK {C key : Str} {g : Sem} {np lvl : Nat} {fs : AS} {fa : ES} {e v : Expr} {es : List Expr} {p pos kp : Pos} (N : NewKOk X.prog X.w X.K X.mg X.base ca C key g np lvl) (hr : Room (lvl + 1) X.A) (hg : Gl X C) (tk : Takes X Wx) (ha : PA X (e :: es) (tA (GX X ca) Wx fs)) (hv : PE X v (tE (GX X ca) Wx fa))
    (hl : ∀ env S ws S', fs env S = .ok ws S' → ws.length + 2 = np) (hdb : (C == ("__debug__" : Str)) = false) (he : starEach (e :: es) X.env = (false, eval e X.env) :: starEach es X.env) (hpl : (backTo pos (starEach (e :: es) X.env)).any (·.1) = false) :
    PE X (.Call (.Name C p) (e :: es) [⟨some key, v, kp⟩] pos) (tE (GX X ca) Wx (newF C g [] (argsK fs fa))) := by
  obtain ⟨f, fd, ps, n, hn, hm, Mq, F, hb⟩ := N
  have hl2 : ∀ env S ws S', argsK fs fa env S = .ok ws S' → ws.length + ([] : List D).length + 1 = np := by
    intro env S ws S' e
    unfold argsK M.bind at e
    cases e1 : fs env S with
    | err x S1 => rw [e1] at e; cases e
    | stuck => rw [e1] at e; cases e
    | ok ws1 S1 =>
      rw [e1] at e
      simp only at e
      cases e2 : fa env S1 with
      | err x S1 => rw [e2] at e; cases e
      | stuck => rw [e2] at e; cases e
      | ok y S2 =>
        rw [e2] at e
        cases e
        have := hl _ _ _ _ e1
        simp only [List.length_append, List.length_cons, List.length_nil]
        omega
  refine ⟨fun pins s σ H Q I h => ?_⟩
  have h1 := argsK_pre (new_pre (dvs := []) hl2 (fun _ => Reps.nil) h)
  have h2 : tA (GX X ca) Wx fs σ H fun vs H1 => vs.length = n ∧ tE (GX X ca) Wx fa σ H1 fun y H2 => ∀ x dx, H2 x = none → H2 dx = none → dx ≠ x → spOf (GX X ca) np g (.ref x :: ((vs ++ [y]) ++ [])) (upd (upd H2 dx (.own x)) x (.ins (ca.f C) dx [])) (fun v H3 => v = .non ∧ Q (.ref x) H3) (fun c d H' => Wx c d σ H') := by
    obtain ⟨ω, env, ok, er, p⟩ := h1
    refine ⟨ω, env, ok, er, ?_⟩
    cases e1 : fs env ω.S with
    | err x S' => rw [e1] at p; exact p
    | stuck => rw [e1] at p; exact p
    | ok ws S' =>
      rw [e1] at p
      intro ω1 H1 vs e2 le1 ok1 r1
      refine ⟨?_, p ω1 H1 vs e2 le1 ok1 r1⟩
      have := hl _ _ _ _ e1
      have := RepWs.length r1
      omega
  refine wpAny_Call_Name_kw (ld_glob I hg hm ?_ hdb)
  refine PySem.W.callWith_KW (h₀ := X.base) I.ok.mod.kin Mq.kp rfl (thn (ha.run pos pins s σ H _ I h2) fun us s1 ⟨vs, H1, I1, r, hlen, q⟩ => ?_) (by rw [hpl]; rfl) he
  have hkw : PK X [⟨some key, v, kp⟩] (tCons (tE (GX X ca) Wx fa) tNil) := pk_cons hv pk_nil
  refine thn (hkw.run pos pins s1 σ H1 (fun zs H2 => zs.length = 1 ∧ ∀ x dx, H2 x = none → H2 dx = none → dx ≠ x → spOf (GX X ca) np g (.ref x :: (vs ++ zs)) (upd (upd H2 dx (.own x)) x (.ins (ca.f C) dx [])) (fun v H3 => v = .non ∧ Q (.ref x) H3) (fun c d H' => Wx c d σ H')) I1
    (tE_mono q fun y H2 q2 => ⟨rfl, fun x dx a1 a2 a3 => by have := q2 x dx a1 a2 a3; rwa [List.append_nil] at this⟩)) fun ws s2 ⟨zs, H2, I2, rz, l1, q2⟩ => ⟨I2.kIn, ?_⟩
  exact run_newK Mq F hr hb tk I2 r rz hlen l1 q2
end
def newKR (C k : Str) (fn : FnE) : Ru where
  sem := fun a c => newF C fn.sem [] (argsK c.a a.e)
  chk := fun _ sc ka kc ex => match ex with
    | .Call (.Name x _) (e :: es) [⟨some y, v, _⟩] _ => sq C x && sq k y && kd sc x .globalImplicit && dbg x && kc.a (e :: es) && ka.e v && Nat.beq ((e :: es).length + 2) fn.np
    | _ => false
section
variable {P : Program} {w : World} {K : PySem.W.Frag} {mg : Str → Option Value} {base : Heap} {ca : CA} {k : Nat}
theorem ru_newK {C key : Str} {fn : FnE} (h : NewKOk P w K mg base ca C key fn.sem fn.np fn.lvl) (hk : fn.lvl + 1 ≤ k) : RuK P w K mg base ca k (newKR C key fn) := by
  intro X N m Wx b g a c sa sc ex hx
  simp only [newKR] at hx
  split at hx
  · rename_i x p e es y v kp pos
    simp only [Bool.and_eq_true] at hx
    obtain ⟨⟨⟨⟨⟨⟨h1, h2⟩, h3⟩, h4⟩, h5⟩, h6⟩, h7⟩ := hx
    cases sq_eq h1; cases sq_eq h2
    obtain ⟨z1, z2⟩ := args_star (env := X.env) h5
    have hl := args_len h5
    have h' : NewKOk X.prog X.w X.K X.mg X.base ca C key fn.sem fn.np fn.lvl := by rw [m.prog, m.w, m.K, m.mg, m.base]; exact h
    refine tst_of (pe_newK h' (m.room.mono hk) (kd_eq h3) g.tk (sc.a _ h5) (sa.e _ h6) (fun env S ws S' z => ?_) (dbg_of h4) (star_of z1) (by rw [star_of z1]; exact z2 _)) ⟨fun _ => rfl, fun _ _ _ z => nomatch z⟩
    rw [hl _ _ _ _ z]; exact Nat.eq_of_beq_eq_true h7
  · cases hx
theorem newK_of {C x qual key : Str} {params : Arguments} {body : List Stmt} {scope : Scope} {fd : FuncData} {kwd : List (Str × He.Dv)} {N ps : List Str} {kk n : Nat} {ic : IC}
    (F : FunD K x qual params body scope [] (kwd.map fun q => (q.1, q.2.v K)) (He.ma K (He.ga K C) "__init__") fd) (S : FnScope N ps scope) (gl : mg C = some (.ref (He.ga K C))) (M : (He.Fa.mkr C).ok K = true) (hm : ∀ y ∈ bNames, mg y = none)
    (hn : ps.length = n + 2) (hb : KBn K fd ps (n + 1) [key] (fun us ws => us ++ ws) (fun vs zs => vs ++ zs))
    (hc : (ic.chk N scope).b body = true) (hu : ic.uses (fun _ _ => False) (UsK P w K mg base (caK K) kk)) :
    NewKOk P w K mg base (caK K) C key (defS ps.length N.length ic.sem) ps.length (kk + 1) :=
  ⟨_, fd, ps, n, hn, gl, He.mkr_ok M, def_fn F S hm rfl hc hu, hb⟩
end
/-! ### [*a, *b] -/
def tupM (w : W) : M (List D) := fun S => match view S w with
  | some (.tup xs) => .ok xs S
  | _ => .stuck
def cat2S (fa fb : ES) : ES := fun env => (fa env).bind fun a => (tupM a.toW).bind fun xs => (fb env).bind fun b => (tupM b.toW).bind fun ys => if xs.length + ys.length < sizeLine then M.ret (.own (.lst (xs ++ ys))) else fun _ => .stuck
section
variable {X : Cx} {ca : CA} {Wx : WX} {a b : Expr} {p1 p2 pos : Pos} {fa fb : ES}
theorem tupM_pre {ω ω1 : Wd} {H H1 : Hp} {α β : Type} {R : Wd → Hp → α → β → Prop} {Q : β → Hp → Prop} {E : XK} {w : W} {v : V} {k : List D → M α} (ok : ω1.Ok (GX X ca) H1) (r : RepW (GX X ca) ω1 w v)
    (h : Post (GX X ca) R ω H Q E ((tupM w).bind k ω1.S)) : ∃ xs a ws, v = .ref a ∧ SqT X.K H1 a ws ∧ Reps (GX X ca) ω1.F xs ws ∧ Post (GX X ca) R ω H Q E (k xs ω1.S) := by
  unfold M.bind tupM at h
  cases e : view ω1.S w with
  | none => simp only [e] at h; exact h.elim
  | some d =>
    cases d with
    | tup xs =>
      simp only [e] at h
      obtain ⟨a, ws, h1, h2, h3⟩ := now_tup ok (now_of ok r e)
      exact ⟨xs, a, ws, h1, h2, h3, h⟩
    | _ => simp only [e] at h; exact h.elim
theorem pa_star {e : Expr} {es : List Expr} {p : Pos} {te : TE} {t : TA} (he : PE X e te) (hr : PA X es t) :
    PA X (.Starred e p :: es) (fun σ H Q => te σ H fun x H1 => ∃ a xs, x = .ref a ∧ SqT X.K H1 a xs ∧ t σ H1 fun vs H2 => Q (xs ++ vs) H2) := by
  refine ⟨fun pos pins s σ H Q I h => PySem.W.items_star (thn (he.run pins s σ H _ I h) fun u s1 ⟨x, H1, I1, rx, a, xs, ex, hs, q⟩ => ?_)⟩
  subst ex
  obtain rfl : u = Value.ref a := rx
  refine star_tup I1 hs fun us s2 I2 rv => ?_
  exact thn (hr.run pos pins s2 σ H1 _ I2 q) fun us2 s3 ⟨vs, H2, I3, rv2, q2⟩ => ⟨xs ++ vs, H2, I3, rv.append rv2, q2⟩
theorem pe_cat2 (ha : PE X a (tE (GX X ca) Wx fa)) (hb : PE X b (tE (GX X ca) Wx fb)) : PE X (.List [.Starred a p1, .Starred b p2] pos) (tE (GX X ca) Wx (cat2S fa fb)) := by
  refine peImp (pe_lst (pa_star ha (pa_star hb pa_nil))) fun σ H Q h => ?_
  obtain ⟨ω, env, ok, er, p⟩ := h
  refine tE_mono (bindW ok er p) fun x H1 ⟨ω1, w1, le1, ok1, r1, er1, q1⟩ => ?_
  obtain ⟨xs, a1, ws1, rfl, s1, y1, q1⟩ := tupM_pre ok1 r1 q1
  refine ⟨a1, ws1, rfl, s1, ?_⟩
  refine tE_mono (bindW ok1 er1 (Post.step le1 (rw_after le1) q1)) fun y H2 ⟨ω2, w2, le2, ok2, r2, er2, q2⟩ => ?_
  obtain ⟨ys, a2, ws2, rfl, s2, y2, q2⟩ := tupM_pre ok2 r2 q2
  refine ⟨a2, ws2, rfl, s2, ?_⟩
  have q2 := PostE.step le2 q2
  split at q2
  · rename_i hz
    show (ws1 ++ (ws2 ++ [])).length ≤ sizeLine ∧ _
    have y1' := Reps.mono le2.ext _ _ y1
    refine ⟨by rw [List.append_nil, List.length_append, y1.length, y2.length]; omega, fun q hq => ?_⟩
    rw [List.append_nil]
    exact end_lst ok2 q2 (y1'.append y2) hq
  · exact q2.elim
end
def cat2R : Ru where
  sem := fun a b => cat2S a.e b.e
  chk := fun _ _ ka kb ex => match ex with
    | .List [.Starred a _, .Starred b _] _ => ka.e a && kb.e b
    | _ => false
theorem ru_cat2 {P : Program} {w : World} {K : PySem.W.Frag} {mg : Str → Option Value} {base : Heap} {ca : CA} {k : Nat} : RuK P w K mg base ca k cat2R := by
  intro X N m Wx b g a c sa sc ex hx
  simp only [cat2R] at hx
  split at hx
  · simp only [Bool.and_eq_true] at hx
    exact tst_of (pe_cat2 (sa.e _ hx.1) (sc.e _ hx.2)) ⟨fun _ => rfl, fun _ _ _ z => nomatch z⟩
  · cases hx
end Dn

set_option Elab.async false
set_option linter.all false
set_option maxRecDepth 100000
set_option maxHeartbeats 4000000
/-! # Dn, part U: bool of data; the same body below itself -/
namespace Dn
open PySem PySem.Spec L2
/-- the same body, at another place below -/
def atA (X : Cx) (A' : Around) : Cx := { X with A := A' }
theorem ok_atA {X : Cx} {A' : Around} (h : A'.frames = X.A.frames) (h2 : A'.handled = X.A.handled) (o : X.Ok) : (atA X A').Ok := by
  obtain ⟨⟩ := o
  constructor <;> first | assumption | (show _ = _; simp only [atA, h]; assumption) | (simp only [atA] at *; first | assumption | (rw [h]; assumption) | (rw [h2]; assumption))
theorem inv_atA {X : Cx} {A' : Around} (h : A'.frames = X.A.frames) (h2 : A'.handled = X.A.handled) {pins : List (Addr × Obj)} {σ : L2.St} {H : Hp} {s : Shared} (I : Inv X pins σ H s) : Inv (atA X A') pins σ H s :=
  ⟨ok_atA h h2 I.ok, I.os, I.bare, I.base, I.loc, I.cell, I.free, I.freeC, I.pin, I.hok, I.len⟩
theorem inv_back {X : Cx} {A' : Around} (o : X.Ok) {pins : List (Addr × Obj)} {σ : L2.St} {H : Hp} {s : Shared} (I : Inv (atA X A') pins σ H s) : Inv X pins σ H s :=
  ⟨o, I.os, I.bare, I.base, I.loc, I.cell, I.free, I.freeC, I.pin, I.hok, I.len⟩
open PyProof.Rows in
theorem call_bool_any {prog : Program} {w : World} {A : Around} {E : Value → Shared → Prop} {s : Shared} {x : Value} {Q : Value → Shared → Prop} (h : wpAny (model prog w) A.in1.in1 (truthy x) (fun b s' => Q (.bool b) s') E s) : wpAny (model prog w) A (call (.type "bool") [x]) Q E s := by
  refine callType_codes (T := "bool") (Bi := Builtin.«object.__init__») (Q₁ := fun r s₁ => ∃ b, r = .bool b ∧ Q r s₁) PySem.F.called_bool (PySem.F.typeCall_bool_1 _) PySem.F.entry_object_init ?_ ?_
  · refine codeAny_of_tree ?_
    show wpAny _ A.in1.in1 (do checkBuiltinCall "bool.__new__" ⟨[.type "bool", x], []⟩; again (.builtin "bool.__new__" ⟨[.type "bool", x], []⟩)) _ _ s
    refine wpAny_bind (wpAny_of_eq (PySem.F.newCall_bool_1 _) (wpAny_pure ⟨plainId_quiet (by decide +kernel) _, codeAny_builtin PySem.F.entry_bool_new ?_⟩))
    rw [Around.under_plainId (by decide +kernel) _]
    have f1 := PySem.F.conv_sub_bool
    have key : ∀ {Q' : Bool → Shared → Prop}, (∀ b s', Q (.bool b) s' → Q' b s') → wpAny (model prog w) A.in1.in1 (truthy x) Q' E s := fun hq => wpAny_mono h (fun b s' z => hq b s' z) fun _ _ e => e
    unfold Builtin.«bool.__new__»
    obtain ⟨hp, g, d, tk, os⟩ := s
    repeat (any_goals (first | assumption | (with_reducible refine wpAny_bind (m := truthy x) (key fun b s' z => ?_)) | wp_step))
    all_goals first | exact ⟨b, rfl, z⟩ | exact wpAny_pure ⟨b, rfl, z⟩ | skip
  · rintro obj s₁ ⟨b, rfl, hq⟩
    exact ⟨PySem.typeIs_bool _ _, PySem.F.args_object_init_2 _ _, object_init_meets PySem.F.called_bool.init.lookup PySem.F.called_bool.made (by decide) prog w A.in1 _ s₁ ⟨PySem.typeIs_bool _ _, rfl, hq⟩⟩
theorem tru_at {X : Cx} {A' : Around} (h : A'.frames = X.A.frames) (h2 : A'.handled = X.A.handled) {pins : List (Addr × Obj)} {s : Shared} {σ : L2.St} {H : Hp} {x : V} {v : Value} {Q : Bool → Hp → Prop} (I : Inv X pins σ H s) (r : L2.RelV x v) {k : Bool} (t : TruV X.K x H k) (q : Q k H) :
    wpAny (model X.prog X.w) A' (truthy v) (TP X pins σ Q) X.xe s :=
  thn (tru_ok (X := atA X A') pins s σ H x v Q (inv_atA h h2 I) r ⟨k, t, q⟩) fun b s' ⟨H', I', q'⟩ => ⟨H', inv_back I.ok I', q'⟩
theorem truV_now {X : Cx} {ca : CA} {ω : Wd} {H : Hp} {d : D} {v : V} {k : Bool} (ok : ω.Ok (GX X ca) H) (n : Now (GX X ca) ω H d v) (e2 : truD d = some k) : TruV X.K v H k := by
  cases d with
  | non => cases (now_non n); cases e2; rfl
  | bl b => cases (now_bl n); cases e2; rfl
  | int i => cases (now_int n); cases e2; rfl
  | str s => obtain ⟨rfl, o⟩ := now_str n; cases e2; exact ⟨o.2, rfl⟩
  | lst xs =>
    obtain ⟨p, ws, rfl, h1, h2⟩ := n
    cases e2
    refine .inl ⟨ws, .of h1, ?_⟩
    have := h2.length
    cases ws <;> cases xs <;> simp_all
  | tup xs =>
    obtain ⟨p, ws, rfl, h1, h2⟩ := now_tup ok n
    cases e2
    refine .inr (.inl ⟨ws, h1, ?_⟩)
    have := h2.length
    cases ws <;> cases xs <;> simp_all
  | _ => cases e2
def boolD : DPrim
  | [d] => (truD d).map fun b => .d (.bl b)
  | _ => none
theorem call_boolD {X : Cx} {ca : CA} : CallD X ca (.type "bool") boolD := by
  have h : CallR X (.type "bool") (fun xs H Q => ∃ x k, xs = [x] ∧ TruV X.K x H k ∧ Q (.bl k) H) := by
    intro pins s σ H xs us Q I r h
    obtain ⟨x, k, rfl, t, q⟩ := h
    obtain ⟨u, rfl, ru⟩ := vals1 r
    refine call_bool_any (thn (tru_at (A' := X.A.in1.in1) (Q := fun b H' => Q (.bl b) H') rfl rfl I ru t q) fun b s' ⟨H', I', q'⟩ => ⟨.bl b, H', I', rfl, q'⟩)
  refine callD_of h fun ω H ds vs a Q ok n e p => ?_
  unfold boolD at e
  split at e
  · rename_i d
    obtain ⟨b, e1, e2⟩ := Option.map_eq_some_iff.mp e
    subst e2
    obtain ⟨v, rfl, n1⟩ := nows1 n
    exact ⟨v, b, rfl, truV_now ok n1 e1, end_d ok p (rep_bl _)⟩
  · cases e
def boolG : BltN := ⟨"bool", true, "bool", boolD⟩
theorem boolG_ok : boolG.Ok := ⟨by decide, by decide +kernel, by decide, by decide, fun X ca _ => call_boolD⟩
end Dn

set_option Elab.async false
set_option linter.all false
set_option maxRecDepth 100000
set_option maxHeartbeats 4000000
/-! # Dn, part V: reckoning with own operators, keyword constants, star displays -/
namespace Dn
open PySem PySem.Spec L2
section
variable {S : Store} {env : Env} {P : WP RW} {E : WE} {PA : WP (List W)} {fa fb : ES} {fs : AS}
@[simp] theorem sem_binR {op : Operator} {tb : List (Str × FnE)} {a b : Sx} : (binR op tb).sem a b = op2S (ownB tb) a.e b.e := (rfl)
@[simp] theorem sem_cmpR {op : CmpOp} {tb : List (Str × FnE)} {a b : Sx} : (cmpR op tb).sem a b = op2S (ownC tb) a.e b.e := (rfl)
@[simp] theorem sem_neR {tb : List (Str × FnE)} {a b : Sx} : (neR tb).sem a b = op2S (ownN tb) a.e b.e := (rfl)
@[simp] theorem sem_ownInR {ng : Bool} {tb : List (Str × FnE)} {a b : Sx} : (ownInR ng tb).sem a b = op2S (ownIn ng tb) a.e b.e := (rfl)
@[simp] theorem sem_call1R {nm : Str} {g : W → M RW} {a b : Sx} : (call1R nm g).sem a b = callS (call1P g) b.a := (rfl)
@[simp] theorem sem_newKR {C k : Str} {fn : FnE} {a b : Sx} : (newKR C k fn).sem a b = newF C fn.sem [] (argsK b.a a.e) := (rfl)
@[simp] theorem sem_cat2R {a b : Sx} : cat2R.sem a b = cat2S a.e b.e := (rfl)
@[simp] theorem sem_mthR {m : Str} {tb : List (Str × FnE)} {a b : Sx} : (mthR m tb).sem a b = mthF m tb a.e b.a := (rfl)
@[simp] theorem q_boolG : boolG.q = boolD := (rfl)
@[simp] theorem boolD_ {d : D} : boolD [d] = (truD d).map fun b => .d (.bl b) := (rfl)
def Ko22 (g : W → W → M RW) (a : RW) (P : WP RW) (E : WE) : WP RW := fun b S => T (g a.toW b.toW S) P E
def Ko21 (g : W → W → M RW) (fb : ES) (env : Env) (P : WP RW) (E : WE) : WP RW := fun a S => T (fb env S) (Ko22 g a P E) E
@[simp] theorem T_op2 {g : W → W → M RW} : T (op2S g fa fb env S) P E = T (fa env S) (Ko21 g fb env P E) E := by
  unfold op2S
  rw [T_bind]
  congr 1
  funext a S'
  exact T_bind
@[simp] theorem Ko21_ {g : W → W → M RW} {a : RW} : Ko21 g fb env P E a S = T (fb env S) (Ko22 g a P E) E := (rfl)
@[simp] theorem Ko22_ {g : W → W → M RW} {a b : RW} : Ko22 g a P E b S = T (g a.toW b.toW S) P E := (rfl)
def Kak2 (ws : List W) (PA : WP (List W)) : WP RW := fun y S => PA (ws ++ [y.toW]) S
def Kak1 (fa : ES) (env : Env) (PA : WP (List W)) (E : WE) : WP (List W) := fun ws S => T (fa env S) (Kak2 ws PA) E
@[simp] theorem T_argsK : T (argsK fs fa env S) PA E = T (fs env S) (Kak1 fa env PA E) E := by
  unfold argsK
  rw [T_bind]
  congr 1
  funext ws S'
  exact T_bind
@[simp] theorem Kak1_ {ws : List W} : Kak1 fa env PA E ws S = T (fa env S) (Kak2 ws PA) E := (rfl)
@[simp] theorem Kak2_ {ws : List W} {y : RW} : Kak2 ws PA y S = PA (ws ++ [y.toW]) S := (rfl)
/-! two tuples in a list -/
def tupO : Option D → (List D → Prop) → Prop
  | some (.tup xs), p => p xs
  | _, _ => False
@[simp] theorem tupO_ {xs : List D} {p : List D → Prop} : tupO (some (.tup xs)) p = p xs := (rfl)
theorem T_tupM {α : Type} {w : W} {k : List D → M α} {Q : WP α} : T (((tupM w).bind k) S) Q E = tupO (view S w) fun xs => T (k xs S) Q E := by
  unfold tupM M.bind
  cases e : view S w with
  | none => simp only [e]; rfl
  | some d => cases d <;> simp only [e] <;> rfl
def Kct2 (xs : List D) (P : WP RW) : WP RW := fun b S => tupO (view S b.toW) fun ys => xs.length + ys.length < sizeLine ∧ P (.own (.lst (xs ++ ys))) S
def Kct1 (fb : ES) (env : Env) (P : WP RW) (E : WE) : WP RW := fun a S => tupO (view S a.toW) fun xs => T (fb env S) (Kct2 xs P) E
@[simp] theorem T_cat2 : T (cat2S fa fb env S) P E = T (fa env S) (Kct1 fb env P E) E := by
  unfold cat2S
  rw [T_bind]
  congr 1
  funext a S'
  rw [T_tupM]
  unfold Kct1
  congr 1
  funext xs
  rw [T_bind]
  congr 1
  funext b S2
  rw [T_tupM]
  unfold Kct2
  congr 1
  funext ys
  by_cases h : xs.length + ys.length < sizeLine
  · rw [if_pos h]; simp [h]; rfl
  · rw [if_neg h]; simp only [h, false_and]; exact eq_false fun z => z
@[simp] theorem Kct1_ {a : RW} : Kct1 fb env P E a S = tupO (view S a.toW) fun xs => T (fb env S) (Kct2 xs P) E := (rfl)
@[simp] theorem Kct2_ {xs : List D} {b : RW} : Kct2 xs P b S = tupO (view S b.toW) fun ys => xs.length + ys.length < sizeLine ∧ P (.own (.lst (xs ++ ys))) S := (rfl)
/-! own methods -/
theorem T_mthB {C : Str} {en : FnE} {tb : List (Str × FnE)} {w : W} {us : List W} {ks : List Str} {vs : List D} (h : view S w = some (.ins C ks vs)) (hl : tb.lookup C = some en) (hn : us.length + 1 = en.np) (hs : T (en.sem (w :: us) S) P E) : T (mthB tb w us S) P E := by
  unfold mthB
  simp only [h, hl, hn, if_true]
  exact hs
theorem T_ownB {C C' : Str} {tb : List (Str × FnE)} {a b : W} {ks ks' : List Str} {vs vs' : List D} (h : view S a = some (.ins C ks vs)) (h2 : view S b = some (.ins C' ks' vs')) (hc : C = C') (hs : T (mthB tb a [b] S) P E) : T (ownB tb a b S) P E := by
  unfold ownB
  simp only [h, h2, hc, if_true]
  exact hs
theorem T_ownBi {C : Str} {tb : List (Str × FnE)} {a b : W} {ks : List Str} {vs : List D} {i : Int} (h : view S a = some (.ins C ks vs)) (h2 : view S b = some (.int i)) (hs : T (mthB tb a [b] S) P E) : T (ownB tb a b S) P E := by
  unfold ownB
  simp only [h, h2]
  exact hs
def KonB (P : WP RW) (E : WE) : WP RW := fun r S => T (onlyB r S) P E
@[simp] theorem KonB_ {b : Bool} : KonB P E (.d (.bl b)) S = P (.d (.bl b)) S := (rfl)
def KntB (P : WP RW) (E : WE) : WP RW := fun r S => T (notB r S) P E
@[simp] theorem KntB_ {b : Bool} : KntB P E (.d (.bl b)) S = P (.d (.bl (!b))) S := (rfl)
theorem T_ownC {C : Str} {tb : List (Str × FnE)} {a b : W} {ks : List Str} {vs : List D} (h : view S a = some (.ins C ks vs)) (hr : rightB C (view S b) = true) (hs : T (mthB tb a [b] S) (KonB P E) E) : T (ownC tb a b S) P E := by
  unfold ownC
  simp only [h, hr, if_true]
  rw [T_bind]
  exact hs
theorem T_ownN {C : Str} {tb : List (Str × FnE)} {a b : W} {ks : List Str} {vs : List D} (h : view S a = some (.ins C ks vs)) (hr : rightB C (view S b) = true) (hs : T (mthB tb a [b] S) (KntB P E) E) : T (ownN tb a b S) P E := by
  unfold ownN
  simp only [h, hr, if_true]
  rw [T_bind]
  exact hs
theorem T_ownIn {C : Str} {ng : Bool} {tb : List (Str × FnE)} {a b : W} {ks : List Str} {vs : List D} (h : view S b = some (.ins C ks vs)) (hs : T (mthB tb b [a] S) (if ng then KntB P E else KonB P E) E) : T (ownIn ng tb a b S) P E := by
  unfold ownIn
  simp only [h]
  rw [T_bind]
  cases ng <;> exact hs
theorem T_noErr {f : M RW} (h : T (f S) P noE) : T (noErr f S) P E := by
  unfold noErr
  cases e : f S with
  | ok r S' => rw [e] at h; exact h
  | err x S' => rw [e] at h; exact h.elim
  | stuck => rw [e] at h; exact h
def KonS (P : WP RW) (E : WE) : WP RW := fun r S => T (onlyS r S) P E
@[simp] theorem KonS_ {b : Str} : KonS P E (.d (.str b)) S = P (.d (.str b)) S := (rfl)
theorem T_call1 {g : W → M RW} {w : W} (h : T (g w S) P noE) : T (call1P g [w] S) P E := T_noErr h
theorem T_ownStr {tb : List (Str × FnE)} {w : W} (hs : T (mthB tb w [] S) (KonS P noE) noE) : T (call1P (ownStr tb) [w] S) P E := T_call1 (by unfold ownStr; rw [T_bind]; exact hs)
theorem T_ownBool {tb : List (Str × FnE)} {w : W} (hs : T (mthB tb w [] S) (KonB P noE) noE) : T (call1P (ownBool tb) [w] S) P E := T_call1 (by unfold ownBool; rw [T_bind]; exact hs)
end
end Dn

set_option maxHeartbeats 0
set_option maxRecDepth 100000
namespace LawP
open PySem PySem.Spec PyProof.Rows L2 Dn
def top (i : Nat) : Stmt := PySem.Challenge.pw_samealone_k12_whole_sizes_are_sets.main.body.getD i (.Pass ⟨0, 0, 0, 0⟩)
def mtop (i j : Nat) : Stmt := match top i with
  | .ClassDef _ _ _ b _ _ _ _ _ _ _ => b.getD j (.Pass ⟨0, 0, 0, 0⟩)
  | _ => .Pass ⟨0, 0, 0, 0⟩
def d__law_state : He.DefD := ⟨("_law_state", none), "_law_state", "_law_state", defArgs (top 21), defBody (top 21), defScope (top 21), [], []⟩
def d__law_draw : He.DefD := ⟨("_law_draw", none), "_law_draw", "_law_draw", defArgs (top 22), defBody (top 22), defScope (top 22), [], []⟩
def d__law_list : He.DefD := ⟨("_law_list", none), "_law_list", "_law_list", defArgs (top 27), defBody (top 27), defScope (top 27), [], []⟩
def d__law_integer : He.DefD := ⟨("_law_integer", none), "_law_integer", "_law_integer", defArgs (top 32), defBody (top 32), defScope (top 32), [], []⟩
def d_larger : He.DefD := ⟨("larger", none), "larger", "larger", defArgs (top 9), defBody (top 9), defScope (top 9), [], []⟩
def d_furthest : He.DefD := ⟨("furthest", none), "furthest", "furthest", defArgs (top 12), defBody (top 12), defScope (top 12), [], []⟩
def d_merged_ranges : He.DefD := ⟨("merged_ranges", none), "merged_ranges", "merged_ranges", defArgs (top 14), defBody (top 14), defScope (top 14), [], []⟩
def d_check_range : He.DefD := ⟨("check_range", none), "check_range", "check_range", defArgs (top 15), defBody (top 15), defScope (top 15), [], []⟩
def d_Sizes_____init__ : He.DefD := ⟨("Sizes", some "__init__"), "__init__", "Sizes.__init__", defArgs (mtop 19 0), defBody (mtop 19 0), defScope (mtop 19 0), [], [("checked", .bl true)]⟩
def d__law_in : He.DefD := ⟨("_law_in", none), "_law_in", "_law_in", defArgs (top 25), defBody (top 25), defScope (top 25), [], []⟩
def d__law_alike : He.DefD := ⟨("_law_alike", none), "_law_alike", "_law_alike", defArgs (top 23), defBody (top 23), defScope (top 23), [], []⟩
def d__law_is_sizes : He.DefD := ⟨("_law_is_sizes", none), "_law_is_sizes", "_law_is_sizes", defArgs (top 24), defBody (top 24), defScope (top 24), [], []⟩
def d__law_tidy : He.DefD := ⟨("_law_tidy", none), "_law_tidy", "_law_tidy", defArgs (top 28), defBody (top 28), defScope (top 28), [], []⟩
def d_Sizes_____contains__ : He.DefD := ⟨("Sizes", some "__contains__"), "__contains__", "Sizes.__contains__", defArgs (mtop 19 6), defBody (mtop 19 6), defScope (mtop 19 6), [], []⟩
def d_Sizes_____bool__ : He.DefD := ⟨("Sizes", some "__bool__"), "__bool__", "Sizes.__bool__", defArgs (mtop 19 5), defBody (mtop 19 5), defScope (mtop 19 5), [], []⟩
def d__law_agrees : He.DefD := ⟨("_law_agrees", none), "_law_agrees", "_law_agrees", defArgs (top 29), defBody (top 29), defScope (top 29), [], []⟩
def d_Sizes_____or__ : He.DefD := ⟨("Sizes", some "__or__"), "__or__", "Sizes.__or__", defArgs (mtop 19 8), defBody (mtop 19 8), defScope (mtop 19 8), [], []⟩
def d_nearest : He.DefD := ⟨("nearest", none), "nearest", "nearest", defArgs (top 13), defBody (top 13), defScope (top 13), [], []⟩
def d_Sizes_____and__ : He.DefD := ⟨("Sizes", some "__and__"), "__and__", "Sizes.__and__", defArgs (mtop 19 7), defBody (mtop 19 7), defScope (mtop 19 7), [], []⟩
def d_Sizes_____eq__ : He.DefD := ⟨("Sizes", some "__eq__"), "__eq__", "Sizes.__eq__", defArgs (mtop 19 15), defBody (mtop 19 15), defScope (mtop 19 15), [], []⟩
def d_Sizes_____gt__ : He.DefD := ⟨("Sizes", some "__gt__"), "__gt__", "Sizes.__gt__", defArgs (mtop 19 14), defBody (mtop 19 14), defScope (mtop 19 14), [], []⟩
def d_Sizes_____ge__ : He.DefD := ⟨("Sizes", some "__ge__"), "__ge__", "Sizes.__ge__", defArgs (mtop 19 13), defBody (mtop 19 13), defScope (mtop 19 13), [], []⟩
def d_Sizes_____lt__ : He.DefD := ⟨("Sizes", some "__lt__"), "__lt__", "Sizes.__lt__", defArgs (mtop 19 12), defBody (mtop 19 12), defScope (mtop 19 12), [], []⟩
def d_Sizes_____le__ : He.DefD := ⟨("Sizes", some "__le__"), "__le__", "Sizes.__le__", defArgs (mtop 19 11), defBody (mtop 19 11), defScope (mtop 19 11), [], []⟩
def d__law_pair : He.DefD := ⟨("_law_pair", none), "_law_pair", "_law_pair", defArgs (top 30), defBody (top 30), defScope (top 30), [], []⟩
def d__law_merged : He.DefD := ⟨("_law_merged", none), "_law_merged", "_law_merged", defArgs (top 26), defBody (top 26), defScope (top 26), [], []⟩
def d_Sizes_____lshift__ : He.DefD := ⟨("Sizes", some "__lshift__"), "__lshift__", "Sizes.__lshift__", defArgs (mtop 19 10), defBody (mtop 19 10), defScope (mtop 19 10), [], []⟩
def d_Sizes_____rshift__ : He.DefD := ⟨("Sizes", some "__rshift__"), "__rshift__", "Sizes.__rshift__", defArgs (mtop 19 9), defBody (mtop 19 9), defScope (mtop 19 9), [], []⟩
def d_range_text : He.DefD := ⟨("range_text", none), "range_text", "range_text", defArgs (top 18), defBody (top 18), defScope (top 18), [], []⟩
def d_Sizes_____str__ : He.DefD := ⟨("Sizes", some "__str__"), "__str__", "Sizes.__str__", defArgs (mtop 19 4), defBody (mtop 19 4), defScope (mtop 19 4), [], []⟩
def d__law_sets : He.DefD := ⟨("_law_sets", none), "_law_sets", "_law_sets", defArgs (top 31), defBody (top 31), defScope (top 31), [], []⟩
def d_law : He.DefD := ⟨("law", none), "law", "law", defArgs (top 33), defBody (top 33), defScope (top 33), [], []⟩
def fn : List He.DefD := [d__law_state, d__law_draw, d__law_list, d__law_integer, d_larger, d_furthest, d_merged_ranges, d_check_range, d_Sizes_____init__, d__law_in, d__law_alike, d__law_is_sizes, d__law_tidy, d_Sizes_____contains__, d_Sizes_____bool__, d__law_agrees, d_Sizes_____or__, d_nearest, d_Sizes_____and__, d_Sizes_____eq__, d_Sizes_____gt__, d_Sizes_____ge__, d_Sizes_____lt__, d_Sizes_____le__, d__law_pair, d__law_merged, d_Sizes_____lshift__, d_Sizes_____rshift__, d_range_text, d_Sizes_____str__, d__law_sets, d_law]
def fa : List He.Fa := [.glo "_law_state", .glo "_law_draw", .glo "_law_list", .glo "_law_integer", .glo "larger", .glo "furthest", .glo "merged_ranges", .glo "check_range", .glo "Sizes", .glo "_law_in", .glo "_law_alike", .glo "_law_is_sizes", .glo "_law_tidy", .glo "Sizes", .glo "Sizes", .glo "_law_agrees", .glo "Sizes", .glo "nearest", .glo "Sizes", .glo "Sizes", .glo "Sizes", .glo "Sizes", .glo "Sizes", .glo "Sizes", .glo "_law_pair", .glo "_law_merged", .glo "Sizes", .glo "Sizes", .glo "range_text", .glo "Sizes", .glo "_law_sets", .glo "law", .str "DIGITS" "0123456789", .int "MOST_SIZE" 99, .mkr "Sizes", .cls "Sizes", .meth "Sizes" "__contains__", .cls "Sizes", .meth "Sizes" "__bool__", .cls "Sizes", .meth "Sizes" "__or__", .cls "Sizes", .meth "Sizes" "__and__", .cls "Sizes", .meth "Sizes" "__eq__", .cls "Sizes", .meth "Sizes" "__gt__", .cls "Sizes", .meth "Sizes" "__ge__", .cls "Sizes", .meth "Sizes" "__lt__", .cls "Sizes", .meth "Sizes" "__le__", .cls "Sizes", .meth "Sizes" "__lshift__", .cls "Sizes", .meth "Sizes" "__rshift__", .cls "Sizes", .meth "Sizes" "__str__", .free "len", .free "list", .free "tuple", .free "int", .free "str", .free "all", .free "any", .free "range", .free "isinstance", .free "bool", .free "set", .free "sorted", .free "zip", .free "enumerate", .free "reversed", .free "max", .free "min", .free "sum", .free "super"]
def exs (K : PySem.W.Frag) : List Bool := [fldB K ["Sizes"] "ranges", iscB K "Sizes" [("Sizes", true)], excNB K "BadSizes", (["Sizes"] : List Str).all (opB K .LShift), (["Sizes"] : List Str).all (opB K .RShift), (["Sizes"] : List Str).all (cmpB K), (["Sizes"] : List Str).all (neB K), (["Sizes"] : List Str).all (opB K .BitOr), (["Sizes"] : List Str).all (opB K .BitAnd)]
def ex (K : PySem.W.Frag) : Bool := (exs K).all id
abbrev R : PySem.W.OpenRow := PySem.W.OpenLaw.row PySem.Challenge.rw_samealone_k12_whole_sizes_are_sets
abbrev hk : PySem.W.Hook := hookN 5 fa fn ex
def ob (s : PySem.W.SharedT) : He.AlD × Bool := obsN 5 fa fn ex (HandSHeadRun.getT s)
theorem ob_eq (s : PySem.W.SharedT) : ob s = hk.obs s.abs := obsN_eq (HandSHeadRun.getT_eq s)
def loose : List PySem.Str := [("_wall" : PySem.Str), ("SamealoneError" : PySem.Str), ("ReadingError" : PySem.Str), ("BadSizes" : PySem.Str), ("DIGITS" : PySem.Str), ("only_of" : PySem.Str), ("larger" : PySem.Str), ("MOST_SIZE" : PySem.Str), ("furthest" : PySem.Str), ("nearest" : PySem.Str), ("merged_ranges" : PySem.Str), ("check_range" : PySem.Str), ("read_number" : PySem.Str), ("read_range" : PySem.Str), ("range_text" : PySem.Str), ("Sizes" : PySem.Str), ("_law_state" : PySem.Str), ("_law_draw" : PySem.Str), ("_law_alike" : PySem.Str), ("_law_is_sizes" : PySem.Str), ("_law_in" : PySem.Str), ("_law_merged" : PySem.Str), ("_law_list" : PySem.Str), ("_law_tidy" : PySem.Str), ("_law_agrees" : PySem.Str), ("_law_pair" : PySem.Str), ("_law_sets" : PySem.Str), ("_law_integer" : PySem.Str)]
theorem run (w : World) : HandSHeadRun.RunEq R (PySem.W.view R.prog [33]) hk ob 100000 loose w := by
  intro os
  kernel_rfl
section
variable {w : World} {K : PySem.W.Frag} {mg : PySem.Str → Option Value} {base h : Heap}
theorem ex_at (e : ex K = true) (i : Nat) {b : Bool} (h : (exs K)[i]? = some b) : b = true := (List.all_eq_true.mp e) b (List.mem_of_getElem? h)
theorem ex_0 (e : ex K = true) : fldB K ["Sizes"] "ranges" = true := ex_at e 0 rfl
theorem ex_1 (e : ex K = true) : iscB K "Sizes" [("Sizes", true)] = true := ex_at e 1 rfl
theorem ex_2 (e : ex K = true) : excNB K "BadSizes" = true := ex_at e 2 rfl
theorem ex_3 (e : ex K = true) : (["Sizes"] : List Str).all (opB K .LShift) = true := ex_at e 3 rfl
theorem ex_4 (e : ex K = true) : (["Sizes"] : List Str).all (opB K .RShift) = true := ex_at e 4 rfl
theorem ex_5 (e : ex K = true) : (["Sizes"] : List Str).all (cmpB K) = true := ex_at e 5 rfl
theorem ex_6 (e : ex K = true) : (["Sizes"] : List Str).all (neB K) = true := ex_at e 6 rfl
theorem ex_7 (e : ex K = true) : (["Sizes"] : List Str).all (opB K .BitOr) = true := ex_at e 7 rfl
theorem ex_8 (e : ex K = true) : (["Sizes"] : List Str).all (opB K .BitAnd) = true := ex_at e 8 rfl
theorem bn (X : K.In h) (G : h.Ns mainGlobals mg) (c : He.SaysD fa fn K) : ∀ y ∈ bNames, mg y = none := by
  intro y hy
  simp only [bNames, List.mem_cons, List.not_mem_nil, or_false] at hy
  rcases hy with rfl | rfl | rfl | rfl | rfl | rfl | rfl | rfl | rfl | rfl | rfl | rfl | rfl | rfl | rfl | rfl | rfl | rfl
  · exact He.free_ok X G (c.fact 59 (f := .free "len") rfl)
  · exact He.free_ok X G (c.fact 60 (f := .free "list") rfl)
  · exact He.free_ok X G (c.fact 61 (f := .free "tuple") rfl)
  · exact He.free_ok X G (c.fact 62 (f := .free "int") rfl)
  · exact He.free_ok X G (c.fact 63 (f := .free "str") rfl)
  · exact He.free_ok X G (c.fact 64 (f := .free "all") rfl)
  · exact He.free_ok X G (c.fact 65 (f := .free "any") rfl)
  · exact He.free_ok X G (c.fact 66 (f := .free "range") rfl)
  · exact He.free_ok X G (c.fact 67 (f := .free "isinstance") rfl)
  · exact He.free_ok X G (c.fact 68 (f := .free "bool") rfl)
  · exact He.free_ok X G (c.fact 69 (f := .free "set") rfl)
  · exact He.free_ok X G (c.fact 70 (f := .free "sorted") rfl)
  · exact He.free_ok X G (c.fact 71 (f := .free "zip") rfl)
  · exact He.free_ok X G (c.fact 72 (f := .free "enumerate") rfl)
  · exact He.free_ok X G (c.fact 73 (f := .free "reversed") rfl)
  · exact He.free_ok X G (c.fact 74 (f := .free "max") rfl)
  · exact He.free_ok X G (c.fact 75 (f := .free "min") rfl)
  · exact He.free_ok X G (c.fact 76 (f := .free "sum") rfl)
theorem g_DIGITS (X : K.In h) (G : h.Ns mainGlobals mg) (c : He.SaysD fa fn K) (e : ex K = true) : GlobK K mg (caK K) "DIGITS" (.str "0123456789") := glob_str (He.str_ok X G (c.fact 32 (f := .str "DIGITS" "0123456789") rfl)) (by decide +kernel)
theorem g_MOST_SIZE (X : K.In h) (G : h.Ns mainGlobals mg) (c : He.SaysD fa fn K) (e : ex K = true) : GlobK K mg (caK K) "MOST_SIZE" (.int 99) := glob_int (He.int_ok X G (c.fact 33 (f := .int "MOST_SIZE" 99) rfl))
end
def I__law_state : IC := .cons (.ret (.lst (.cons (.blt .list (.cons (.var 0) .nil)) (.cons (.cst (.int 0)) (.cons (.cst (.int 0)) (.cons (.cst (.int 0)) (.cons (.cst (.int 0)) .nil))))))) .nil
@[simp] theorem s__law_state {env : Dn.Env} {S : Store} {Z : En} : Dn.TS ((I__law_state).sem env S) Z = Dn.TS (IC.sem (.ret (.lst (.cons (.blt .list (.cons (.var 0) .nil)) (.cons (.cst (.int 0)) (.cons (.cst (.int 0)) (.cons (.cst (.int 0)) (.cons (.cst (.int 0)) .nil))))))) env S) (Z.sq (.nil : IC).sem) := by rw [I__law_state]; exact TS_sq
def F__law_state : FnE := ⟨"_law_state", 1, defS 1 1 I__law_state.sem, 1⟩
theorem T__law_state {w0 : W} {S : Store} {P : RW → Store → Prop} {E : Exn → Store → Prop} (h : Dn.TS (I__law_state.sem [some w0] S) (EnD S.length P E)) : Dn.T ((F__law_state).sem [w0] S) P E := Dn.T_def (np := 1) (nN := 1) (f := I__law_state.sem) (ws := [w0]) rfl h
theorem sc__law_state : FnScope ["_law_script"] ["_law_script"] (defScope (top 21)) := ⟨rfl, rfl, rfl, by decide +kernel, rfl, by decide +kernel, by decide +kernel⟩
theorem ck__law_state : (I__law_state.chk ["_law_script"] (defScope (top 21))).b (defBody (top 21)) = true := by kernel_rfl
def I__law_draw_b2_1 : IC := .cons (.sto (.var 0) (.cst (.int 4)) (.cst (.int 6))) .nil
@[simp] theorem s__law_draw_b2_1 {env : Dn.Env} {S : Store} {Z : En} : Dn.TS ((I__law_draw_b2_1).sem env S) Z = Dn.TS (IC.sem (.sto (.var 0) (.cst (.int 4)) (.cst (.int 6))) env S) (Z.sq (.nil : IC).sem) := by rw [I__law_draw_b2_1]; exact TS_sq
def I__law_draw_b2 : IC := .cons (.sto (.var 0) (.cst (.int 3)) (.var 2)) I__law_draw_b2_1
@[simp] theorem s__law_draw_b2 {env : Dn.Env} {S : Store} {Z : En} : Dn.TS ((I__law_draw_b2).sem env S) Z = Dn.TS (IC.sem (.sto (.var 0) (.cst (.int 3)) (.var 2)) env S) (Z.sq (I__law_draw_b2_1 : IC).sem) := by rw [I__law_draw_b2]; exact TS_sq
def I__law_draw_b1_3 : IC := .cons (.ife (.cmp .ge (.var 2) (.bin .pow (.cst (.int 10)) (.cst (.int 18)))) (.cons (.sto (.var 0) (.cst (.int 2)) (.var 2)) .nil) I__law_draw_b2) .nil
@[simp] theorem s__law_draw_b1_3 {env : Dn.Env} {S : Store} {Z : En} : Dn.TS ((I__law_draw_b1_3).sem env S) Z = Dn.TS (IC.sem (.ife (.cmp .ge (.var 2) (.bin .pow (.cst (.int 10)) (.cst (.int 18)))) (.cons (.sto (.var 0) (.cst (.int 2)) (.var 2)) .nil) I__law_draw_b2) env S) (Z.sq (.nil : IC).sem) := by rw [I__law_draw_b1_3]; exact TS_sq
def I__law_draw_b1_2 : IC := .cons (.ife (.cmp .lt (.var 2) (.cst (.int 0))) (.cons (.set 2 false (.bin .sub (.cst (.int 1)) (.bin .mul (.cst (.int 2)) (.var 2)))) .nil) .nil) I__law_draw_b1_3
@[simp] theorem s__law_draw_b1_2 {env : Dn.Env} {S : Store} {Z : En} : Dn.TS ((I__law_draw_b1_2).sem env S) Z = Dn.TS (IC.sem (.ife (.cmp .lt (.var 2) (.cst (.int 0))) (.cons (.set 2 false (.bin .sub (.cst (.int 1)) (.bin .mul (.cst (.int 2)) (.var 2)))) .nil) .nil) env S) (Z.sq (I__law_draw_b1_3 : IC).sem) := by rw [I__law_draw_b1_2]; exact TS_sq
def I__law_draw_b1_1 : IC := .cons (.sto (.var 0) (.cst (.int 1)) (.bin .add (.ix (.var 0) (.cst (.int 1))) (.cst (.int 1)))) I__law_draw_b1_2
@[simp] theorem s__law_draw_b1_1 {env : Dn.Env} {S : Store} {Z : En} : Dn.TS ((I__law_draw_b1_1).sem env S) Z = Dn.TS (IC.sem (.sto (.var 0) (.cst (.int 1)) (.bin .add (.ix (.var 0) (.cst (.int 1))) (.cst (.int 1)))) env S) (Z.sq (I__law_draw_b1_2 : IC).sem) := by rw [I__law_draw_b1_1]; exact TS_sq
def I__law_draw_b1 : IC := .cons (.set 2 false (.ix (.ix (.var 0) (.cst (.int 0))) (.ix (.var 0) (.cst (.int 1))))) I__law_draw_b1_1
@[simp] theorem s__law_draw_b1 {env : Dn.Env} {S : Store} {Z : En} : Dn.TS ((I__law_draw_b1).sem env S) Z = Dn.TS (IC.sem (.set 2 false (.ix (.ix (.var 0) (.cst (.int 0))) (.ix (.var 0) (.cst (.int 1))))) env S) (Z.sq (I__law_draw_b1_1 : IC).sem) := by rw [I__law_draw_b1]; exact TS_sq
def I__law_draw_b3_2 : IC := .cons (.ret (.var 3)) .nil
@[simp] theorem s__law_draw_b3_2 {env : Dn.Env} {S : Store} {Z : En} : Dn.TS ((I__law_draw_b3_2).sem env S) Z = Dn.TS (IC.sem (.ret (.var 3)) env S) (Z.sq (.nil : IC).sem) := by rw [I__law_draw_b3_2]; exact TS_sq
def I__law_draw_b3_1 : IC := .cons (.sto (.var 0) (.cst (.int 2)) (.bin .fdiv (.ix (.var 0) (.cst (.int 2))) (.var 1))) I__law_draw_b3_2
@[simp] theorem s__law_draw_b3_1 {env : Dn.Env} {S : Store} {Z : En} : Dn.TS ((I__law_draw_b3_1).sem env S) Z = Dn.TS (IC.sem (.sto (.var 0) (.cst (.int 2)) (.bin .fdiv (.ix (.var 0) (.cst (.int 2))) (.var 1))) env S) (Z.sq (I__law_draw_b3_2 : IC).sem) := by rw [I__law_draw_b3_1]; exact TS_sq
def I__law_draw_b3 : IC := .cons (.set 3 false (.bin .mod (.blt .int (.cons (.ix (.var 0) (.cst (.int 2))) .nil)) (.var 1))) I__law_draw_b3_1
@[simp] theorem s__law_draw_b3 {env : Dn.Env} {S : Store} {Z : En} : Dn.TS ((I__law_draw_b3).sem env S) Z = Dn.TS (IC.sem (.set 3 false (.bin .mod (.blt .int (.cons (.ix (.var 0) (.cst (.int 2))) .nil)) (.var 1))) env S) (Z.sq (I__law_draw_b3_1 : IC).sem) := by rw [I__law_draw_b3]; exact TS_sq
def I__law_draw_b4_3 : IC := .cons (.ret (.bin .mod (.blt .int (.cons (.var 4) .nil)) (.var 1))) .nil
@[simp] theorem s__law_draw_b4_3 {env : Dn.Env} {S : Store} {Z : En} : Dn.TS ((I__law_draw_b4_3).sem env S) Z = Dn.TS (IC.sem (.ret (.bin .mod (.blt .int (.cons (.var 4) .nil)) (.var 1))) env S) (Z.sq (.nil : IC).sem) := by rw [I__law_draw_b4_3]; exact TS_sq
def I__law_draw_b4_2 : IC := .cons (.set 4 false (.bin .mod (.blt .int (.cons (.bin .mul (.var 4) (.bin .add (.cst (.int 16807)) (.ix (.var 0) (.cst (.int 4))))) .nil)) (.cst (.int 1000003)))) I__law_draw_b4_3
@[simp] theorem s__law_draw_b4_2 {env : Dn.Env} {S : Store} {Z : En} : Dn.TS ((I__law_draw_b4_2).sem env S) Z = Dn.TS (IC.sem (.set 4 false (.bin .mod (.blt .int (.cons (.bin .mul (.var 4) (.bin .add (.cst (.int 16807)) (.ix (.var 0) (.cst (.int 4))))) .nil)) (.cst (.int 1000003)))) env S) (Z.sq (I__law_draw_b4_3 : IC).sem) := by rw [I__law_draw_b4_2]; exact TS_sq
def I__law_draw_b4_1 : IC := .cons (.set 4 false (.bin .mod (.blt .int (.cons (.bin .mul (.ix (.var 0) (.cst (.int 3))) (.bin .add (.cst (.int 48271)) (.bin .mul (.cst (.int 2)) (.ix (.var 0) (.cst (.int 4)))))) .nil)) (.cst (.int 2147483647)))) I__law_draw_b4_2
@[simp] theorem s__law_draw_b4_1 {env : Dn.Env} {S : Store} {Z : En} : Dn.TS ((I__law_draw_b4_1).sem env S) Z = Dn.TS (IC.sem (.set 4 false (.bin .mod (.blt .int (.cons (.bin .mul (.ix (.var 0) (.cst (.int 3))) (.bin .add (.cst (.int 48271)) (.bin .mul (.cst (.int 2)) (.ix (.var 0) (.cst (.int 4)))))) .nil)) (.cst (.int 2147483647)))) env S) (Z.sq (I__law_draw_b4_2 : IC).sem) := by rw [I__law_draw_b4_1]; exact TS_sq
def I__law_draw_b4 : IC := .cons (.sto (.var 0) (.cst (.int 4)) (.bin .sub (.ix (.var 0) (.cst (.int 4))) (.cst (.int 1)))) I__law_draw_b4_1
@[simp] theorem s__law_draw_b4 {env : Dn.Env} {S : Store} {Z : En} : Dn.TS ((I__law_draw_b4).sem env S) Z = Dn.TS (IC.sem (.sto (.var 0) (.cst (.int 4)) (.bin .sub (.ix (.var 0) (.cst (.int 4))) (.cst (.int 1)))) env S) (Z.sq (I__law_draw_b4_1 : IC).sem) := by rw [I__law_draw_b4]; exact TS_sq
def I__law_draw_4 : IC := .cons (.ret (.cst (.int 0))) .nil
@[simp] theorem s__law_draw_4 {env : Dn.Env} {S : Store} {Z : En} : Dn.TS ((I__law_draw_4).sem env S) Z = Dn.TS (IC.sem (.ret (.cst (.int 0))) env S) (Z.sq (.nil : IC).sem) := by rw [I__law_draw_4]; exact TS_sq
def I__law_draw_3 : IC := .cons (.ife (.cmp .gt (.ix (.var 0) (.cst (.int 4))) (.cst (.int 0))) I__law_draw_b4 .nil) I__law_draw_4
@[simp] theorem s__law_draw_3 {env : Dn.Env} {S : Store} {Z : En} : Dn.TS ((I__law_draw_3).sem env S) Z = Dn.TS (IC.sem (.ife (.cmp .gt (.ix (.var 0) (.cst (.int 4))) (.cst (.int 0))) I__law_draw_b4 .nil) env S) (Z.sq (I__law_draw_4 : IC).sem) := by rw [I__law_draw_3]; exact TS_sq
def I__law_draw_2 : IC := .cons (.ife (.cmp .gt (.ix (.var 0) (.cst (.int 2))) (.cst (.int 0))) I__law_draw_b3 .nil) I__law_draw_3
@[simp] theorem s__law_draw_2 {env : Dn.Env} {S : Store} {Z : En} : Dn.TS ((I__law_draw_2).sem env S) Z = Dn.TS (IC.sem (.ife (.cmp .gt (.ix (.var 0) (.cst (.int 2))) (.cst (.int 0))) I__law_draw_b3 .nil) env S) (Z.sq (I__law_draw_3 : IC).sem) := by rw [I__law_draw_2]; exact TS_sq
def I__law_draw_1 : IC := .cons (.ife (.and (.cmp .eq (.ix (.var 0) (.cst (.int 2))) (.cst (.int 0))) (.and (.cmp .eq (.ix (.var 0) (.cst (.int 4))) (.cst (.int 0))) (.and1 (.cmp .lt (.ix (.var 0) (.cst (.int 1))) (.blt .len (.cons (.ix (.var 0) (.cst (.int 0))) .nil)))))) I__law_draw_b1 .nil) I__law_draw_2
@[simp] theorem s__law_draw_1 {env : Dn.Env} {S : Store} {Z : En} : Dn.TS ((I__law_draw_1).sem env S) Z = Dn.TS (IC.sem (.ife (.and (.cmp .eq (.ix (.var 0) (.cst (.int 2))) (.cst (.int 0))) (.and (.cmp .eq (.ix (.var 0) (.cst (.int 4))) (.cst (.int 0))) (.and1 (.cmp .lt (.ix (.var 0) (.cst (.int 1))) (.blt .len (.cons (.ix (.var 0) (.cst (.int 0))) .nil)))))) I__law_draw_b1 .nil) env S) (Z.sq (I__law_draw_2 : IC).sem) := by rw [I__law_draw_1]; exact TS_sq
def I__law_draw : IC := .cons (.ife (.cmp .lt (.var 1) (.cst (.int 2))) (.cons (.ret (.cst (.int 0))) .nil) .nil) I__law_draw_1
@[simp] theorem s__law_draw {env : Dn.Env} {S : Store} {Z : En} : Dn.TS ((I__law_draw).sem env S) Z = Dn.TS (IC.sem (.ife (.cmp .lt (.var 1) (.cst (.int 2))) (.cons (.ret (.cst (.int 0))) .nil) .nil) env S) (Z.sq (I__law_draw_1 : IC).sem) := by rw [I__law_draw]; exact TS_sq
def F__law_draw : FnE := ⟨"_law_draw", 2, defS 2 5 I__law_draw.sem, 1⟩
theorem T__law_draw {w0 w1 : W} {S : Store} {P : RW → Store → Prop} {E : Exn → Store → Prop} (h : Dn.TS (I__law_draw.sem [some w0, some w1, none, none, none] S) (EnD S.length P E)) : Dn.T ((F__law_draw).sem [w0, w1] S) P E := Dn.T_def (np := 2) (nN := 5) (f := I__law_draw.sem) (ws := [w0, w1]) rfl h
theorem sc__law_draw : FnScope ["_law_state_here", "_law_many", "_law_cell", "_law_found", "_law_mixed"] ["_law_state_here", "_law_many"] (defScope (top 22)) := ⟨rfl, rfl, rfl, by decide +kernel, rfl, by decide +kernel, by decide +kernel⟩
theorem ck__law_draw : (I__law_draw.chk ["_law_state_here", "_law_many", "_law_cell", "_law_found", "_law_mixed"] (defScope (top 22))).b (defBody (top 22)) = true := by kernel_rfl
def I__law_list_b2_1 : IC := .cons (.ife (.and (.isN true (.var 8)) (.and1 (.cmp .le (.bin .add (.var 8) (.var 6)) (.cst (.int 99))))) (.cons (.set 5 false (.bin .add (.var 8) (.var 6))) .nil) .nil) .nil
@[simp] theorem s__law_list_b2_1 {env : Dn.Env} {S : Store} {Z : En} : Dn.TS ((I__law_list_b2_1).sem env S) Z = Dn.TS (IC.sem (.ife (.and (.isN true (.var 8)) (.and1 (.cmp .le (.bin .add (.var 8) (.var 6)) (.cst (.int 99))))) (.cons (.set 5 false (.bin .add (.var 8) (.var 6))) .nil) .nil) env S) (Z.sq (.nil : IC).sem) := by rw [I__law_list_b2_1]; exact TS_sq
def I__law_list_b2 : IC := .cons (.set 8 false (.ix (.ix (.var 2) (.call F__law_draw (.cons (.var 0) (.cons (.blt .len (.cons (.var 2) .nil)) .nil)))) (.cst (.int 1)))) I__law_list_b2_1
@[simp] theorem s__law_list_b2 {env : Dn.Env} {S : Store} {Z : En} : Dn.TS ((I__law_list_b2).sem env S) Z = Dn.TS (IC.sem (.set 8 false (.ix (.ix (.var 2) (.call F__law_draw (.cons (.var 0) (.cons (.blt .len (.cons (.var 2) .nil)) .nil)))) (.cst (.int 1)))) env S) (Z.sq (I__law_list_b2_1 : IC).sem) := by rw [I__law_list_b2]; exact TS_sq
def I__law_list_b1_6 : IC := .cons (.drop (.meth .append (.var 2) (.cons (.tup (.cons (.var 5) (.cons (.var 7) .nil))) .nil))) .nil
@[simp] theorem s__law_list_b1_6 {env : Dn.Env} {S : Store} {Z : En} : Dn.TS ((I__law_list_b1_6).sem env S) Z = Dn.TS (IC.sem (.drop (.meth .append (.var 2) (.cons (.tup (.cons (.var 5) (.cons (.var 7) .nil))) .nil))) env S) (Z.sq (.nil : IC).sem) := by rw [I__law_list_b1_6]; exact TS_sq
def I__law_list_b1_5 : IC := .cons (.ife (.cmp .eq (.call F__law_draw (.cons (.var 0) (.cons (.cst (.int 6)) .nil))) (.cst (.int 5))) (.cons (.set 7 false (.cst .non)) .nil) .nil) I__law_list_b1_6
@[simp] theorem s__law_list_b1_5 {env : Dn.Env} {S : Store} {Z : En} : Dn.TS ((I__law_list_b1_5).sem env S) Z = Dn.TS (IC.sem (.ife (.cmp .eq (.call F__law_draw (.cons (.var 0) (.cons (.cst (.int 6)) .nil))) (.cst (.int 5))) (.cons (.set 7 false (.cst .non)) .nil) .nil) env S) (Z.sq (I__law_list_b1_6 : IC).sem) := by rw [I__law_list_b1_5]; exact TS_sq
def I__law_list_b1_4 : IC := .cons (.ife (.cmp .gt (.var 7) (.cst (.int 99))) (.cons (.set 7 false (.cst (.int 99))) .nil) .nil) I__law_list_b1_5
@[simp] theorem s__law_list_b1_4 {env : Dn.Env} {S : Store} {Z : En} : Dn.TS ((I__law_list_b1_4).sem env S) Z = Dn.TS (IC.sem (.ife (.cmp .gt (.var 7) (.cst (.int 99))) (.cons (.set 7 false (.cst (.int 99))) .nil) .nil) env S) (Z.sq (I__law_list_b1_5 : IC).sem) := by rw [I__law_list_b1_4]; exact TS_sq
def I__law_list_b1_3 : IC := .cons (.set 7 false (.bin .add (.var 5) (.call F__law_draw (.cons (.var 0) (.cons (.ix (.lst (.cons (.cst (.int 1)) (.cons (.cst (.int 4)) (.cons (.cst (.int 40)) (.cons (.cst (.int 99)) .nil))))) (.call F__law_draw (.cons (.var 0) (.cons (.cst (.int 4)) .nil)))) .nil))))) I__law_list_b1_4
@[simp] theorem s__law_list_b1_3 {env : Dn.Env} {S : Store} {Z : En} : Dn.TS ((I__law_list_b1_3).sem env S) Z = Dn.TS (IC.sem (.set 7 false (.bin .add (.var 5) (.call F__law_draw (.cons (.var 0) (.cons (.ix (.lst (.cons (.cst (.int 1)) (.cons (.cst (.int 4)) (.cons (.cst (.int 40)) (.cons (.cst (.int 99)) .nil))))) (.call F__law_draw (.cons (.var 0) (.cons (.cst (.int 4)) .nil)))) .nil))))) env S) (Z.sq (I__law_list_b1_4 : IC).sem) := by rw [I__law_list_b1_3]; exact TS_sq
def I__law_list_b1_2 : IC := .cons (.ife (.and (.cmp .gt (.blt .len (.cons (.var 2) .nil)) (.cst (.int 0))) (.and1 (.cmp .lt (.var 6) (.cst (.int 3))))) I__law_list_b2 .nil) I__law_list_b1_3
@[simp] theorem s__law_list_b1_2 {env : Dn.Env} {S : Store} {Z : En} : Dn.TS ((I__law_list_b1_2).sem env S) Z = Dn.TS (IC.sem (.ife (.and (.cmp .gt (.blt .len (.cons (.var 2) .nil)) (.cst (.int 0))) (.and1 (.cmp .lt (.var 6) (.cst (.int 3))))) I__law_list_b2 .nil) env S) (Z.sq (I__law_list_b1_3 : IC).sem) := by rw [I__law_list_b1_2]; exact TS_sq
def I__law_list_b1_1 : IC := .cons (.set 6 false (.call F__law_draw (.cons (.var 0) (.cons (.cst (.int 6)) .nil)))) I__law_list_b1_2
@[simp] theorem s__law_list_b1_1 {env : Dn.Env} {S : Store} {Z : En} : Dn.TS ((I__law_list_b1_1).sem env S) Z = Dn.TS (IC.sem (.set 6 false (.call F__law_draw (.cons (.var 0) (.cons (.cst (.int 6)) .nil)))) env S) (Z.sq (I__law_list_b1_2 : IC).sem) := by rw [I__law_list_b1_1]; exact TS_sq
def I__law_list_b1 : IC := .cons (.set 5 false (.bin .add (.cst (.int 1)) (.call F__law_draw (.cons (.var 0) (.cons (.ix (.lst (.cons (.cst (.int 6)) (.cons (.cst (.int 99)) (.cons (.cst (.int 12)) (.cons (.cst (.int 30)) .nil))))) (.call F__law_draw (.cons (.var 0) (.cons (.cst (.int 4)) .nil)))) .nil))))) I__law_list_b1_1
@[simp] theorem s__law_list_b1 {env : Dn.Env} {S : Store} {Z : En} : Dn.TS ((I__law_list_b1).sem env S) Z = Dn.TS (IC.sem (.set 5 false (.bin .add (.cst (.int 1)) (.call F__law_draw (.cons (.var 0) (.cons (.ix (.lst (.cons (.cst (.int 6)) (.cons (.cst (.int 99)) (.cons (.cst (.int 12)) (.cons (.cst (.int 30)) .nil))))) (.call F__law_draw (.cons (.var 0) (.cons (.cst (.int 4)) .nil)))) .nil))))) env S) (Z.sq (I__law_list_b1_1 : IC).sem) := by rw [I__law_list_b1]; exact TS_sq
def I__law_list_5 : IC := .cons (.ret (.var 2)) .nil
@[simp] theorem s__law_list_5 {env : Dn.Env} {S : Store} {Z : En} : Dn.TS ((I__law_list_5).sem env S) Z = Dn.TS (IC.sem (.ret (.var 2)) env S) (Z.sq (.nil : IC).sem) := by rw [I__law_list_5]; exact TS_sq
def I__law_list_4 : IC := .cons (.ife (.cmp .eq (.call F__law_draw (.cons (.var 0) (.cons (.cst (.int 2)) .nil))) (.cst (.int 1))) (.cons (.set 2 true (.ap revR (.var 2) .nil)) .nil) .nil) I__law_list_5
@[simp] theorem s__law_list_4 {env : Dn.Env} {S : Store} {Z : En} : Dn.TS ((I__law_list_4).sem env S) Z = Dn.TS (IC.sem (.ife (.cmp .eq (.call F__law_draw (.cons (.var 0) (.cons (.cst (.int 2)) .nil))) (.cst (.int 1))) (.cons (.set 2 true (.ap revR (.var 2) .nil)) .nil) .nil) env S) (Z.sq (I__law_list_5 : IC).sem) := by rw [I__law_list_4]; exact TS_sq
def I__law_list_3 : IC := .cons (.set 2 true (.bin .add (.sl (.var 2) (.osm (.var 4)) .ono) (.sl (.var 2) .ono (.osm (.var 4))))) I__law_list_4
@[simp] theorem s__law_list_3 {env : Dn.Env} {S : Store} {Z : En} : Dn.TS ((I__law_list_3).sem env S) Z = Dn.TS (IC.sem (.set 2 true (.bin .add (.sl (.var 2) (.osm (.var 4)) .ono) (.sl (.var 2) .ono (.osm (.var 4))))) env S) (Z.sq (I__law_list_4 : IC).sem) := by rw [I__law_list_3]; exact TS_sq
def I__law_list_2 : IC := .cons (.set 4 false (.call F__law_draw (.cons (.var 0) (.cons (.blt .len (.cons (.var 2) .nil)) .nil)))) I__law_list_3
@[simp] theorem s__law_list_2 {env : Dn.Env} {S : Store} {Z : En} : Dn.TS ((I__law_list_2).sem env S) Z = Dn.TS (IC.sem (.set 4 false (.call F__law_draw (.cons (.var 0) (.cons (.blt .len (.cons (.var 2) .nil)) .nil)))) env S) (Z.sq (I__law_list_3 : IC).sem) := by rw [I__law_list_2]; exact TS_sq
def I__law_list_1 : IC := .cons (.fr (.nm 3) (.rng (.cons (.call F__law_draw (.cons (.var 0) (.cons (.bin .add (.var 1) (.cst (.int 1))) .nil))) .nil)) I__law_list_b1) I__law_list_2
@[simp] theorem s__law_list_1 {env : Dn.Env} {S : Store} {Z : En} : Dn.TS ((I__law_list_1).sem env S) Z = Dn.TS (IC.sem (.fr (.nm 3) (.rng (.cons (.call F__law_draw (.cons (.var 0) (.cons (.bin .add (.var 1) (.cst (.int 1))) .nil))) .nil)) I__law_list_b1) env S) (Z.sq (I__law_list_2 : IC).sem) := by rw [I__law_list_1]; exact TS_sq
def I__law_list : IC := .cons (.set 2 true (.lst .nil)) I__law_list_1
@[simp] theorem s__law_list {env : Dn.Env} {S : Store} {Z : En} : Dn.TS ((I__law_list).sem env S) Z = Dn.TS (IC.sem (.set 2 true (.lst .nil)) env S) (Z.sq (I__law_list_1 : IC).sem) := by rw [I__law_list]; exact TS_sq
def F__law_list : FnE := ⟨"_law_list", 2, defS 2 9 I__law_list.sem, 2⟩
theorem T__law_list {w0 w1 : W} {S : Store} {P : RW → Store → Prop} {E : Exn → Store → Prop} (h : Dn.TS (I__law_list.sem [some w0, some w1, none, none, none, none, none, none, none] S) (EnD S.length P E)) : Dn.T ((F__law_list).sem [w0, w1] S) P E := Dn.T_def (np := 2) (nN := 9) (f := I__law_list.sem) (ws := [w0, w1]) rfl h
theorem sc__law_list : FnScope ["_law_state_here", "_law_many", "_law_rows", "_law_k", "_law_at", "_law_least", "_law_near", "_law_greatest", "_law_end"] ["_law_state_here", "_law_many"] (defScope (top 27)) := ⟨rfl, rfl, rfl, by decide +kernel, rfl, by decide +kernel, by decide +kernel⟩
theorem ck__law_list : (I__law_list.chk ["_law_state_here", "_law_many", "_law_rows", "_law_k", "_law_at", "_law_least", "_law_near", "_law_greatest", "_law_end"] (defScope (top 27))).b (defBody (top 27)) = true := by kernel_rfl
def I__law_integer_4 : IC := .cons (.ret (.var 2)) .nil
@[simp] theorem s__law_integer_4 {env : Dn.Env} {S : Store} {Z : En} : Dn.TS ((I__law_integer_4).sem env S) Z = Dn.TS (IC.sem (.ret (.var 2)) env S) (Z.sq (.nil : IC).sem) := by rw [I__law_integer_4]; exact TS_sq
def I__law_integer_3 : IC := .cons (.ife (.cmp .eq (.var 1) (.cst (.int 7))) (.cons (.ret (.bin .sub (.var 2) (.bin .pow (.cst (.int 10)) (.cst (.int 20))))) .nil) .nil) I__law_integer_4
@[simp] theorem s__law_integer_3 {env : Dn.Env} {S : Store} {Z : En} : Dn.TS ((I__law_integer_3).sem env S) Z = Dn.TS (IC.sem (.ife (.cmp .eq (.var 1) (.cst (.int 7))) (.cons (.ret (.bin .sub (.var 2) (.bin .pow (.cst (.int 10)) (.cst (.int 20))))) .nil) .nil) env S) (Z.sq (I__law_integer_4 : IC).sem) := by rw [I__law_integer_3]; exact TS_sq
def I__law_integer_2 : IC := .cons (.ife (.cmp .eq (.var 1) (.cst (.int 6))) (.cons (.ret (.bin .add (.bin .pow (.cst (.int 10)) (.cst (.int 20))) (.var 2))) .nil) .nil) I__law_integer_3
@[simp] theorem s__law_integer_2 {env : Dn.Env} {S : Store} {Z : En} : Dn.TS ((I__law_integer_2).sem env S) Z = Dn.TS (IC.sem (.ife (.cmp .eq (.var 1) (.cst (.int 6))) (.cons (.ret (.bin .add (.bin .pow (.cst (.int 10)) (.cst (.int 20))) (.var 2))) .nil) .nil) env S) (Z.sq (I__law_integer_3 : IC).sem) := by rw [I__law_integer_2]; exact TS_sq
def I__law_integer_1 : IC := .cons (.set 2 false (.bin .sub (.call F__law_draw (.cons (.var 0) (.cons (.cst (.int 109)) .nil))) (.cst (.int 3)))) I__law_integer_2
@[simp] theorem s__law_integer_1 {env : Dn.Env} {S : Store} {Z : En} : Dn.TS ((I__law_integer_1).sem env S) Z = Dn.TS (IC.sem (.set 2 false (.bin .sub (.call F__law_draw (.cons (.var 0) (.cons (.cst (.int 109)) .nil))) (.cst (.int 3)))) env S) (Z.sq (I__law_integer_2 : IC).sem) := by rw [I__law_integer_1]; exact TS_sq
def I__law_integer : IC := .cons (.set 1 false (.call F__law_draw (.cons (.var 0) (.cons (.cst (.int 8)) .nil)))) I__law_integer_1
@[simp] theorem s__law_integer {env : Dn.Env} {S : Store} {Z : En} : Dn.TS ((I__law_integer).sem env S) Z = Dn.TS (IC.sem (.set 1 false (.call F__law_draw (.cons (.var 0) (.cons (.cst (.int 8)) .nil)))) env S) (Z.sq (I__law_integer_1 : IC).sem) := by rw [I__law_integer]; exact TS_sq
def F__law_integer : FnE := ⟨"_law_integer", 1, defS 1 3 I__law_integer.sem, 2⟩
theorem T__law_integer {w0 : W} {S : Store} {P : RW → Store → Prop} {E : Exn → Store → Prop} (h : Dn.TS (I__law_integer.sem [some w0, none, none] S) (EnD S.length P E)) : Dn.T ((F__law_integer).sem [w0] S) P E := Dn.T_def (np := 1) (nN := 3) (f := I__law_integer.sem) (ws := [w0]) rfl h
theorem sc__law_integer : FnScope ["_law_state_here", "_law_kind", "_law_number"] ["_law_state_here"] (defScope (top 32)) := ⟨rfl, rfl, rfl, by decide +kernel, rfl, by decide +kernel, by decide +kernel⟩
theorem ck__law_integer : (I__law_integer.chk ["_law_state_here", "_law_kind", "_law_number"] (defScope (top 32))).b (defBody (top 32)) = true := by kernel_rfl
def I_larger : IC := .cons (.ret (.ite (.cmp .ge (.var 0) (.var 1)) (.var 0) (.var 1))) .nil
@[simp] theorem s_larger {env : Dn.Env} {S : Store} {Z : En} : Dn.TS ((I_larger).sem env S) Z = Dn.TS (IC.sem (.ret (.ite (.cmp .ge (.var 0) (.var 1)) (.var 0) (.var 1))) env S) (Z.sq (.nil : IC).sem) := by rw [I_larger]; exact TS_sq
def F_larger : FnE := ⟨"larger", 2, defS 2 2 I_larger.sem, 1⟩
theorem T_larger {w0 w1 : W} {S : Store} {P : RW → Store → Prop} {E : Exn → Store → Prop} (h : Dn.TS (I_larger.sem [some w0, some w1] S) (EnD S.length P E)) : Dn.T ((F_larger).sem [w0, w1] S) P E := Dn.T_def (np := 2) (nN := 2) (f := I_larger.sem) (ws := [w0, w1]) rfl h
theorem sc_larger : FnScope ["first", "second"] ["first", "second"] (defScope (top 9)) := ⟨rfl, rfl, rfl, by decide +kernel, rfl, by decide +kernel, by decide +kernel⟩
theorem ck_larger : (I_larger.chk ["first", "second"] (defScope (top 9))).b (defBody (top 9)) = true := by kernel_rfl
def I_furthest_b1_1 : IC := .cons (.set 1 false (.call F_larger (.cons (.var 1) (.cons (.var 2) .nil)))) .nil
@[simp] theorem s_furthest_b1_1 {env : Dn.Env} {S : Store} {Z : En} : Dn.TS ((I_furthest_b1_1).sem env S) Z = Dn.TS (IC.sem (.set 1 false (.call F_larger (.cons (.var 1) (.cons (.var 2) .nil)))) env S) (Z.sq (.nil : IC).sem) := by rw [I_furthest_b1_1]; exact TS_sq
def I_furthest_b1 : IC := .cons (.ife (.isN false (.var 2)) (.cons (.ret (.cst .non)) .nil) .nil) I_furthest_b1_1
@[simp] theorem s_furthest_b1 {env : Dn.Env} {S : Store} {Z : En} : Dn.TS ((I_furthest_b1).sem env S) Z = Dn.TS (IC.sem (.ife (.isN false (.var 2)) (.cons (.ret (.cst .non)) .nil) .nil) env S) (Z.sq (I_furthest_b1_1 : IC).sem) := by rw [I_furthest_b1]; exact TS_sq
def I_furthest_2 : IC := .cons (.ret (.var 1)) .nil
@[simp] theorem s_furthest_2 {env : Dn.Env} {S : Store} {Z : En} : Dn.TS ((I_furthest_2).sem env S) Z = Dn.TS (IC.sem (.ret (.var 1)) env S) (Z.sq (.nil : IC).sem) := by rw [I_furthest_2]; exact TS_sq
def I_furthest_1 : IC := .cons (.fr (.nm 2) (.over (.var 0)) I_furthest_b1) I_furthest_2
@[simp] theorem s_furthest_1 {env : Dn.Env} {S : Store} {Z : En} : Dn.TS ((I_furthest_1).sem env S) Z = Dn.TS (IC.sem (.fr (.nm 2) (.over (.var 0)) I_furthest_b1) env S) (Z.sq (I_furthest_2 : IC).sem) := by rw [I_furthest_1]; exact TS_sq
def I_furthest : IC := .cons (.set 1 false (.cst (.int 0))) I_furthest_1
@[simp] theorem s_furthest {env : Dn.Env} {S : Store} {Z : En} : Dn.TS ((I_furthest).sem env S) Z = Dn.TS (IC.sem (.set 1 false (.cst (.int 0))) env S) (Z.sq (I_furthest_1 : IC).sem) := by rw [I_furthest]; exact TS_sq
def F_furthest : FnE := ⟨"furthest", 1, defS 1 3 I_furthest.sem, 2⟩
theorem T_furthest {w0 : W} {S : Store} {P : RW → Store → Prop} {E : Exn → Store → Prop} (h : Dn.TS (I_furthest.sem [some w0, none, none] S) (EnD S.length P E)) : Dn.T ((F_furthest).sem [w0] S) P E := Dn.T_def (np := 1) (nN := 3) (f := I_furthest.sem) (ws := [w0]) rfl h
theorem sc_furthest : FnScope ["ends", "best", "end"] ["ends"] (defScope (top 12)) := ⟨rfl, rfl, rfl, by decide +kernel, rfl, by decide +kernel, by decide +kernel⟩
theorem ck_furthest : (I_furthest.chk ["ends", "best", "end"] (defScope (top 12))).b (defBody (top 12)) = true := by kernel_rfl
def I_merged_ranges_b1_1 : IC := .cons (.ife (.and (.var 1) (.and1 (.or (.isN false (.ix (.ix (.var 1) (.neg (.cst (.int 1)))) (.cst (.int 1)))) (.or1 (.cmp .le (.var 2) (.bin .add (.ix (.ix (.var 1) (.neg (.cst (.int 1)))) (.cst (.int 1))) (.cst (.int 1)))))))) (.cons (.sto (.var 1) (.neg (.cst (.int 1))) (.tup (.cons (.ix (.ix (.var 1) (.neg (.cst (.int 1)))) (.cst (.int 0))) (.cons (.call F_furthest (.cons (.lst (.cons (.ix (.ix (.var 1) (.neg (.cst (.int 1)))) (.cst (.int 1))) (.cons (.var 3) .nil))) .nil)) .nil)))) .nil) (.cons (.drop (.meth .append (.var 1) (.cons (.tup (.cons (.var 2) (.cons (.var 3) .nil))) .nil))) .nil)) .nil
@[simp] theorem s_merged_ranges_b1_1 {env : Dn.Env} {S : Store} {Z : En} : Dn.TS ((I_merged_ranges_b1_1).sem env S) Z = Dn.TS (IC.sem (.ife (.and (.var 1) (.and1 (.or (.isN false (.ix (.ix (.var 1) (.neg (.cst (.int 1)))) (.cst (.int 1)))) (.or1 (.cmp .le (.var 2) (.bin .add (.ix (.ix (.var 1) (.neg (.cst (.int 1)))) (.cst (.int 1))) (.cst (.int 1)))))))) (.cons (.sto (.var 1) (.neg (.cst (.int 1))) (.tup (.cons (.ix (.ix (.var 1) (.neg (.cst (.int 1)))) (.cst (.int 0))) (.cons (.call F_furthest (.cons (.lst (.cons (.ix (.ix (.var 1) (.neg (.cst (.int 1)))) (.cst (.int 1))) (.cons (.var 3) .nil))) .nil)) .nil)))) .nil) (.cons (.drop (.meth .append (.var 1) (.cons (.tup (.cons (.var 2) (.cons (.var 3) .nil))) .nil))) .nil)) env S) (Z.sq (.nil : IC).sem) := by rw [I_merged_ranges_b1_1]; exact TS_sq
def I_merged_ranges_b1 : IC := .cons (.set 3 false (.call F_furthest (.cons (.lc [("pair", 4)] (.nm 4) (.over (.var 0)) (.cmp .eq (.ix (.var 4) (.cst (.int 0))) (.var 2)) (.ix (.var 4) (.cst (.int 1)))) .nil))) I_merged_ranges_b1_1
@[simp] theorem s_merged_ranges_b1 {env : Dn.Env} {S : Store} {Z : En} : Dn.TS ((I_merged_ranges_b1).sem env S) Z = Dn.TS (IC.sem (.set 3 false (.call F_furthest (.cons (.lc [("pair", 4)] (.nm 4) (.over (.var 0)) (.cmp .eq (.ix (.var 4) (.cst (.int 0))) (.var 2)) (.ix (.var 4) (.cst (.int 1)))) .nil))) env S) (Z.sq (I_merged_ranges_b1_1 : IC).sem) := by rw [I_merged_ranges_b1]; exact TS_sq
def I_merged_ranges_2 : IC := .cons (.ret (.blt .tuple (.cons (.var 1) .nil))) .nil
@[simp] theorem s_merged_ranges_2 {env : Dn.Env} {S : Store} {Z : En} : Dn.TS ((I_merged_ranges_2).sem env S) Z = Dn.TS (IC.sem (.ret (.blt .tuple (.cons (.var 1) .nil))) env S) (Z.sq (.nil : IC).sem) := by rw [I_merged_ranges_2]; exact TS_sq
def I_merged_ranges_1 : IC := .cons (.fr (.nm 2) (.over (.op1 .srset (.lc [("pair", 4)] (.nm 4) (.over (.var 0)) .yes (.ix (.var 4) (.cst (.int 0)))))) I_merged_ranges_b1) I_merged_ranges_2
@[simp] theorem s_merged_ranges_1 {env : Dn.Env} {S : Store} {Z : En} : Dn.TS ((I_merged_ranges_1).sem env S) Z = Dn.TS (IC.sem (.fr (.nm 2) (.over (.op1 .srset (.lc [("pair", 4)] (.nm 4) (.over (.var 0)) .yes (.ix (.var 4) (.cst (.int 0)))))) I_merged_ranges_b1) env S) (Z.sq (I_merged_ranges_2 : IC).sem) := by rw [I_merged_ranges_1]; exact TS_sq
def I_merged_ranges : IC := .cons (.set 1 true (.lst .nil)) I_merged_ranges_1
@[simp] theorem s_merged_ranges {env : Dn.Env} {S : Store} {Z : En} : Dn.TS ((I_merged_ranges).sem env S) Z = Dn.TS (IC.sem (.set 1 true (.lst .nil)) env S) (Z.sq (I_merged_ranges_1 : IC).sem) := by rw [I_merged_ranges]; exact TS_sq
def F_merged_ranges : FnE := ⟨"merged_ranges", 1, defS 1 5 I_merged_ranges.sem, 3⟩
theorem T_merged_ranges {w0 : W} {S : Store} {P : RW → Store → Prop} {E : Exn → Store → Prop} (h : Dn.TS (I_merged_ranges.sem [some w0, none, none, none, none] S) (EnD S.length P E)) : Dn.T ((F_merged_ranges).sem [w0] S) P E := Dn.T_def (np := 1) (nN := 5) (f := I_merged_ranges.sem) (ws := [w0]) rfl h
theorem sc_merged_ranges : FnScope ["ranges", "merged", "start", "end", "pair"] ["ranges"] (defScope (top 14)) := ⟨rfl, rfl, rfl, by decide +kernel, rfl, by decide +kernel, by decide +kernel⟩
theorem ck_merged_ranges : (I_merged_ranges.chk ["ranges", "merged", "start", "end", "pair"] (defScope (top 14))).b (defBody (top 14)) = true := by kernel_rfl
def I_check_range_2 : IC := .cons (.ife (.and (.isN true (.var 2)) (.and1 (.not (.chn .le .le (.var 1) (.var 2) (.glb "MOST_SIZE" (.int 99)))))) (.cons (.sp (rs0R "BadSizes") .nil .nil .nil .nil .nil) .nil) .nil) .nil
@[simp] theorem s_check_range_2 {env : Dn.Env} {S : Store} {Z : En} : Dn.TS ((I_check_range_2).sem env S) Z = Dn.TS (IC.sem (.ife (.and (.isN true (.var 2)) (.and1 (.not (.chn .le .le (.var 1) (.var 2) (.glb "MOST_SIZE" (.int 99)))))) (.cons (.sp (rs0R "BadSizes") .nil .nil .nil .nil .nil) .nil) .nil) env S) (Z.sq (.nil : IC).sem) := by rw [I_check_range_2]; exact TS_sq
def I_check_range_1 : IC := .cons (.ife (.not (.chn .le .le (.cst (.int 1)) (.var 1) (.glb "MOST_SIZE" (.int 99)))) (.cons (.sp (rs0R "BadSizes") .nil .nil .nil .nil .nil) .nil) .nil) I_check_range_2
@[simp] theorem s_check_range_1 {env : Dn.Env} {S : Store} {Z : En} : Dn.TS ((I_check_range_1).sem env S) Z = Dn.TS (IC.sem (.ife (.not (.chn .le .le (.cst (.int 1)) (.var 1) (.glb "MOST_SIZE" (.int 99)))) (.cons (.sp (rs0R "BadSizes") .nil .nil .nil .nil .nil) .nil) .nil) env S) (Z.sq (I_check_range_2 : IC).sem) := by rw [I_check_range_1]; exact TS_sq
def I_check_range : IC := .cons (.asg (.tp [1, 2]) (.var 0)) I_check_range_1
@[simp] theorem s_check_range {env : Dn.Env} {S : Store} {Z : En} : Dn.TS ((I_check_range).sem env S) Z = Dn.TS (IC.sem (.asg (.tp [1, 2]) (.var 0)) env S) (Z.sq (I_check_range_1 : IC).sem) := by rw [I_check_range]; exact TS_sq
def F_check_range : FnE := ⟨"check_range", 1, defS 1 3 I_check_range.sem, 1⟩
theorem T_check_range {w0 : W} {S : Store} {P : RW → Store → Prop} {E : Exn → Store → Prop} (h : Dn.TS (I_check_range.sem [some w0, none, none] S) (EnD S.length P E)) : Dn.T ((F_check_range).sem [w0] S) P E := Dn.T_def (np := 1) (nN := 3) (f := I_check_range.sem) (ws := [w0]) rfl h
theorem sc_check_range : FnScope ["pair", "least", "greatest"] ["pair"] (defScope (top 15)) := ⟨rfl, rfl, rfl, by decide +kernel, rfl, by decide +kernel, by decide +kernel⟩
theorem ck_check_range : (I_check_range.chk ["pair", "least", "greatest"] (defScope (top 15))).b (defBody (top 15)) = true := by kernel_rfl
def I_Sizes_____init___b1 : IC := .cons (.drop (.call F_check_range (.cons (.var 3) .nil))) .nil
@[simp] theorem s_Sizes_____init___b1 {env : Dn.Env} {S : Store} {Z : En} : Dn.TS ((I_Sizes_____init___b1).sem env S) Z = Dn.TS (IC.sem (.drop (.call F_check_range (.cons (.var 3) .nil))) env S) (Z.sq (.nil : IC).sem) := by rw [I_Sizes_____init___b1]; exact TS_sq
def I_Sizes_____init___1 : IC := .cons (.sp (stfR ["Sizes"] "ranges") (.var 0) (.call F_merged_ranges (.cons (.var 1) .nil)) .nil .nil .nil) .nil
@[simp] theorem s_Sizes_____init___1 {env : Dn.Env} {S : Store} {Z : En} : Dn.TS ((I_Sizes_____init___1).sem env S) Z = Dn.TS (IC.sem (.sp (stfR ["Sizes"] "ranges") (.var 0) (.call F_merged_ranges (.cons (.var 1) .nil)) .nil .nil .nil) env S) (Z.sq (.nil : IC).sem) := by rw [I_Sizes_____init___1]; exact TS_sq
def I_Sizes_____init__ : IC := .cons (.ife (.var 2) (.cons (.fr (.nm 3) (.over (.var 1)) I_Sizes_____init___b1) .nil) .nil) I_Sizes_____init___1
@[simp] theorem s_Sizes_____init__ {env : Dn.Env} {S : Store} {Z : En} : Dn.TS ((I_Sizes_____init__).sem env S) Z = Dn.TS (IC.sem (.ife (.var 2) (.cons (.fr (.nm 3) (.over (.var 1)) I_Sizes_____init___b1) .nil) .nil) env S) (Z.sq (I_Sizes_____init___1 : IC).sem) := by rw [I_Sizes_____init__]; exact TS_sq
def F_Sizes_____init__ : FnE := ⟨"Sizes.__init__", 3, defS 3 4 I_Sizes_____init__.sem, 4⟩
theorem T_Sizes_____init__ {w0 w1 w2 : W} {S : Store} {P : RW → Store → Prop} {E : Exn → Store → Prop} (h : Dn.TS (I_Sizes_____init__.sem [some w0, some w1, some w2, none] S) (EnD S.length P E)) : Dn.T ((F_Sizes_____init__).sem [w0, w1, w2] S) P E := Dn.T_def (np := 3) (nN := 4) (f := I_Sizes_____init__.sem) (ws := [w0, w1, w2]) rfl h
theorem sc_Sizes_____init__ : FnScope ["self", "ranges", "checked", "pair"] ["self", "ranges", "checked"] (defScope (mtop 19 0)) := ⟨rfl, rfl, rfl, by decide +kernel, rfl, by decide +kernel, by decide +kernel⟩
theorem ck_Sizes_____init__ : (I_Sizes_____init__.chk ["self", "ranges", "checked", "pair"] (defScope (mtop 19 0))).b (defBody (mtop 19 0)) = true := by kernel_rfl
def I__law_in_b1 : IC := .cons (.ife (.and (.cmp .le (.ix (.var 2) (.cst (.int 0))) (.var 1)) (.and1 (.or (.isN false (.ix (.var 2) (.cst (.int 1)))) (.or1 (.cmp .le (.var 1) (.ix (.var 2) (.cst (.int 1)))))))) (.cons (.ret (.cst (.bl true))) .nil) .nil) .nil
@[simp] theorem s__law_in_b1 {env : Dn.Env} {S : Store} {Z : En} : Dn.TS ((I__law_in_b1).sem env S) Z = Dn.TS (IC.sem (.ife (.and (.cmp .le (.ix (.var 2) (.cst (.int 0))) (.var 1)) (.and1 (.or (.isN false (.ix (.var 2) (.cst (.int 1)))) (.or1 (.cmp .le (.var 1) (.ix (.var 2) (.cst (.int 1)))))))) (.cons (.ret (.cst (.bl true))) .nil) .nil) env S) (Z.sq (.nil : IC).sem) := by rw [I__law_in_b1]; exact TS_sq
def I__law_in_1 : IC := .cons (.ret (.cst (.bl false))) .nil
@[simp] theorem s__law_in_1 {env : Dn.Env} {S : Store} {Z : En} : Dn.TS ((I__law_in_1).sem env S) Z = Dn.TS (IC.sem (.ret (.cst (.bl false))) env S) (Z.sq (.nil : IC).sem) := by rw [I__law_in_1]; exact TS_sq
def I__law_in : IC := .cons (.fr (.nm 2) (.over (.var 0)) I__law_in_b1) I__law_in_1
@[simp] theorem s__law_in {env : Dn.Env} {S : Store} {Z : En} : Dn.TS ((I__law_in).sem env S) Z = Dn.TS (IC.sem (.fr (.nm 2) (.over (.var 0)) I__law_in_b1) env S) (Z.sq (I__law_in_1 : IC).sem) := by rw [I__law_in]; exact TS_sq
def F__law_in : FnE := ⟨"_law_in", 2, defS 2 3 I__law_in.sem, 1⟩
theorem T__law_in {w0 w1 : W} {S : Store} {P : RW → Store → Prop} {E : Exn → Store → Prop} (h : Dn.TS (I__law_in.sem [some w0, some w1, none] S) (EnD S.length P E)) : Dn.T ((F__law_in).sem [w0, w1] S) P E := Dn.T_def (np := 2) (nN := 3) (f := I__law_in.sem) (ws := [w0, w1]) rfl h
theorem sc__law_in : FnScope ["_law_ranges", "_law_number", "_law_pair_here"] ["_law_ranges", "_law_number"] (defScope (top 25)) := ⟨rfl, rfl, rfl, by decide +kernel, rfl, by decide +kernel, by decide +kernel⟩
theorem ck__law_in : (I__law_in.chk ["_law_ranges", "_law_number", "_law_pair_here"] (defScope (top 25))).b (defBody (top 25)) = true := by kernel_rfl
def I__law_alike_b1 (self : FnE) : IC := .cons (.ife (.not (.call self (.cons (.ix (.var 0) (.var 2)) (.cons (.ix (.var 1) (.var 2)) .nil)))) (.cons (.ret (.cst (.bl false))) .nil) .nil) .nil
@[simp] theorem s__law_alike_b1 (self : FnE) {env : Dn.Env} {S : Store} {Z : En} : Dn.TS ((I__law_alike_b1 self).sem env S) Z = Dn.TS (IC.sem (.ife (.not (.call self (.cons (.ix (.var 0) (.var 2)) (.cons (.ix (.var 1) (.var 2)) .nil)))) (.cons (.ret (.cst (.bl false))) .nil) .nil) env S) (Z.sq (.nil : IC).sem) := by rw [I__law_alike_b1]; exact TS_sq
def I__law_alike_7 (self : FnE) : IC := .cons (.ret (.cst (.bl true))) .nil
@[simp] theorem s__law_alike_7 (self : FnE) {env : Dn.Env} {S : Store} {Z : En} : Dn.TS ((I__law_alike_7 self).sem env S) Z = Dn.TS (IC.sem (.ret (.cst (.bl true))) env S) (Z.sq (.nil : IC).sem) := by rw [I__law_alike_7]; exact TS_sq
def I__law_alike_6 (self : FnE) : IC := .cons (.fr (.nm 2) (.rng (.cons (.blt .len (.cons (.var 1) .nil)) .nil)) (I__law_alike_b1 self)) (I__law_alike_7 self)
@[simp] theorem s__law_alike_6 (self : FnE) {env : Dn.Env} {S : Store} {Z : En} : Dn.TS ((I__law_alike_6 self).sem env S) Z = Dn.TS (IC.sem (.fr (.nm 2) (.rng (.cons (.blt .len (.cons (.var 1) .nil)) .nil)) (I__law_alike_b1 self)) env S) (Z.sq ((I__law_alike_7 self) : IC).sem) := by rw [I__law_alike_6]; exact TS_sq
def I__law_alike_5 (self : FnE) : IC := .cons (.ife (.cmp .ne (.blt .len (.cons (.var 0) .nil)) (.blt .len (.cons (.var 1) .nil))) (.cons (.ret (.cst (.bl false))) .nil) .nil) (I__law_alike_6 self)
@[simp] theorem s__law_alike_5 (self : FnE) {env : Dn.Env} {S : Store} {Z : En} : Dn.TS ((I__law_alike_5 self).sem env S) Z = Dn.TS (IC.sem (.ife (.cmp .ne (.blt .len (.cons (.var 0) .nil)) (.blt .len (.cons (.var 1) .nil))) (.cons (.ret (.cst (.bl false))) .nil) .nil) env S) (Z.sq ((I__law_alike_6 self) : IC).sem) := by rw [I__law_alike_5]; exact TS_sq
def I__law_alike_4 (self : FnE) : IC := .cons (.ife (.isi .list (.var 1)) (.cons (.ife (.not (.isi .list (.var 0))) (.cons (.ret (.cst (.bl false))) .nil) .nil) .nil) (.cons (.ife (.not (.isi .tuple (.var 0))) (.cons (.ret (.cst (.bl false))) .nil) .nil) .nil)) (I__law_alike_5 self)
@[simp] theorem s__law_alike_4 (self : FnE) {env : Dn.Env} {S : Store} {Z : En} : Dn.TS ((I__law_alike_4 self).sem env S) Z = Dn.TS (IC.sem (.ife (.isi .list (.var 1)) (.cons (.ife (.not (.isi .list (.var 0))) (.cons (.ret (.cst (.bl false))) .nil) .nil) .nil) (.cons (.ife (.not (.isi .tuple (.var 0))) (.cons (.ret (.cst (.bl false))) .nil) .nil) .nil)) env S) (Z.sq ((I__law_alike_5 self) : IC).sem) := by rw [I__law_alike_4]; exact TS_sq
def I__law_alike_3 (self : FnE) : IC := .cons (.ife (.isi .str (.var 1)) (.cons (.ret (.and (.isi .str (.var 0)) (.and1 (.cmp .eq (.var 0) (.var 1))))) .nil) .nil) (I__law_alike_4 self)
@[simp] theorem s__law_alike_3 (self : FnE) {env : Dn.Env} {S : Store} {Z : En} : Dn.TS ((I__law_alike_3 self).sem env S) Z = Dn.TS (IC.sem (.ife (.isi .str (.var 1)) (.cons (.ret (.and (.isi .str (.var 0)) (.and1 (.cmp .eq (.var 0) (.var 1))))) .nil) .nil) env S) (Z.sq ((I__law_alike_4 self) : IC).sem) := by rw [I__law_alike_3]; exact TS_sq
def I__law_alike_2 (self : FnE) : IC := .cons (.ife (.isi .int (.var 1)) (.cons (.ret (.and (.isi .int (.var 0)) (.and1 (.cmp .eq (.var 0) (.var 1))))) .nil) .nil) (I__law_alike_3 self)
@[simp] theorem s__law_alike_2 (self : FnE) {env : Dn.Env} {S : Store} {Z : En} : Dn.TS ((I__law_alike_2 self).sem env S) Z = Dn.TS (IC.sem (.ife (.isi .int (.var 1)) (.cons (.ret (.and (.isi .int (.var 0)) (.and1 (.cmp .eq (.var 0) (.var 1))))) .nil) .nil) env S) (Z.sq ((I__law_alike_3 self) : IC).sem) := by rw [I__law_alike_2]; exact TS_sq
def I__law_alike_1 (self : FnE) : IC := .cons (.ife (.or (.isi .bool (.var 1)) (.or1 (.isi .bool (.var 0)))) (.cons (.ret (.and (.isi .bool (.var 1)) (.and (.isi .bool (.var 0)) (.and1 (.cmp .eq (.var 0) (.var 1)))))) .nil) .nil) (I__law_alike_2 self)
@[simp] theorem s__law_alike_1 (self : FnE) {env : Dn.Env} {S : Store} {Z : En} : Dn.TS ((I__law_alike_1 self).sem env S) Z = Dn.TS (IC.sem (.ife (.or (.isi .bool (.var 1)) (.or1 (.isi .bool (.var 0)))) (.cons (.ret (.and (.isi .bool (.var 1)) (.and (.isi .bool (.var 0)) (.and1 (.cmp .eq (.var 0) (.var 1)))))) .nil) .nil) env S) (Z.sq ((I__law_alike_2 self) : IC).sem) := by rw [I__law_alike_1]; exact TS_sq
def I__law_alike (self : FnE) : IC := .cons (.ife (.isN false (.var 1)) (.cons (.ret (.isN false (.var 0))) .nil) .nil) (I__law_alike_1 self)
@[simp] theorem s__law_alike (self : FnE) {env : Dn.Env} {S : Store} {Z : En} : Dn.TS ((I__law_alike self).sem env S) Z = Dn.TS (IC.sem (.ife (.isN false (.var 1)) (.cons (.ret (.isN false (.var 0))) .nil) .nil) env S) (Z.sq ((I__law_alike_1 self) : IC).sem) := by rw [I__law_alike]; exact TS_sq
def F__law_alike : Nat → FnE
  | 0 => ⟨"_law_alike", 2, fun _ _ => .stuck, 1⟩
  | n + 1 => ⟨"_law_alike", 2, defS 2 3 (I__law_alike (F__law_alike n)).sem, 1 + n + 1⟩
theorem T__law_alike {w0 w1 : W} {S : Store} {P : RW → Store → Prop} {E : Exn → Store → Prop} (n : Nat) (h : Dn.TS ((I__law_alike (F__law_alike n)).sem [some w0, some w1, none] S) (EnD S.length P E)) : Dn.T ((F__law_alike (n + 1)).sem [w0, w1] S) P E := Dn.T_def (np := 2) (nN := 3) (f := (I__law_alike (F__law_alike n)).sem) (ws := [w0, w1]) rfl h
theorem sc__law_alike : FnScope ["_law_actual", "_law_due", "_law_k"] ["_law_actual", "_law_due"] (defScope (top 23)) := ⟨rfl, rfl, rfl, by decide +kernel, rfl, by decide +kernel, by decide +kernel⟩
theorem ck__law_alike (self : FnE) (h1 : self.name = "_law_alike") (h2 : self.np = 2) : ((I__law_alike self).chk ["_law_actual", "_law_due", "_law_k"] (defScope (top 23))).b (defBody (top 23)) = true := by
  obtain ⟨a, b, c, d⟩ := self
  cases h1; cases h2
  kernel_rfl
def I__law_is_sizes : IC := .cons (.ret (.and (.ap (iscR "Sizes" [("Sizes", true)]) (.var 0) .nil) (.and1 (.call (F__law_alike 3) (.cons (.ap (fldR ["Sizes"] "ranges") (.var 0) .nil) (.cons (.blt .tuple (.cons (.var 1) .nil)) .nil)))))) .nil
@[simp] theorem s__law_is_sizes {env : Dn.Env} {S : Store} {Z : En} : Dn.TS ((I__law_is_sizes).sem env S) Z = Dn.TS (IC.sem (.ret (.and (.ap (iscR "Sizes" [("Sizes", true)]) (.var 0) .nil) (.and1 (.call (F__law_alike 3) (.cons (.ap (fldR ["Sizes"] "ranges") (.var 0) .nil) (.cons (.blt .tuple (.cons (.var 1) .nil)) .nil)))))) env S) (Z.sq (.nil : IC).sem) := by rw [I__law_is_sizes]; exact TS_sq
def F__law_is_sizes : FnE := ⟨"_law_is_sizes", 2, defS 2 2 I__law_is_sizes.sem, 5⟩
theorem T__law_is_sizes {w0 w1 : W} {S : Store} {P : RW → Store → Prop} {E : Exn → Store → Prop} (h : Dn.TS (I__law_is_sizes.sem [some w0, some w1] S) (EnD S.length P E)) : Dn.T ((F__law_is_sizes).sem [w0, w1] S) P E := Dn.T_def (np := 2) (nN := 2) (f := I__law_is_sizes.sem) (ws := [w0, w1]) rfl h
theorem sc__law_is_sizes : FnScope ["_law_actual", "_law_ranges"] ["_law_actual", "_law_ranges"] (defScope (top 24)) := ⟨rfl, rfl, rfl, by decide +kernel, rfl, by decide +kernel, by decide +kernel⟩
theorem ck__law_is_sizes : (I__law_is_sizes.chk ["_law_actual", "_law_ranges"] (defScope (top 24))).b (defBody (top 24)) = true := by kernel_rfl
def I__law_tidy_b1_3 : IC := .cons (.set 1 false (.ix (.var 2) (.cst (.int 1)))) .nil
@[simp] theorem s__law_tidy_b1_3 {env : Dn.Env} {S : Store} {Z : En} : Dn.TS ((I__law_tidy_b1_3).sem env S) Z = Dn.TS (IC.sem (.set 1 false (.ix (.var 2) (.cst (.int 1)))) env S) (Z.sq (.nil : IC).sem) := by rw [I__law_tidy_b1_3]; exact TS_sq
def I__law_tidy_b1_2 : IC := .cons (.ife (.and (.isN true (.ix (.var 2) (.cst (.int 1)))) (.and1 (.or (.not (.isi .int (.ix (.var 2) (.cst (.int 1))))) (.or (.isi .bool (.ix (.var 2) (.cst (.int 1)))) (.or1 (.cmp .lt (.ix (.var 2) (.cst (.int 1))) (.ix (.var 2) (.cst (.int 0))))))))) (.cons (.ret (.cst (.bl false))) .nil) .nil) I__law_tidy_b1_3
@[simp] theorem s__law_tidy_b1_2 {env : Dn.Env} {S : Store} {Z : En} : Dn.TS ((I__law_tidy_b1_2).sem env S) Z = Dn.TS (IC.sem (.ife (.and (.isN true (.ix (.var 2) (.cst (.int 1)))) (.and1 (.or (.not (.isi .int (.ix (.var 2) (.cst (.int 1))))) (.or (.isi .bool (.ix (.var 2) (.cst (.int 1)))) (.or1 (.cmp .lt (.ix (.var 2) (.cst (.int 1))) (.ix (.var 2) (.cst (.int 0))))))))) (.cons (.ret (.cst (.bl false))) .nil) .nil) env S) (Z.sq (I__law_tidy_b1_3 : IC).sem) := by rw [I__law_tidy_b1_2]; exact TS_sq
def I__law_tidy_b1_1 : IC := .cons (.ife (.or (.not (.isi .int (.ix (.var 2) (.cst (.int 0))))) (.or (.isi .bool (.ix (.var 2) (.cst (.int 0)))) (.or1 (.cmp .lt (.ix (.var 2) (.cst (.int 0))) (.bin .add (.var 1) (.cst (.int 2))))))) (.cons (.ret (.cst (.bl false))) .nil) .nil) I__law_tidy_b1_2
@[simp] theorem s__law_tidy_b1_1 {env : Dn.Env} {S : Store} {Z : En} : Dn.TS ((I__law_tidy_b1_1).sem env S) Z = Dn.TS (IC.sem (.ife (.or (.not (.isi .int (.ix (.var 2) (.cst (.int 0))))) (.or (.isi .bool (.ix (.var 2) (.cst (.int 0)))) (.or1 (.cmp .lt (.ix (.var 2) (.cst (.int 0))) (.bin .add (.var 1) (.cst (.int 2))))))) (.cons (.ret (.cst (.bl false))) .nil) .nil) env S) (Z.sq (I__law_tidy_b1_2 : IC).sem) := by rw [I__law_tidy_b1_1]; exact TS_sq
def I__law_tidy_b1 : IC := .cons (.ife (.or (.not (.isi .tuple (.var 2))) (.or (.cmp .ne (.blt .len (.cons (.var 2) .nil)) (.cst (.int 2))) (.or1 (.isN false (.var 1))))) (.cons (.ret (.cst (.bl false))) .nil) .nil) I__law_tidy_b1_1
@[simp] theorem s__law_tidy_b1 {env : Dn.Env} {S : Store} {Z : En} : Dn.TS ((I__law_tidy_b1).sem env S) Z = Dn.TS (IC.sem (.ife (.or (.not (.isi .tuple (.var 2))) (.or (.cmp .ne (.blt .len (.cons (.var 2) .nil)) (.cst (.int 2))) (.or1 (.isN false (.var 1))))) (.cons (.ret (.cst (.bl false))) .nil) .nil) env S) (Z.sq (I__law_tidy_b1_1 : IC).sem) := by rw [I__law_tidy_b1]; exact TS_sq
def I__law_tidy_3 : IC := .cons (.ret (.cst (.bl true))) .nil
@[simp] theorem s__law_tidy_3 {env : Dn.Env} {S : Store} {Z : En} : Dn.TS ((I__law_tidy_3).sem env S) Z = Dn.TS (IC.sem (.ret (.cst (.bl true))) env S) (Z.sq (.nil : IC).sem) := by rw [I__law_tidy_3]; exact TS_sq
def I__law_tidy_2 : IC := .cons (.fr (.nm 2) (.over (.var 0)) I__law_tidy_b1) I__law_tidy_3
@[simp] theorem s__law_tidy_2 {env : Dn.Env} {S : Store} {Z : En} : Dn.TS ((I__law_tidy_2).sem env S) Z = Dn.TS (IC.sem (.fr (.nm 2) (.over (.var 0)) I__law_tidy_b1) env S) (Z.sq (I__law_tidy_3 : IC).sem) := by rw [I__law_tidy_2]; exact TS_sq
def I__law_tidy_1 : IC := .cons (.set 1 false (.neg (.cst (.int 1)))) I__law_tidy_2
@[simp] theorem s__law_tidy_1 {env : Dn.Env} {S : Store} {Z : En} : Dn.TS ((I__law_tidy_1).sem env S) Z = Dn.TS (IC.sem (.set 1 false (.neg (.cst (.int 1)))) env S) (Z.sq (I__law_tidy_2 : IC).sem) := by rw [I__law_tidy_1]; exact TS_sq
def I__law_tidy : IC := .cons (.ife (.not (.isi .tuple (.var 0))) (.cons (.ret (.cst (.bl false))) .nil) .nil) I__law_tidy_1
@[simp] theorem s__law_tidy {env : Dn.Env} {S : Store} {Z : En} : Dn.TS ((I__law_tidy).sem env S) Z = Dn.TS (IC.sem (.ife (.not (.isi .tuple (.var 0))) (.cons (.ret (.cst (.bl false))) .nil) .nil) env S) (Z.sq (I__law_tidy_1 : IC).sem) := by rw [I__law_tidy]; exact TS_sq
def F__law_tidy : FnE := ⟨"_law_tidy", 1, defS 1 3 I__law_tidy.sem, 1⟩
theorem T__law_tidy {w0 : W} {S : Store} {P : RW → Store → Prop} {E : Exn → Store → Prop} (h : Dn.TS (I__law_tidy.sem [some w0, none, none] S) (EnD S.length P E)) : Dn.T ((F__law_tidy).sem [w0] S) P E := Dn.T_def (np := 1) (nN := 3) (f := I__law_tidy.sem) (ws := [w0]) rfl h
theorem sc__law_tidy : FnScope ["_law_ranges", "_law_end", "_law_pair_here"] ["_law_ranges"] (defScope (top 28)) := ⟨rfl, rfl, rfl, by decide +kernel, rfl, by decide +kernel, by decide +kernel⟩
theorem ck__law_tidy : (I__law_tidy.chk ["_law_ranges", "_law_end", "_law_pair_here"] (defScope (top 28))).b (defBody (top 28)) = true := by kernel_rfl
def I_Sizes_____contains__ : IC := .cons (.ret (.blt .any (.cons (.lc [("least", 2), ("end", 3)] (.tp [2, 3]) (.over (.ap (fldR ["Sizes"] "ranges") (.var 0) .nil)) .yes (.and (.cmp .le (.var 2) (.var 1)) (.and1 (.or (.isN false (.var 3)) (.or1 (.cmp .le (.var 1) (.var 3))))))) .nil))) .nil
@[simp] theorem s_Sizes_____contains__ {env : Dn.Env} {S : Store} {Z : En} : Dn.TS ((I_Sizes_____contains__).sem env S) Z = Dn.TS (IC.sem (.ret (.blt .any (.cons (.lc [("least", 2), ("end", 3)] (.tp [2, 3]) (.over (.ap (fldR ["Sizes"] "ranges") (.var 0) .nil)) .yes (.and (.cmp .le (.var 2) (.var 1)) (.and1 (.or (.isN false (.var 3)) (.or1 (.cmp .le (.var 1) (.var 3))))))) .nil))) env S) (Z.sq (.nil : IC).sem) := by rw [I_Sizes_____contains__]; exact TS_sq
def F_Sizes_____contains__ : FnE := ⟨"Sizes.__contains__", 2, defS 2 4 I_Sizes_____contains__.sem, 1⟩
theorem T_Sizes_____contains__ {w0 w1 : W} {S : Store} {P : RW → Store → Prop} {E : Exn → Store → Prop} (h : Dn.TS (I_Sizes_____contains__.sem [some w0, some w1, none, none] S) (EnD S.length P E)) : Dn.T ((F_Sizes_____contains__).sem [w0, w1] S) P E := Dn.T_def (np := 2) (nN := 4) (f := I_Sizes_____contains__.sem) (ws := [w0, w1]) rfl h
theorem sc_Sizes_____contains__ : FnScope ["self", "number", "least", "end"] ["self", "number"] (defScope (mtop 19 6)) := ⟨rfl, rfl, rfl, by decide +kernel, rfl, by decide +kernel, by decide +kernel⟩
theorem ck_Sizes_____contains__ : (I_Sizes_____contains__.chk ["self", "number", "least", "end"] (defScope (mtop 19 6))).b (defBody (mtop 19 6)) = true := by kernel_rfl
def I_Sizes_____bool__ : IC := .cons (.ret (.ap (bltR boolG) .nil (.cons (.ap (fldR ["Sizes"] "ranges") (.var 0) .nil) .nil))) .nil
@[simp] theorem s_Sizes_____bool__ {env : Dn.Env} {S : Store} {Z : En} : Dn.TS ((I_Sizes_____bool__).sem env S) Z = Dn.TS (IC.sem (.ret (.ap (bltR boolG) .nil (.cons (.ap (fldR ["Sizes"] "ranges") (.var 0) .nil) .nil))) env S) (Z.sq (.nil : IC).sem) := by rw [I_Sizes_____bool__]; exact TS_sq
def F_Sizes_____bool__ : FnE := ⟨"Sizes.__bool__", 1, defS 1 1 I_Sizes_____bool__.sem, 1⟩
theorem T_Sizes_____bool__ {w0 : W} {S : Store} {P : RW → Store → Prop} {E : Exn → Store → Prop} (h : Dn.TS (I_Sizes_____bool__.sem [some w0] S) (EnD S.length P E)) : Dn.T ((F_Sizes_____bool__).sem [w0] S) P E := Dn.T_def (np := 1) (nN := 1) (f := I_Sizes_____bool__.sem) (ws := [w0]) rfl h
theorem sc_Sizes_____bool__ : FnScope ["self"] ["self"] (defScope (mtop 19 5)) := ⟨rfl, rfl, rfl, by decide +kernel, rfl, by decide +kernel, by decide +kernel⟩
theorem ck_Sizes_____bool__ : (I_Sizes_____bool__.chk ["self"] (defScope (mtop 19 5))).b (defBody (mtop 19 5)) = true := by kernel_rfl
def I__law_agrees_b1 : IC := .cons (.ife (.or (.not (.call (F__law_alike 3) (.cons (.ap (ownInR false [("Sizes", F_Sizes_____contains__)]) (.ix (.var 1) (.var 3)) (.var 0)) (.cons (.ix (.var 2) (.var 3)) .nil)))) (.or1 (.cmp .ne (.call F__law_in (.cons (.ap (fldR ["Sizes"] "ranges") (.var 0) .nil) (.cons (.ix (.var 1) (.var 3)) .nil))) (.ix (.var 2) (.var 3))))) (.cons (.ret (.cst (.bl false))) .nil) .nil) .nil
@[simp] theorem s__law_agrees_b1 {env : Dn.Env} {S : Store} {Z : En} : Dn.TS ((I__law_agrees_b1).sem env S) Z = Dn.TS (IC.sem (.ife (.or (.not (.call (F__law_alike 3) (.cons (.ap (ownInR false [("Sizes", F_Sizes_____contains__)]) (.ix (.var 1) (.var 3)) (.var 0)) (.cons (.ix (.var 2) (.var 3)) .nil)))) (.or1 (.cmp .ne (.call F__law_in (.cons (.ap (fldR ["Sizes"] "ranges") (.var 0) .nil) (.cons (.ix (.var 1) (.var 3)) .nil))) (.ix (.var 2) (.var 3))))) (.cons (.ret (.cst (.bl false))) .nil) .nil) env S) (Z.sq (.nil : IC).sem) := by rw [I__law_agrees_b1]; exact TS_sq
def I__law_agrees_2 : IC := .cons (.ret (.call (F__law_alike 3) (.cons (.ap (call1R "bool" (ownBool [("Sizes", F_Sizes_____bool__)])) .nil (.cons (.var 0) .nil)) (.cons (.cmp .isin (.cst (.bl true)) (.var 2)) .nil)))) .nil
@[simp] theorem s__law_agrees_2 {env : Dn.Env} {S : Store} {Z : En} : Dn.TS ((I__law_agrees_2).sem env S) Z = Dn.TS (IC.sem (.ret (.call (F__law_alike 3) (.cons (.ap (call1R "bool" (ownBool [("Sizes", F_Sizes_____bool__)])) .nil (.cons (.var 0) .nil)) (.cons (.cmp .isin (.cst (.bl true)) (.var 2)) .nil)))) env S) (Z.sq (.nil : IC).sem) := by rw [I__law_agrees_2]; exact TS_sq
def I__law_agrees_1 : IC := .cons (.fr (.nm 3) (.rng (.cons (.blt .len (.cons (.var 1) .nil)) .nil)) I__law_agrees_b1) I__law_agrees_2
@[simp] theorem s__law_agrees_1 {env : Dn.Env} {S : Store} {Z : En} : Dn.TS ((I__law_agrees_1).sem env S) Z = Dn.TS (IC.sem (.fr (.nm 3) (.rng (.cons (.blt .len (.cons (.var 1) .nil)) .nil)) I__law_agrees_b1) env S) (Z.sq (I__law_agrees_2 : IC).sem) := by rw [I__law_agrees_1]; exact TS_sq
def I__law_agrees : IC := .cons (.ife (.or (.not (.ap (iscR "Sizes" [("Sizes", true)]) (.var 0) .nil)) (.or1 (.not (.call F__law_tidy (.cons (.ap (fldR ["Sizes"] "ranges") (.var 0) .nil) .nil))))) (.cons (.ret (.cst (.bl false))) .nil) .nil) I__law_agrees_1
@[simp] theorem s__law_agrees {env : Dn.Env} {S : Store} {Z : En} : Dn.TS ((I__law_agrees).sem env S) Z = Dn.TS (IC.sem (.ife (.or (.not (.ap (iscR "Sizes" [("Sizes", true)]) (.var 0) .nil)) (.or1 (.not (.call F__law_tidy (.cons (.ap (fldR ["Sizes"] "ranges") (.var 0) .nil) .nil))))) (.cons (.ret (.cst (.bl false))) .nil) .nil) env S) (Z.sq (I__law_agrees_1 : IC).sem) := by rw [I__law_agrees]; exact TS_sq
def F__law_agrees : FnE := ⟨"_law_agrees", 3, defS 3 4 I__law_agrees.sem, 5⟩
theorem T__law_agrees {w0 w1 w2 : W} {S : Store} {P : RW → Store → Prop} {E : Exn → Store → Prop} (h : Dn.TS (I__law_agrees.sem [some w0, some w1, some w2, none] S) (EnD S.length P E)) : Dn.T ((F__law_agrees).sem [w0, w1, w2] S) P E := Dn.T_def (np := 3) (nN := 4) (f := I__law_agrees.sem) (ws := [w0, w1, w2]) rfl h
theorem sc__law_agrees : FnScope ["_law_found", "_law_numbers", "_law_due", "_law_k"] ["_law_found", "_law_numbers", "_law_due"] (defScope (top 29)) := ⟨rfl, rfl, rfl, by decide +kernel, rfl, by decide +kernel, by decide +kernel⟩
theorem ck__law_agrees : (I__law_agrees.chk ["_law_found", "_law_numbers", "_law_due", "_law_k"] (defScope (top 29))).b (defBody (top 29)) = true := by kernel_rfl
def I_Sizes_____or___1 : IC := .cons (.ret (.ap (newKR "Sizes" "checked" F_Sizes_____init__) (.cst (.bl false)) (.cons (.ap cat2R (.ap (fldR ["Sizes"] "ranges") (.var 0) .nil) (.ap (fldR ["Sizes"] "ranges") (.var 1) .nil)) .nil))) .nil
@[simp] theorem s_Sizes_____or___1 {env : Dn.Env} {S : Store} {Z : En} : Dn.TS ((I_Sizes_____or___1).sem env S) Z = Dn.TS (IC.sem (.ret (.ap (newKR "Sizes" "checked" F_Sizes_____init__) (.cst (.bl false)) (.cons (.ap cat2R (.ap (fldR ["Sizes"] "ranges") (.var 0) .nil) (.ap (fldR ["Sizes"] "ranges") (.var 1) .nil)) .nil))) env S) (Z.sq (.nil : IC).sem) := by rw [I_Sizes_____or___1]; exact TS_sq
def I_Sizes_____or__ : IC := .cons (.ife (.not (.ap (iscR "Sizes" [("Sizes", true)]) (.var 1) .nil)) (.cons (.sp nimR .nil .nil .nil .nil .nil) .nil) .nil) I_Sizes_____or___1
@[simp] theorem s_Sizes_____or__ {env : Dn.Env} {S : Store} {Z : En} : Dn.TS ((I_Sizes_____or__).sem env S) Z = Dn.TS (IC.sem (.ife (.not (.ap (iscR "Sizes" [("Sizes", true)]) (.var 1) .nil)) (.cons (.sp nimR .nil .nil .nil .nil .nil) .nil) .nil) env S) (Z.sq (I_Sizes_____or___1 : IC).sem) := by rw [I_Sizes_____or__]; exact TS_sq
def F_Sizes_____or__ : FnE := ⟨"Sizes.__or__", 2, defS 2 2 I_Sizes_____or__.sem, 6⟩
theorem T_Sizes_____or__ {w0 w1 : W} {S : Store} {P : RW → Store → Prop} {E : Exn → Store → Prop} (h : Dn.TS (I_Sizes_____or__.sem [some w0, some w1] S) (EnD S.length P E)) : Dn.T ((F_Sizes_____or__).sem [w0, w1] S) P E := Dn.T_def (np := 2) (nN := 2) (f := I_Sizes_____or__.sem) (ws := [w0, w1]) rfl h
theorem sc_Sizes_____or__ : FnScope ["self", "other"] ["self", "other"] (defScope (mtop 19 8)) := ⟨rfl, rfl, rfl, by decide +kernel, rfl, by decide +kernel, by decide +kernel⟩
theorem ck_Sizes_____or__ : (I_Sizes_____or__.chk ["self", "other"] (defScope (mtop 19 8))).b (defBody (mtop 19 8)) = true := by kernel_rfl
def I_nearest_2 : IC := .cons (.ret (.ite (.cmp .le (.var 0) (.var 1)) (.var 0) (.var 1))) .nil
@[simp] theorem s_nearest_2 {env : Dn.Env} {S : Store} {Z : En} : Dn.TS ((I_nearest_2).sem env S) Z = Dn.TS (IC.sem (.ret (.ite (.cmp .le (.var 0) (.var 1)) (.var 0) (.var 1))) env S) (Z.sq (.nil : IC).sem) := by rw [I_nearest_2]; exact TS_sq
def I_nearest_1 : IC := .cons (.ife (.isN false (.var 1)) (.cons (.ret (.var 0)) .nil) .nil) I_nearest_2
@[simp] theorem s_nearest_1 {env : Dn.Env} {S : Store} {Z : En} : Dn.TS ((I_nearest_1).sem env S) Z = Dn.TS (IC.sem (.ife (.isN false (.var 1)) (.cons (.ret (.var 0)) .nil) .nil) env S) (Z.sq (I_nearest_2 : IC).sem) := by rw [I_nearest_1]; exact TS_sq
def I_nearest : IC := .cons (.ife (.isN false (.var 0)) (.cons (.ret (.var 1)) .nil) .nil) I_nearest_1
@[simp] theorem s_nearest {env : Dn.Env} {S : Store} {Z : En} : Dn.TS ((I_nearest).sem env S) Z = Dn.TS (IC.sem (.ife (.isN false (.var 0)) (.cons (.ret (.var 1)) .nil) .nil) env S) (Z.sq (I_nearest_1 : IC).sem) := by rw [I_nearest]; exact TS_sq
def F_nearest : FnE := ⟨"nearest", 2, defS 2 2 I_nearest.sem, 1⟩
theorem T_nearest {w0 w1 : W} {S : Store} {P : RW → Store → Prop} {E : Exn → Store → Prop} (h : Dn.TS (I_nearest.sem [some w0, some w1] S) (EnD S.length P E)) : Dn.T ((F_nearest).sem [w0, w1] S) P E := Dn.T_def (np := 2) (nN := 2) (f := I_nearest.sem) (ws := [w0, w1]) rfl h
theorem sc_nearest : FnScope ["first", "second"] ["first", "second"] (defScope (top 13)) := ⟨rfl, rfl, rfl, by decide +kernel, rfl, by decide +kernel, by decide +kernel⟩
theorem ck_nearest : (I_nearest.chk ["first", "second"] (defScope (top 13))).b (defBody (top 13)) = true := by kernel_rfl
def I_Sizes_____and___2 : IC := .cons (.ret (.ap (newKR "Sizes" "checked" F_Sizes_____init__) (.cst (.bl false)) (.cons (.lc [("low", 7), ("high", 8)] (.tp [7, 8]) (.over (.var 2)) (.or (.isN false (.var 8)) (.or1 (.cmp .le (.var 7) (.var 8)))) (.tup (.cons (.var 7) (.cons (.var 8) .nil)))) .nil))) .nil
@[simp] theorem s_Sizes_____and___2 {env : Dn.Env} {S : Store} {Z : En} : Dn.TS ((I_Sizes_____and___2).sem env S) Z = Dn.TS (IC.sem (.ret (.ap (newKR "Sizes" "checked" F_Sizes_____init__) (.cst (.bl false)) (.cons (.lc [("low", 7), ("high", 8)] (.tp [7, 8]) (.over (.var 2)) (.or (.isN false (.var 8)) (.or1 (.cmp .le (.var 7) (.var 8)))) (.tup (.cons (.var 7) (.cons (.var 8) .nil)))) .nil))) env S) (Z.sq (.nil : IC).sem) := by rw [I_Sizes_____and___2]; exact TS_sq
def I_Sizes_____and___1 : IC := .cons (.setL 2 false (.apc (lc2R [("a", 3), ("b", 4), ("c", 5), ("d", 6)] (.tp [3, 4]) (.tp [5, 6])) (.over (.ap (fldR ["Sizes"] "ranges") (.var 0) .nil)) .yes (.over (.ap (fldR ["Sizes"] "ranges") (.var 1) .nil)) .yes (.tup (.cons (.call F_larger (.cons (.var 3) (.cons (.var 5) .nil))) (.cons (.call F_nearest (.cons (.var 4) (.cons (.var 6) .nil))) .nil))))) I_Sizes_____and___2
@[simp] theorem s_Sizes_____and___1 {env : Dn.Env} {S : Store} {Z : En} : Dn.TS ((I_Sizes_____and___1).sem env S) Z = Dn.TS (IC.sem (.setL 2 false (.apc (lc2R [("a", 3), ("b", 4), ("c", 5), ("d", 6)] (.tp [3, 4]) (.tp [5, 6])) (.over (.ap (fldR ["Sizes"] "ranges") (.var 0) .nil)) .yes (.over (.ap (fldR ["Sizes"] "ranges") (.var 1) .nil)) .yes (.tup (.cons (.call F_larger (.cons (.var 3) (.cons (.var 5) .nil))) (.cons (.call F_nearest (.cons (.var 4) (.cons (.var 6) .nil))) .nil))))) env S) (Z.sq (I_Sizes_____and___2 : IC).sem) := by rw [I_Sizes_____and___1]; exact TS_sq
def I_Sizes_____and__ : IC := .cons (.ife (.not (.ap (iscR "Sizes" [("Sizes", true)]) (.var 1) .nil)) (.cons (.sp nimR .nil .nil .nil .nil .nil) .nil) .nil) I_Sizes_____and___1
@[simp] theorem s_Sizes_____and__ {env : Dn.Env} {S : Store} {Z : En} : Dn.TS ((I_Sizes_____and__).sem env S) Z = Dn.TS (IC.sem (.ife (.not (.ap (iscR "Sizes" [("Sizes", true)]) (.var 1) .nil)) (.cons (.sp nimR .nil .nil .nil .nil .nil) .nil) .nil) env S) (Z.sq (I_Sizes_____and___1 : IC).sem) := by rw [I_Sizes_____and__]; exact TS_sq
def F_Sizes_____and__ : FnE := ⟨"Sizes.__and__", 2, defS 2 9 I_Sizes_____and__.sem, 6⟩
theorem T_Sizes_____and__ {w0 w1 : W} {S : Store} {P : RW → Store → Prop} {E : Exn → Store → Prop} (h : Dn.TS (I_Sizes_____and__.sem [some w0, some w1, none, none, none, none, none, none, none] S) (EnD S.length P E)) : Dn.T ((F_Sizes_____and__).sem [w0, w1] S) P E := Dn.T_def (np := 2) (nN := 9) (f := I_Sizes_____and__.sem) (ws := [w0, w1]) rfl h
theorem sc_Sizes_____and__ : FnScope ["self", "other", "common", "a", "b", "c", "d", "low", "high"] ["self", "other"] (defScope (mtop 19 7)) := ⟨rfl, rfl, rfl, by decide +kernel, rfl, by decide +kernel, by decide +kernel⟩
theorem ck_Sizes_____and__ : (I_Sizes_____and__.chk ["self", "other", "common", "a", "b", "c", "d", "low", "high"] (defScope (mtop 19 7))).b (defBody (mtop 19 7)) = true := by kernel_rfl
def I_Sizes_____eq__ : IC := .cons (.ret (.and (.ap (iscR "Sizes" [("Sizes", true)]) (.var 1) .nil) (.and1 (.cmp .eq (.ap (fldR ["Sizes"] "ranges") (.var 0) .nil) (.ap (fldR ["Sizes"] "ranges") (.var 1) .nil))))) .nil
@[simp] theorem s_Sizes_____eq__ {env : Dn.Env} {S : Store} {Z : En} : Dn.TS ((I_Sizes_____eq__).sem env S) Z = Dn.TS (IC.sem (.ret (.and (.ap (iscR "Sizes" [("Sizes", true)]) (.var 1) .nil) (.and1 (.cmp .eq (.ap (fldR ["Sizes"] "ranges") (.var 0) .nil) (.ap (fldR ["Sizes"] "ranges") (.var 1) .nil))))) env S) (Z.sq (.nil : IC).sem) := by rw [I_Sizes_____eq__]; exact TS_sq
def F_Sizes_____eq__ : FnE := ⟨"Sizes.__eq__", 2, defS 2 2 I_Sizes_____eq__.sem, 1⟩
theorem T_Sizes_____eq__ {w0 w1 : W} {S : Store} {P : RW → Store → Prop} {E : Exn → Store → Prop} (h : Dn.TS (I_Sizes_____eq__.sem [some w0, some w1] S) (EnD S.length P E)) : Dn.T ((F_Sizes_____eq__).sem [w0, w1] S) P E := Dn.T_def (np := 2) (nN := 2) (f := I_Sizes_____eq__.sem) (ws := [w0, w1]) rfl h
theorem sc_Sizes_____eq__ : FnScope ["self", "other"] ["self", "other"] (defScope (mtop 19 15)) := ⟨rfl, rfl, rfl, by decide +kernel, rfl, by decide +kernel, by decide +kernel⟩
theorem ck_Sizes_____eq__ : (I_Sizes_____eq__.chk ["self", "other"] (defScope (mtop 19 15))).b (defBody (mtop 19 15)) = true := by kernel_rfl
def I_Sizes_____gt___1 : IC := .cons (.ret (.and (.cmp .eq (.ap (fldR ["Sizes"] "ranges") (.ap (binR .BitAnd [("Sizes", F_Sizes_____and__)]) (.var 0) (.var 1)) .nil) (.ap (fldR ["Sizes"] "ranges") (.var 1) .nil)) (.and1 (.cmp .ne (.ap (fldR ["Sizes"] "ranges") (.var 0) .nil) (.ap (fldR ["Sizes"] "ranges") (.var 1) .nil))))) .nil
@[simp] theorem s_Sizes_____gt___1 {env : Dn.Env} {S : Store} {Z : En} : Dn.TS ((I_Sizes_____gt___1).sem env S) Z = Dn.TS (IC.sem (.ret (.and (.cmp .eq (.ap (fldR ["Sizes"] "ranges") (.ap (binR .BitAnd [("Sizes", F_Sizes_____and__)]) (.var 0) (.var 1)) .nil) (.ap (fldR ["Sizes"] "ranges") (.var 1) .nil)) (.and1 (.cmp .ne (.ap (fldR ["Sizes"] "ranges") (.var 0) .nil) (.ap (fldR ["Sizes"] "ranges") (.var 1) .nil))))) env S) (Z.sq (.nil : IC).sem) := by rw [I_Sizes_____gt___1]; exact TS_sq
def I_Sizes_____gt__ : IC := .cons (.ife (.not (.ap (iscR "Sizes" [("Sizes", true)]) (.var 1) .nil)) (.cons (.sp nimR .nil .nil .nil .nil .nil) .nil) .nil) I_Sizes_____gt___1
@[simp] theorem s_Sizes_____gt__ {env : Dn.Env} {S : Store} {Z : En} : Dn.TS ((I_Sizes_____gt__).sem env S) Z = Dn.TS (IC.sem (.ife (.not (.ap (iscR "Sizes" [("Sizes", true)]) (.var 1) .nil)) (.cons (.sp nimR .nil .nil .nil .nil .nil) .nil) .nil) env S) (Z.sq (I_Sizes_____gt___1 : IC).sem) := by rw [I_Sizes_____gt__]; exact TS_sq
def F_Sizes_____gt__ : FnE := ⟨"Sizes.__gt__", 2, defS 2 2 I_Sizes_____gt__.sem, 7⟩
theorem T_Sizes_____gt__ {w0 w1 : W} {S : Store} {P : RW → Store → Prop} {E : Exn → Store → Prop} (h : Dn.TS (I_Sizes_____gt__.sem [some w0, some w1] S) (EnD S.length P E)) : Dn.T ((F_Sizes_____gt__).sem [w0, w1] S) P E := Dn.T_def (np := 2) (nN := 2) (f := I_Sizes_____gt__.sem) (ws := [w0, w1]) rfl h
theorem sc_Sizes_____gt__ : FnScope ["self", "other"] ["self", "other"] (defScope (mtop 19 14)) := ⟨rfl, rfl, rfl, by decide +kernel, rfl, by decide +kernel, by decide +kernel⟩
theorem ck_Sizes_____gt__ : (I_Sizes_____gt__.chk ["self", "other"] (defScope (mtop 19 14))).b (defBody (mtop 19 14)) = true := by kernel_rfl
def I_Sizes_____ge___1 : IC := .cons (.ret (.cmp .eq (.ap (fldR ["Sizes"] "ranges") (.ap (binR .BitAnd [("Sizes", F_Sizes_____and__)]) (.var 0) (.var 1)) .nil) (.ap (fldR ["Sizes"] "ranges") (.var 1) .nil))) .nil
@[simp] theorem s_Sizes_____ge___1 {env : Dn.Env} {S : Store} {Z : En} : Dn.TS ((I_Sizes_____ge___1).sem env S) Z = Dn.TS (IC.sem (.ret (.cmp .eq (.ap (fldR ["Sizes"] "ranges") (.ap (binR .BitAnd [("Sizes", F_Sizes_____and__)]) (.var 0) (.var 1)) .nil) (.ap (fldR ["Sizes"] "ranges") (.var 1) .nil))) env S) (Z.sq (.nil : IC).sem) := by rw [I_Sizes_____ge___1]; exact TS_sq
def I_Sizes_____ge__ : IC := .cons (.ife (.not (.ap (iscR "Sizes" [("Sizes", true)]) (.var 1) .nil)) (.cons (.sp nimR .nil .nil .nil .nil .nil) .nil) .nil) I_Sizes_____ge___1
@[simp] theorem s_Sizes_____ge__ {env : Dn.Env} {S : Store} {Z : En} : Dn.TS ((I_Sizes_____ge__).sem env S) Z = Dn.TS (IC.sem (.ife (.not (.ap (iscR "Sizes" [("Sizes", true)]) (.var 1) .nil)) (.cons (.sp nimR .nil .nil .nil .nil .nil) .nil) .nil) env S) (Z.sq (I_Sizes_____ge___1 : IC).sem) := by rw [I_Sizes_____ge__]; exact TS_sq
def F_Sizes_____ge__ : FnE := ⟨"Sizes.__ge__", 2, defS 2 2 I_Sizes_____ge__.sem, 7⟩
theorem T_Sizes_____ge__ {w0 w1 : W} {S : Store} {P : RW → Store → Prop} {E : Exn → Store → Prop} (h : Dn.TS (I_Sizes_____ge__.sem [some w0, some w1] S) (EnD S.length P E)) : Dn.T ((F_Sizes_____ge__).sem [w0, w1] S) P E := Dn.T_def (np := 2) (nN := 2) (f := I_Sizes_____ge__.sem) (ws := [w0, w1]) rfl h
theorem sc_Sizes_____ge__ : FnScope ["self", "other"] ["self", "other"] (defScope (mtop 19 13)) := ⟨rfl, rfl, rfl, by decide +kernel, rfl, by decide +kernel, by decide +kernel⟩
theorem ck_Sizes_____ge__ : (I_Sizes_____ge__.chk ["self", "other"] (defScope (mtop 19 13))).b (defBody (mtop 19 13)) = true := by kernel_rfl
def I_Sizes_____lt___1 : IC := .cons (.ret (.and (.cmp .eq (.ap (fldR ["Sizes"] "ranges") (.ap (binR .BitAnd [("Sizes", F_Sizes_____and__)]) (.var 0) (.var 1)) .nil) (.ap (fldR ["Sizes"] "ranges") (.var 0) .nil)) (.and1 (.cmp .ne (.ap (fldR ["Sizes"] "ranges") (.var 0) .nil) (.ap (fldR ["Sizes"] "ranges") (.var 1) .nil))))) .nil
@[simp] theorem s_Sizes_____lt___1 {env : Dn.Env} {S : Store} {Z : En} : Dn.TS ((I_Sizes_____lt___1).sem env S) Z = Dn.TS (IC.sem (.ret (.and (.cmp .eq (.ap (fldR ["Sizes"] "ranges") (.ap (binR .BitAnd [("Sizes", F_Sizes_____and__)]) (.var 0) (.var 1)) .nil) (.ap (fldR ["Sizes"] "ranges") (.var 0) .nil)) (.and1 (.cmp .ne (.ap (fldR ["Sizes"] "ranges") (.var 0) .nil) (.ap (fldR ["Sizes"] "ranges") (.var 1) .nil))))) env S) (Z.sq (.nil : IC).sem) := by rw [I_Sizes_____lt___1]; exact TS_sq
def I_Sizes_____lt__ : IC := .cons (.ife (.not (.ap (iscR "Sizes" [("Sizes", true)]) (.var 1) .nil)) (.cons (.sp nimR .nil .nil .nil .nil .nil) .nil) .nil) I_Sizes_____lt___1
@[simp] theorem s_Sizes_____lt__ {env : Dn.Env} {S : Store} {Z : En} : Dn.TS ((I_Sizes_____lt__).sem env S) Z = Dn.TS (IC.sem (.ife (.not (.ap (iscR "Sizes" [("Sizes", true)]) (.var 1) .nil)) (.cons (.sp nimR .nil .nil .nil .nil .nil) .nil) .nil) env S) (Z.sq (I_Sizes_____lt___1 : IC).sem) := by rw [I_Sizes_____lt__]; exact TS_sq
def F_Sizes_____lt__ : FnE := ⟨"Sizes.__lt__", 2, defS 2 2 I_Sizes_____lt__.sem, 7⟩
theorem T_Sizes_____lt__ {w0 w1 : W} {S : Store} {P : RW → Store → Prop} {E : Exn → Store → Prop} (h : Dn.TS (I_Sizes_____lt__.sem [some w0, some w1] S) (EnD S.length P E)) : Dn.T ((F_Sizes_____lt__).sem [w0, w1] S) P E := Dn.T_def (np := 2) (nN := 2) (f := I_Sizes_____lt__.sem) (ws := [w0, w1]) rfl h
theorem sc_Sizes_____lt__ : FnScope ["self", "other"] ["self", "other"] (defScope (mtop 19 12)) := ⟨rfl, rfl, rfl, by decide +kernel, rfl, by decide +kernel, by decide +kernel⟩
theorem ck_Sizes_____lt__ : (I_Sizes_____lt__.chk ["self", "other"] (defScope (mtop 19 12))).b (defBody (mtop 19 12)) = true := by kernel_rfl
def I_Sizes_____le___1 : IC := .cons (.ret (.cmp .eq (.ap (fldR ["Sizes"] "ranges") (.ap (binR .BitAnd [("Sizes", F_Sizes_____and__)]) (.var 0) (.var 1)) .nil) (.ap (fldR ["Sizes"] "ranges") (.var 0) .nil))) .nil
@[simp] theorem s_Sizes_____le___1 {env : Dn.Env} {S : Store} {Z : En} : Dn.TS ((I_Sizes_____le___1).sem env S) Z = Dn.TS (IC.sem (.ret (.cmp .eq (.ap (fldR ["Sizes"] "ranges") (.ap (binR .BitAnd [("Sizes", F_Sizes_____and__)]) (.var 0) (.var 1)) .nil) (.ap (fldR ["Sizes"] "ranges") (.var 0) .nil))) env S) (Z.sq (.nil : IC).sem) := by rw [I_Sizes_____le___1]; exact TS_sq
def I_Sizes_____le__ : IC := .cons (.ife (.not (.ap (iscR "Sizes" [("Sizes", true)]) (.var 1) .nil)) (.cons (.sp nimR .nil .nil .nil .nil .nil) .nil) .nil) I_Sizes_____le___1
@[simp] theorem s_Sizes_____le__ {env : Dn.Env} {S : Store} {Z : En} : Dn.TS ((I_Sizes_____le__).sem env S) Z = Dn.TS (IC.sem (.ife (.not (.ap (iscR "Sizes" [("Sizes", true)]) (.var 1) .nil)) (.cons (.sp nimR .nil .nil .nil .nil .nil) .nil) .nil) env S) (Z.sq (I_Sizes_____le___1 : IC).sem) := by rw [I_Sizes_____le__]; exact TS_sq
def F_Sizes_____le__ : FnE := ⟨"Sizes.__le__", 2, defS 2 2 I_Sizes_____le__.sem, 7⟩
theorem T_Sizes_____le__ {w0 w1 : W} {S : Store} {P : RW → Store → Prop} {E : Exn → Store → Prop} (h : Dn.TS (I_Sizes_____le__.sem [some w0, some w1] S) (EnD S.length P E)) : Dn.T ((F_Sizes_____le__).sem [w0, w1] S) P E := Dn.T_def (np := 2) (nN := 2) (f := I_Sizes_____le__.sem) (ws := [w0, w1]) rfl h
theorem sc_Sizes_____le__ : FnScope ["self", "other"] ["self", "other"] (defScope (mtop 19 11)) := ⟨rfl, rfl, rfl, by decide +kernel, rfl, by decide +kernel, by decide +kernel⟩
theorem ck_Sizes_____le__ : (I_Sizes_____le__.chk ["self", "other"] (defScope (mtop 19 11))).b (defBody (mtop 19 11)) = true := by kernel_rfl
def I__law_pair_7 : IC := .cons (.ret (.and (.call (F__law_alike 3) (.cons (.var 10) (.cons (.var 9) .nil))) (.and (.call F__law_agrees (.cons (.var 0) (.cons (.var 2) (.cons (.var 3) .nil)))) (.and1 (.call F__law_agrees (.cons (.var 1) (.cons (.var 2) (.cons (.var 4) .nil)))))))) .nil
@[simp] theorem s__law_pair_7 {env : Dn.Env} {S : Store} {Z : En} : Dn.TS ((I__law_pair_7).sem env S) Z = Dn.TS (IC.sem (.ret (.and (.call (F__law_alike 3) (.cons (.var 10) (.cons (.var 9) .nil))) (.and (.call F__law_agrees (.cons (.var 0) (.cons (.var 2) (.cons (.var 3) .nil)))) (.and1 (.call F__law_agrees (.cons (.var 1) (.cons (.var 2) (.cons (.var 4) .nil)))))))) env S) (Z.sq (.nil : IC).sem) := by rw [I__law_pair_7]; exact TS_sq
def I__law_pair_6 : IC := .cons (.set 10 false (.lst (.cons (.ap (cmpR .LtE [("Sizes", F_Sizes_____le__)]) (.var 0) (.var 1)) (.cons (.ap (cmpR .Lt [("Sizes", F_Sizes_____lt__)]) (.var 0) (.var 1)) (.cons (.ap (cmpR .GtE [("Sizes", F_Sizes_____ge__)]) (.var 0) (.var 1)) (.cons (.ap (cmpR .Gt [("Sizes", F_Sizes_____gt__)]) (.var 0) (.var 1)) (.cons (.ap (cmpR .Eq [("Sizes", F_Sizes_____eq__)]) (.var 0) (.var 1)) (.cons (.ap (neR [("Sizes", F_Sizes_____eq__)]) (.var 0) (.var 1)) .nil)))))))) I__law_pair_7
@[simp] theorem s__law_pair_6 {env : Dn.Env} {S : Store} {Z : En} : Dn.TS ((I__law_pair_6).sem env S) Z = Dn.TS (IC.sem (.set 10 false (.lst (.cons (.ap (cmpR .LtE [("Sizes", F_Sizes_____le__)]) (.var 0) (.var 1)) (.cons (.ap (cmpR .Lt [("Sizes", F_Sizes_____lt__)]) (.var 0) (.var 1)) (.cons (.ap (cmpR .GtE [("Sizes", F_Sizes_____ge__)]) (.var 0) (.var 1)) (.cons (.ap (cmpR .Gt [("Sizes", F_Sizes_____gt__)]) (.var 0) (.var 1)) (.cons (.ap (cmpR .Eq [("Sizes", F_Sizes_____eq__)]) (.var 0) (.var 1)) (.cons (.ap (neR [("Sizes", F_Sizes_____eq__)]) (.var 0) (.var 1)) .nil)))))))) env S) (Z.sq (I__law_pair_7 : IC).sem) := by rw [I__law_pair_6]; exact TS_sq
def I__law_pair_5 : IC := .cons (.set 9 false (.lst (.cons (.var 7) (.cons (.and (.var 7) (.and1 (.not (.var 8)))) (.cons (.var 8) (.cons (.and (.var 8) (.and1 (.not (.var 7)))) (.cons (.and (.var 7) (.and1 (.var 8))) (.cons (.not (.and (.var 7) (.and1 (.var 8)))) .nil)))))))) I__law_pair_6
@[simp] theorem s__law_pair_5 {env : Dn.Env} {S : Store} {Z : En} : Dn.TS ((I__law_pair_5).sem env S) Z = Dn.TS (IC.sem (.set 9 false (.lst (.cons (.var 7) (.cons (.and (.var 7) (.and1 (.not (.var 8)))) (.cons (.var 8) (.cons (.and (.var 8) (.and1 (.not (.var 7)))) (.cons (.and (.var 7) (.and1 (.var 8))) (.cons (.not (.and (.var 7) (.and1 (.var 8)))) .nil)))))))) env S) (Z.sq (I__law_pair_6 : IC).sem) := by rw [I__law_pair_5]; exact TS_sq
def I__law_pair_4 : IC := .cons (.set 8 false (.cmp .eq (.var 5) (.var 4))) I__law_pair_5
@[simp] theorem s__law_pair_4 {env : Dn.Env} {S : Store} {Z : En} : Dn.TS ((I__law_pair_4).sem env S) Z = Dn.TS (IC.sem (.set 8 false (.cmp .eq (.var 5) (.var 4))) env S) (Z.sq (I__law_pair_5 : IC).sem) := by rw [I__law_pair_4]; exact TS_sq
def I__law_pair_3 : IC := .cons (.set 7 false (.cmp .eq (.var 5) (.var 3))) I__law_pair_4
@[simp] theorem s__law_pair_3 {env : Dn.Env} {S : Store} {Z : En} : Dn.TS ((I__law_pair_3).sem env S) Z = Dn.TS (IC.sem (.set 7 false (.cmp .eq (.var 5) (.var 3))) env S) (Z.sq (I__law_pair_4 : IC).sem) := by rw [I__law_pair_3]; exact TS_sq
def I__law_pair_2 : IC := .cons (.ife (.or (.not (.call F__law_agrees (.cons (.ap (binR .BitAnd [("Sizes", F_Sizes_____and__)]) (.var 0) (.var 1)) (.cons (.var 2) (.cons (.var 5) .nil))))) (.or1 (.not (.call F__law_agrees (.cons (.ap (binR .BitOr [("Sizes", F_Sizes_____or__)]) (.var 0) (.var 1)) (.cons (.var 2) (.cons (.var 6) .nil))))))) (.cons (.ret (.cst (.bl false))) .nil) .nil) I__law_pair_3
@[simp] theorem s__law_pair_2 {env : Dn.Env} {S : Store} {Z : En} : Dn.TS ((I__law_pair_2).sem env S) Z = Dn.TS (IC.sem (.ife (.or (.not (.call F__law_agrees (.cons (.ap (binR .BitAnd [("Sizes", F_Sizes_____and__)]) (.var 0) (.var 1)) (.cons (.var 2) (.cons (.var 5) .nil))))) (.or1 (.not (.call F__law_agrees (.cons (.ap (binR .BitOr [("Sizes", F_Sizes_____or__)]) (.var 0) (.var 1)) (.cons (.var 2) (.cons (.var 6) .nil))))))) (.cons (.ret (.cst (.bl false))) .nil) .nil) env S) (Z.sq (I__law_pair_3 : IC).sem) := by rw [I__law_pair_2]; exact TS_sq
def I__law_pair_1 : IC := .cons (.setL 6 false (.lc [("_law_k", 11)] (.nm 11) (.rng (.cons (.blt .len (.cons (.var 2) .nil)) .nil)) .yes (.or (.ix (.var 3) (.var 11)) (.or1 (.ix (.var 4) (.var 11)))))) I__law_pair_2
@[simp] theorem s__law_pair_1 {env : Dn.Env} {S : Store} {Z : En} : Dn.TS ((I__law_pair_1).sem env S) Z = Dn.TS (IC.sem (.setL 6 false (.lc [("_law_k", 11)] (.nm 11) (.rng (.cons (.blt .len (.cons (.var 2) .nil)) .nil)) .yes (.or (.ix (.var 3) (.var 11)) (.or1 (.ix (.var 4) (.var 11)))))) env S) (Z.sq (I__law_pair_2 : IC).sem) := by rw [I__law_pair_1]; exact TS_sq
def I__law_pair : IC := .cons (.setL 5 false (.lc [("_law_k", 11)] (.nm 11) (.rng (.cons (.blt .len (.cons (.var 2) .nil)) .nil)) .yes (.and (.ix (.var 3) (.var 11)) (.and1 (.ix (.var 4) (.var 11)))))) I__law_pair_1
@[simp] theorem s__law_pair {env : Dn.Env} {S : Store} {Z : En} : Dn.TS ((I__law_pair).sem env S) Z = Dn.TS (IC.sem (.setL 5 false (.lc [("_law_k", 11)] (.nm 11) (.rng (.cons (.blt .len (.cons (.var 2) .nil)) .nil)) .yes (.and (.ix (.var 3) (.var 11)) (.and1 (.ix (.var 4) (.var 11)))))) env S) (Z.sq (I__law_pair_1 : IC).sem) := by rw [I__law_pair]; exact TS_sq
def F__law_pair : FnE := ⟨"_law_pair", 5, defS 5 12 I__law_pair.sem, 8⟩
theorem T__law_pair {w0 w1 w2 w3 w4 : W} {S : Store} {P : RW → Store → Prop} {E : Exn → Store → Prop} (h : Dn.TS (I__law_pair.sem [some w0, some w1, some w2, some w3, some w4, none, none, none, none, none, none, none] S) (EnD S.length P E)) : Dn.T ((F__law_pair).sem [w0, w1, w2, w3, w4] S) P E := Dn.T_def (np := 5) (nN := 12) (f := I__law_pair.sem) (ws := [w0, w1, w2, w3, w4]) rfl h
theorem sc__law_pair : FnScope ["_law_s", "_law_t", "_law_numbers", "_law_first", "_law_second", "_law_both", "_law_either", "_law_under", "_law_over", "_law_due", "_law_told", "_law_k"] ["_law_s", "_law_t", "_law_numbers", "_law_first", "_law_second"] (defScope (top 30)) := ⟨rfl, rfl, rfl, by decide +kernel, rfl, by decide +kernel, by decide +kernel⟩
theorem ck__law_pair : (I__law_pair.chk ["_law_s", "_law_t", "_law_numbers", "_law_first", "_law_second", "_law_both", "_law_either", "_law_under", "_law_over", "_law_due", "_law_told", "_law_k"] (defScope (top 30))).b (defBody (top 30)) = true := by kernel_rfl
def I__law_merged_b1 : IC := .cons (.ife (.call F__law_in (.cons (.var 0) (.cons (.var 2) .nil))) (.cons (.ife (.call F__law_in (.cons (.var 0) (.cons (.bin .sub (.var 2) (.cst (.int 1))) .nil))) (.cons (.sto (.var 1) (.neg (.cst (.int 1))) (.tup (.cons (.ix (.ix (.var 1) (.neg (.cst (.int 1)))) (.cst (.int 0))) (.cons (.var 2) .nil)))) .nil) (.cons (.drop (.meth .append (.var 1) (.cons (.tup (.cons (.var 2) (.cons (.var 2) .nil))) .nil))) .nil)) .nil) .nil) .nil
@[simp] theorem s__law_merged_b1 {env : Dn.Env} {S : Store} {Z : En} : Dn.TS ((I__law_merged_b1).sem env S) Z = Dn.TS (IC.sem (.ife (.call F__law_in (.cons (.var 0) (.cons (.var 2) .nil))) (.cons (.ife (.call F__law_in (.cons (.var 0) (.cons (.bin .sub (.var 2) (.cst (.int 1))) .nil))) (.cons (.sto (.var 1) (.neg (.cst (.int 1))) (.tup (.cons (.ix (.ix (.var 1) (.neg (.cst (.int 1)))) (.cst (.int 0))) (.cons (.var 2) .nil)))) .nil) (.cons (.drop (.meth .append (.var 1) (.cons (.tup (.cons (.var 2) (.cons (.var 2) .nil))) .nil))) .nil)) .nil) .nil) env S) (Z.sq (.nil : IC).sem) := by rw [I__law_merged_b1]; exact TS_sq
def I__law_merged_3 : IC := .cons (.ret (.var 1)) .nil
@[simp] theorem s__law_merged_3 {env : Dn.Env} {S : Store} {Z : En} : Dn.TS ((I__law_merged_3).sem env S) Z = Dn.TS (IC.sem (.ret (.var 1)) env S) (Z.sq (.nil : IC).sem) := by rw [I__law_merged_3]; exact TS_sq
def I__law_merged_2 : IC := .cons (.ife (.cmp .gt (.blt .len (.cons (.lc [("_law_pair_here", 3)] (.nm 3) (.over (.var 0)) (.isN false (.ix (.var 3) (.cst (.int 1)))) (.var 3)) .nil)) (.cst (.int 0))) (.cons (.sto (.var 1) (.neg (.cst (.int 1))) (.tup (.cons (.ix (.ix (.var 1) (.neg (.cst (.int 1)))) (.cst (.int 0))) (.cons (.cst .non) .nil)))) .nil) .nil) I__law_merged_3
@[simp] theorem s__law_merged_2 {env : Dn.Env} {S : Store} {Z : En} : Dn.TS ((I__law_merged_2).sem env S) Z = Dn.TS (IC.sem (.ife (.cmp .gt (.blt .len (.cons (.lc [("_law_pair_here", 3)] (.nm 3) (.over (.var 0)) (.isN false (.ix (.var 3) (.cst (.int 1)))) (.var 3)) .nil)) (.cst (.int 0))) (.cons (.sto (.var 1) (.neg (.cst (.int 1))) (.tup (.cons (.ix (.ix (.var 1) (.neg (.cst (.int 1)))) (.cst (.int 0))) (.cons (.cst .non) .nil)))) .nil) .nil) env S) (Z.sq (I__law_merged_3 : IC).sem) := by rw [I__law_merged_2]; exact TS_sq
def I__law_merged_1 : IC := .cons (.fr (.nm 2) (.rng (.cons (.cst (.int 1)) (.cons (.cst (.int 100)) .nil))) I__law_merged_b1) I__law_merged_2
@[simp] theorem s__law_merged_1 {env : Dn.Env} {S : Store} {Z : En} : Dn.TS ((I__law_merged_1).sem env S) Z = Dn.TS (IC.sem (.fr (.nm 2) (.rng (.cons (.cst (.int 1)) (.cons (.cst (.int 100)) .nil))) I__law_merged_b1) env S) (Z.sq (I__law_merged_2 : IC).sem) := by rw [I__law_merged_1]; exact TS_sq
def I__law_merged : IC := .cons (.set 1 true (.lst .nil)) I__law_merged_1
@[simp] theorem s__law_merged {env : Dn.Env} {S : Store} {Z : En} : Dn.TS ((I__law_merged).sem env S) Z = Dn.TS (IC.sem (.set 1 true (.lst .nil)) env S) (Z.sq (I__law_merged_1 : IC).sem) := by rw [I__law_merged]; exact TS_sq
def F__law_merged : FnE := ⟨"_law_merged", 1, defS 1 4 I__law_merged.sem, 2⟩
theorem T__law_merged {w0 : W} {S : Store} {P : RW → Store → Prop} {E : Exn → Store → Prop} (h : Dn.TS (I__law_merged.sem [some w0, none, none, none] S) (EnD S.length P E)) : Dn.T ((F__law_merged).sem [w0] S) P E := Dn.T_def (np := 1) (nN := 4) (f := I__law_merged.sem) (ws := [w0]) rfl h
theorem sc__law_merged : FnScope ["_law_ranges", "_law_rows", "_law_number", "_law_pair_here"] ["_law_ranges"] (defScope (top 26)) := ⟨rfl, rfl, rfl, by decide +kernel, rfl, by decide +kernel, by decide +kernel⟩
theorem ck__law_merged : (I__law_merged.chk ["_law_ranges", "_law_rows", "_law_number", "_law_pair_here"] (defScope (top 26))).b (defBody (top 26)) = true := by kernel_rfl
def I_Sizes_____lshift___1 : IC := .cons (.ret (.ap (newKR "Sizes" "checked" F_Sizes_____init__) (.cst (.bl false)) (.cons (.lc [("low", 3), ("high", 4)] (.tp [3, 4]) (.over (.var 2)) (.cmp .le (.var 3) (.var 4)) (.tup (.cons (.var 3) (.cons (.var 4) .nil)))) .nil))) .nil
@[simp] theorem s_Sizes_____lshift___1 {env : Dn.Env} {S : Store} {Z : En} : Dn.TS ((I_Sizes_____lshift___1).sem env S) Z = Dn.TS (IC.sem (.ret (.ap (newKR "Sizes" "checked" F_Sizes_____init__) (.cst (.bl false)) (.cons (.lc [("low", 3), ("high", 4)] (.tp [3, 4]) (.over (.var 2)) (.cmp .le (.var 3) (.var 4)) (.tup (.cons (.var 3) (.cons (.var 4) .nil)))) .nil))) env S) (Z.sq (.nil : IC).sem) := by rw [I_Sizes_____lshift___1]; exact TS_sq
def I_Sizes_____lshift__ : IC := .cons (.setL 2 false (.lc [("low", 3), ("high", 4)] (.tp [3, 4]) (.over (.ap (fldR ["Sizes"] "ranges") (.var 0) .nil)) .yes (.tup (.cons (.var 3) (.cons (.call F_nearest (.cons (.var 4) (.cons (.var 1) .nil))) .nil))))) I_Sizes_____lshift___1
@[simp] theorem s_Sizes_____lshift__ {env : Dn.Env} {S : Store} {Z : En} : Dn.TS ((I_Sizes_____lshift__).sem env S) Z = Dn.TS (IC.sem (.setL 2 false (.lc [("low", 3), ("high", 4)] (.tp [3, 4]) (.over (.ap (fldR ["Sizes"] "ranges") (.var 0) .nil)) .yes (.tup (.cons (.var 3) (.cons (.call F_nearest (.cons (.var 4) (.cons (.var 1) .nil))) .nil))))) env S) (Z.sq (I_Sizes_____lshift___1 : IC).sem) := by rw [I_Sizes_____lshift__]; exact TS_sq
def F_Sizes_____lshift__ : FnE := ⟨"Sizes.__lshift__", 2, defS 2 5 I_Sizes_____lshift__.sem, 6⟩
theorem T_Sizes_____lshift__ {w0 w1 : W} {S : Store} {P : RW → Store → Prop} {E : Exn → Store → Prop} (h : Dn.TS (I_Sizes_____lshift__.sem [some w0, some w1, none, none, none] S) (EnD S.length P E)) : Dn.T ((F_Sizes_____lshift__).sem [w0, w1] S) P E := Dn.T_def (np := 2) (nN := 5) (f := I_Sizes_____lshift__.sem) (ws := [w0, w1]) rfl h
theorem sc_Sizes_____lshift__ : FnScope ["self", "number", "rows", "low", "high"] ["self", "number"] (defScope (mtop 19 10)) := ⟨rfl, rfl, rfl, by decide +kernel, rfl, by decide +kernel, by decide +kernel⟩
theorem ck_Sizes_____lshift__ : (I_Sizes_____lshift__.chk ["self", "number", "rows", "low", "high"] (defScope (mtop 19 10))).b (defBody (mtop 19 10)) = true := by kernel_rfl
def I_Sizes_____rshift___1 : IC := .cons (.ret (.ap (newKR "Sizes" "checked" F_Sizes_____init__) (.cst (.bl false)) (.cons (.lc [("low", 3), ("high", 4)] (.tp [3, 4]) (.over (.var 2)) (.or (.isN false (.var 4)) (.or1 (.cmp .le (.var 3) (.var 4)))) (.tup (.cons (.var 3) (.cons (.var 4) .nil)))) .nil))) .nil
@[simp] theorem s_Sizes_____rshift___1 {env : Dn.Env} {S : Store} {Z : En} : Dn.TS ((I_Sizes_____rshift___1).sem env S) Z = Dn.TS (IC.sem (.ret (.ap (newKR "Sizes" "checked" F_Sizes_____init__) (.cst (.bl false)) (.cons (.lc [("low", 3), ("high", 4)] (.tp [3, 4]) (.over (.var 2)) (.or (.isN false (.var 4)) (.or1 (.cmp .le (.var 3) (.var 4)))) (.tup (.cons (.var 3) (.cons (.var 4) .nil)))) .nil))) env S) (Z.sq (.nil : IC).sem) := by rw [I_Sizes_____rshift___1]; exact TS_sq
def I_Sizes_____rshift__ : IC := .cons (.setL 2 false (.lc [("low", 3), ("high", 4)] (.tp [3, 4]) (.over (.ap (fldR ["Sizes"] "ranges") (.var 0) .nil)) .yes (.tup (.cons (.call F_larger (.cons (.var 3) (.cons (.var 1) .nil))) (.cons (.var 4) .nil))))) I_Sizes_____rshift___1
@[simp] theorem s_Sizes_____rshift__ {env : Dn.Env} {S : Store} {Z : En} : Dn.TS ((I_Sizes_____rshift__).sem env S) Z = Dn.TS (IC.sem (.setL 2 false (.lc [("low", 3), ("high", 4)] (.tp [3, 4]) (.over (.ap (fldR ["Sizes"] "ranges") (.var 0) .nil)) .yes (.tup (.cons (.call F_larger (.cons (.var 3) (.cons (.var 1) .nil))) (.cons (.var 4) .nil))))) env S) (Z.sq (I_Sizes_____rshift___1 : IC).sem) := by rw [I_Sizes_____rshift__]; exact TS_sq
def F_Sizes_____rshift__ : FnE := ⟨"Sizes.__rshift__", 2, defS 2 5 I_Sizes_____rshift__.sem, 6⟩
theorem T_Sizes_____rshift__ {w0 w1 : W} {S : Store} {P : RW → Store → Prop} {E : Exn → Store → Prop} (h : Dn.TS (I_Sizes_____rshift__.sem [some w0, some w1, none, none, none] S) (EnD S.length P E)) : Dn.T ((F_Sizes_____rshift__).sem [w0, w1] S) P E := Dn.T_def (np := 2) (nN := 5) (f := I_Sizes_____rshift__.sem) (ws := [w0, w1]) rfl h
theorem sc_Sizes_____rshift__ : FnScope ["self", "number", "rows", "low", "high"] ["self", "number"] (defScope (mtop 19 9)) := ⟨rfl, rfl, rfl, by decide +kernel, rfl, by decide +kernel, by decide +kernel⟩
theorem ck_Sizes_____rshift__ : (I_Sizes_____rshift__.chk ["self", "number", "rows", "low", "high"] (defScope (mtop 19 9))).b (defBody (mtop 19 9)) = true := by kernel_rfl
def I_range_text_2 : IC := .cons (.ret (.ap (fsR [.a, .c "-", .b]) (.var 0) (.var 1))) .nil
@[simp] theorem s_range_text_2 {env : Dn.Env} {S : Store} {Z : En} : Dn.TS ((I_range_text_2).sem env S) Z = Dn.TS (IC.sem (.ret (.ap (fsR [.a, .c "-", .b]) (.var 0) (.var 1))) env S) (Z.sq (.nil : IC).sem) := by rw [I_range_text_2]; exact TS_sq
def I_range_text_1 : IC := .cons (.ife (.cmp .eq (.var 0) (.var 1)) (.cons (.ret (.blt .str (.cons (.var 0) .nil))) .nil) .nil) I_range_text_2
@[simp] theorem s_range_text_1 {env : Dn.Env} {S : Store} {Z : En} : Dn.TS ((I_range_text_1).sem env S) Z = Dn.TS (IC.sem (.ife (.cmp .eq (.var 0) (.var 1)) (.cons (.ret (.blt .str (.cons (.var 0) .nil))) .nil) .nil) env S) (Z.sq (I_range_text_2 : IC).sem) := by rw [I_range_text_1]; exact TS_sq
def I_range_text : IC := .cons (.ife (.isN false (.var 1)) (.cons (.ret (.ap (fsR [.a, .c "-"]) (.var 0) .nil)) .nil) .nil) I_range_text_1
@[simp] theorem s_range_text {env : Dn.Env} {S : Store} {Z : En} : Dn.TS ((I_range_text).sem env S) Z = Dn.TS (IC.sem (.ife (.isN false (.var 1)) (.cons (.ret (.ap (fsR [.a, .c "-"]) (.var 0) .nil)) .nil) .nil) env S) (Z.sq (I_range_text_1 : IC).sem) := by rw [I_range_text]; exact TS_sq
def F_range_text : FnE := ⟨"range_text", 2, defS 2 2 I_range_text.sem, 1⟩
theorem T_range_text {w0 w1 : W} {S : Store} {P : RW → Store → Prop} {E : Exn → Store → Prop} (h : Dn.TS (I_range_text.sem [some w0, some w1] S) (EnD S.length P E)) : Dn.T ((F_range_text).sem [w0, w1] S) P E := Dn.T_def (np := 2) (nN := 2) (f := I_range_text.sem) (ws := [w0, w1]) rfl h
theorem sc_range_text : FnScope ["least", "greatest"] ["least", "greatest"] (defScope (top 18)) := ⟨rfl, rfl, rfl, by decide +kernel, rfl, by decide +kernel, by decide +kernel⟩
theorem ck_range_text : (I_range_text.chk ["least", "greatest"] (defScope (top 18))).b (defBody (top 18)) = true := by kernel_rfl
def I_Sizes_____str___1 : IC := .cons (.ret (.meth .join (.cst (.str " ")) (.cons (.lc [("least", 1), ("greatest", 2)] (.tp [1, 2]) (.over (.ap (fldR ["Sizes"] "ranges") (.var 0) .nil)) .yes (.call F_range_text (.cons (.var 1) (.cons (.var 2) .nil)))) .nil))) .nil
@[simp] theorem s_Sizes_____str___1 {env : Dn.Env} {S : Store} {Z : En} : Dn.TS ((I_Sizes_____str___1).sem env S) Z = Dn.TS (IC.sem (.ret (.meth .join (.cst (.str " ")) (.cons (.lc [("least", 1), ("greatest", 2)] (.tp [1, 2]) (.over (.ap (fldR ["Sizes"] "ranges") (.var 0) .nil)) .yes (.call F_range_text (.cons (.var 1) (.cons (.var 2) .nil)))) .nil))) env S) (Z.sq (.nil : IC).sem) := by rw [I_Sizes_____str___1]; exact TS_sq
def I_Sizes_____str__ : IC := .cons (.ife (.not (.ap (fldR ["Sizes"] "ranges") (.var 0) .nil)) (.cons (.ret (.cst (.str "none"))) .nil) .nil) I_Sizes_____str___1
@[simp] theorem s_Sizes_____str__ {env : Dn.Env} {S : Store} {Z : En} : Dn.TS ((I_Sizes_____str__).sem env S) Z = Dn.TS (IC.sem (.ife (.not (.ap (fldR ["Sizes"] "ranges") (.var 0) .nil)) (.cons (.ret (.cst (.str "none"))) .nil) .nil) env S) (Z.sq (I_Sizes_____str___1 : IC).sem) := by rw [I_Sizes_____str__]; exact TS_sq
def F_Sizes_____str__ : FnE := ⟨"Sizes.__str__", 1, defS 1 3 I_Sizes_____str__.sem, 2⟩
theorem T_Sizes_____str__ {w0 : W} {S : Store} {P : RW → Store → Prop} {E : Exn → Store → Prop} (h : Dn.TS (I_Sizes_____str__.sem [some w0, none, none] S) (EnD S.length P E)) : Dn.T ((F_Sizes_____str__).sem [w0] S) P E := Dn.T_def (np := 1) (nN := 3) (f := I_Sizes_____str__.sem) (ws := [w0]) rfl h
theorem sc_Sizes_____str__ : FnScope ["self", "least", "greatest"] ["self"] (defScope (mtop 19 4)) := ⟨rfl, rfl, rfl, by decide +kernel, rfl, by decide +kernel, by decide +kernel⟩
theorem ck_Sizes_____str__ : (I_Sizes_____str__.chk ["self", "least", "greatest"] (defScope (mtop 19 4))).b (defBody (mtop 19 4)) = true := by kernel_rfl
def I__law_sets_b1_1 : IC := .cons (.ife (.isN true (.ix (.var 5) (.cst (.int 1)))) (.cons (.set 4 false (.bin .add (.var 4) (.lst (.cons (.bin .sub (.ix (.var 5) (.cst (.int 1))) (.cst (.int 1))) (.cons (.ix (.var 5) (.cst (.int 1))) (.cons (.bin .add (.ix (.var 5) (.cst (.int 1))) (.cst (.int 1))) (.cons (.bin .fdiv (.bin .add (.ix (.var 5) (.cst (.int 0))) (.ix (.var 5) (.cst (.int 1)))) (.cst (.int 2))) .nil))))))) .nil) .nil) .nil
@[simp] theorem s__law_sets_b1_1 {env : Dn.Env} {S : Store} {Z : En} : Dn.TS ((I__law_sets_b1_1).sem env S) Z = Dn.TS (IC.sem (.ife (.isN true (.ix (.var 5) (.cst (.int 1)))) (.cons (.set 4 false (.bin .add (.var 4) (.lst (.cons (.bin .sub (.ix (.var 5) (.cst (.int 1))) (.cst (.int 1))) (.cons (.ix (.var 5) (.cst (.int 1))) (.cons (.bin .add (.ix (.var 5) (.cst (.int 1))) (.cst (.int 1))) (.cons (.bin .fdiv (.bin .add (.ix (.var 5) (.cst (.int 0))) (.ix (.var 5) (.cst (.int 1)))) (.cst (.int 2))) .nil))))))) .nil) .nil) env S) (Z.sq (.nil : IC).sem) := by rw [I__law_sets_b1_1]; exact TS_sq
def I__law_sets_b1 : IC := .cons (.set 4 false (.bin .add (.var 4) (.lst (.cons (.bin .sub (.ix (.var 5) (.cst (.int 0))) (.cst (.int 1))) (.cons (.ix (.var 5) (.cst (.int 0))) (.cons (.bin .add (.ix (.var 5) (.cst (.int 0))) (.cst (.int 1))) .nil)))))) I__law_sets_b1_1
@[simp] theorem s__law_sets_b1 {env : Dn.Env} {S : Store} {Z : En} : Dn.TS ((I__law_sets_b1).sem env S) Z = Dn.TS (IC.sem (.set 4 false (.bin .add (.var 4) (.lst (.cons (.bin .sub (.ix (.var 5) (.cst (.int 0))) (.cst (.int 1))) (.cons (.ix (.var 5) (.cst (.int 0))) (.cons (.bin .add (.ix (.var 5) (.cst (.int 0))) (.cst (.int 1))) .nil)))))) env S) (Z.sq (I__law_sets_b1_1 : IC).sem) := by rw [I__law_sets_b1]; exact TS_sq
def I__law_sets_b2 : IC := .cons (.ife (.or (.not (.call (F__law_alike 3) (.cons (.ap (cmpR .Eq [("Sizes", F_Sizes_____eq__)]) (.var 6) (.var 12)) (.cons (.cst (.bl false)) .nil)))) (.or1 (.not (.call (F__law_alike 3) (.cons (.ap (neR [("Sizes", F_Sizes_____eq__)]) (.var 6) (.var 12)) (.cons (.cst (.bl true)) .nil)))))) (.cons (.ret (.cst (.bl false))) .nil) .nil) .nil
@[simp] theorem s__law_sets_b2 {env : Dn.Env} {S : Store} {Z : En} : Dn.TS ((I__law_sets_b2).sem env S) Z = Dn.TS (IC.sem (.ife (.or (.not (.call (F__law_alike 3) (.cons (.ap (cmpR .Eq [("Sizes", F_Sizes_____eq__)]) (.var 6) (.var 12)) (.cons (.cst (.bl false)) .nil)))) (.or1 (.not (.call (F__law_alike 3) (.cons (.ap (neR [("Sizes", F_Sizes_____eq__)]) (.var 6) (.var 12)) (.cons (.cst (.bl true)) .nil)))))) (.cons (.ret (.cst (.bl false))) .nil) .nil) env S) (Z.sq (.nil : IC).sem) := by rw [I__law_sets_b2]; exact TS_sq
def I__law_sets_11 : IC := .cons (.ret (.and (.call F__law_is_sizes (.cons (.var 6) (.cons (.call F__law_merged (.cons (.var 0) .nil)) .nil))) (.and1 (.call F__law_is_sizes (.cons (.var 7) (.cons (.call F__law_merged (.cons (.var 1) .nil)) .nil)))))) .nil
@[simp] theorem s__law_sets_11 {env : Dn.Env} {S : Store} {Z : En} : Dn.TS ((I__law_sets_11).sem env S) Z = Dn.TS (IC.sem (.ret (.and (.call F__law_is_sizes (.cons (.var 6) (.cons (.call F__law_merged (.cons (.var 0) .nil)) .nil))) (.and1 (.call F__law_is_sizes (.cons (.var 7) (.cons (.call F__law_merged (.cons (.var 1) .nil)) .nil)))))) env S) (Z.sq (.nil : IC).sem) := by rw [I__law_sets_11]; exact TS_sq
def I__law_sets_10 : IC := .cons (.fr (.nm 12) (.over (.lst (.cons (.cst .non) (.cons (.cst (.int 0)) (.cons (.cst (.str "")) (.cons (.ap (call1R "str" (ownStr [("Sizes", F_Sizes_____str__)])) .nil (.cons (.var 6) .nil)) (.cons (.ap (fldR ["Sizes"] "ranges") (.var 6) .nil) (.cons (.blt .list (.cons (.ap (fldR ["Sizes"] "ranges") (.var 6) .nil) .nil)) (.cons (.lst (.cons (.var 6) .nil)) .nil))))))))) I__law_sets_b2) I__law_sets_11
@[simp] theorem s__law_sets_10 {env : Dn.Env} {S : Store} {Z : En} : Dn.TS ((I__law_sets_10).sem env S) Z = Dn.TS (IC.sem (.fr (.nm 12) (.over (.lst (.cons (.cst .non) (.cons (.cst (.int 0)) (.cons (.cst (.str "")) (.cons (.ap (call1R "str" (ownStr [("Sizes", F_Sizes_____str__)])) .nil (.cons (.var 6) .nil)) (.cons (.ap (fldR ["Sizes"] "ranges") (.var 6) .nil) (.cons (.blt .list (.cons (.ap (fldR ["Sizes"] "ranges") (.var 6) .nil) .nil)) (.cons (.lst (.cons (.var 6) .nil)) .nil))))))))) I__law_sets_b2) env S) (Z.sq (I__law_sets_11 : IC).sem) := by rw [I__law_sets_10]; exact TS_sq
def I__law_sets_9 : IC := .cons (.ife (.or (.not (.call F__law_pair (.cons (.ap (binR .RShift [("Sizes", F_Sizes_____rshift__)]) (.var 6) (.var 2)) (.cons (.var 6) (.cons (.var 4) (.cons (.var 10) (.cons (.var 8) .nil))))))) (.or1 (.not (.call F__law_pair (.cons (.var 7) (.cons (.ap (binR .LShift [("Sizes", F_Sizes_____lshift__)]) (.var 7) (.var 3)) (.cons (.var 4) (.cons (.var 9) (.cons (.var 11) .nil))))))))) (.cons (.ret (.cst (.bl false))) .nil) .nil) I__law_sets_10
@[simp] theorem s__law_sets_9 {env : Dn.Env} {S : Store} {Z : En} : Dn.TS ((I__law_sets_9).sem env S) Z = Dn.TS (IC.sem (.ife (.or (.not (.call F__law_pair (.cons (.ap (binR .RShift [("Sizes", F_Sizes_____rshift__)]) (.var 6) (.var 2)) (.cons (.var 6) (.cons (.var 4) (.cons (.var 10) (.cons (.var 8) .nil))))))) (.or1 (.not (.call F__law_pair (.cons (.var 7) (.cons (.ap (binR .LShift [("Sizes", F_Sizes_____lshift__)]) (.var 7) (.var 3)) (.cons (.var 4) (.cons (.var 9) (.cons (.var 11) .nil))))))))) (.cons (.ret (.cst (.bl false))) .nil) .nil) env S) (Z.sq (I__law_sets_10 : IC).sem) := by rw [I__law_sets_9]; exact TS_sq
def I__law_sets_8 : IC := .cons (.ife (.or (.not (.call F__law_pair (.cons (.var 6) (.cons (.var 7) (.cons (.var 4) (.cons (.var 8) (.cons (.var 9) .nil))))))) (.or1 (.not (.call F__law_pair (.cons (.ap (binR .RShift [("Sizes", F_Sizes_____rshift__)]) (.var 6) (.var 2)) (.cons (.ap (binR .LShift [("Sizes", F_Sizes_____lshift__)]) (.var 7) (.var 3)) (.cons (.var 4) (.cons (.var 10) (.cons (.var 11) .nil))))))))) (.cons (.ret (.cst (.bl false))) .nil) .nil) I__law_sets_9
@[simp] theorem s__law_sets_8 {env : Dn.Env} {S : Store} {Z : En} : Dn.TS ((I__law_sets_8).sem env S) Z = Dn.TS (IC.sem (.ife (.or (.not (.call F__law_pair (.cons (.var 6) (.cons (.var 7) (.cons (.var 4) (.cons (.var 8) (.cons (.var 9) .nil))))))) (.or1 (.not (.call F__law_pair (.cons (.ap (binR .RShift [("Sizes", F_Sizes_____rshift__)]) (.var 6) (.var 2)) (.cons (.ap (binR .LShift [("Sizes", F_Sizes_____lshift__)]) (.var 7) (.var 3)) (.cons (.var 4) (.cons (.var 10) (.cons (.var 11) .nil))))))))) (.cons (.ret (.cst (.bl false))) .nil) .nil) env S) (Z.sq (I__law_sets_9 : IC).sem) := by rw [I__law_sets_8]; exact TS_sq
def I__law_sets_7 : IC := .cons (.setL 11 false (.lc [("_law_number", 13)] (.nm 13) (.over (.var 4)) .yes (.and (.call F__law_in (.cons (.var 1) (.cons (.var 13) .nil))) (.and1 (.cmp .le (.var 13) (.var 3)))))) I__law_sets_8
@[simp] theorem s__law_sets_7 {env : Dn.Env} {S : Store} {Z : En} : Dn.TS ((I__law_sets_7).sem env S) Z = Dn.TS (IC.sem (.setL 11 false (.lc [("_law_number", 13)] (.nm 13) (.over (.var 4)) .yes (.and (.call F__law_in (.cons (.var 1) (.cons (.var 13) .nil))) (.and1 (.cmp .le (.var 13) (.var 3)))))) env S) (Z.sq (I__law_sets_8 : IC).sem) := by rw [I__law_sets_7]; exact TS_sq
def I__law_sets_6 : IC := .cons (.setL 10 false (.lc [("_law_number", 13)] (.nm 13) (.over (.var 4)) .yes (.and (.call F__law_in (.cons (.var 0) (.cons (.var 13) .nil))) (.and1 (.cmp .ge (.var 13) (.var 2)))))) I__law_sets_7
@[simp] theorem s__law_sets_6 {env : Dn.Env} {S : Store} {Z : En} : Dn.TS ((I__law_sets_6).sem env S) Z = Dn.TS (IC.sem (.setL 10 false (.lc [("_law_number", 13)] (.nm 13) (.over (.var 4)) .yes (.and (.call F__law_in (.cons (.var 0) (.cons (.var 13) .nil))) (.and1 (.cmp .ge (.var 13) (.var 2)))))) env S) (Z.sq (I__law_sets_7 : IC).sem) := by rw [I__law_sets_6]; exact TS_sq
def I__law_sets_5 : IC := .cons (.setL 9 false (.lc [("_law_number", 13)] (.nm 13) (.over (.var 4)) .yes (.call F__law_in (.cons (.var 1) (.cons (.var 13) .nil))))) I__law_sets_6
@[simp] theorem s__law_sets_5 {env : Dn.Env} {S : Store} {Z : En} : Dn.TS ((I__law_sets_5).sem env S) Z = Dn.TS (IC.sem (.setL 9 false (.lc [("_law_number", 13)] (.nm 13) (.over (.var 4)) .yes (.call F__law_in (.cons (.var 1) (.cons (.var 13) .nil))))) env S) (Z.sq (I__law_sets_6 : IC).sem) := by rw [I__law_sets_5]; exact TS_sq
def I__law_sets_4 : IC := .cons (.setL 8 false (.lc [("_law_number", 13)] (.nm 13) (.over (.var 4)) .yes (.call F__law_in (.cons (.var 0) (.cons (.var 13) .nil))))) I__law_sets_5
@[simp] theorem s__law_sets_4 {env : Dn.Env} {S : Store} {Z : En} : Dn.TS ((I__law_sets_4).sem env S) Z = Dn.TS (IC.sem (.setL 8 false (.lc [("_law_number", 13)] (.nm 13) (.over (.var 4)) .yes (.call F__law_in (.cons (.var 0) (.cons (.var 13) .nil))))) env S) (Z.sq (I__law_sets_5 : IC).sem) := by rw [I__law_sets_4]; exact TS_sq
def I__law_sets_3 : IC := .cons (.set 7 false (.ap (newR "Sizes" F_Sizes_____init__ [(.bl true)]) .nil (.cons (.blt .list (.cons (.var 1) .nil)) .nil))) I__law_sets_4
@[simp] theorem s__law_sets_3 {env : Dn.Env} {S : Store} {Z : En} : Dn.TS ((I__law_sets_3).sem env S) Z = Dn.TS (IC.sem (.set 7 false (.ap (newR "Sizes" F_Sizes_____init__ [(.bl true)]) .nil (.cons (.blt .list (.cons (.var 1) .nil)) .nil))) env S) (Z.sq (I__law_sets_4 : IC).sem) := by rw [I__law_sets_3]; exact TS_sq
def I__law_sets_2 : IC := .cons (.set 6 false (.ap (newR "Sizes" F_Sizes_____init__ [(.bl true)]) .nil (.cons (.blt .list (.cons (.var 0) .nil)) .nil))) I__law_sets_3
@[simp] theorem s__law_sets_2 {env : Dn.Env} {S : Store} {Z : En} : Dn.TS ((I__law_sets_2).sem env S) Z = Dn.TS (IC.sem (.set 6 false (.ap (newR "Sizes" F_Sizes_____init__ [(.bl true)]) .nil (.cons (.blt .list (.cons (.var 0) .nil)) .nil))) env S) (Z.sq (I__law_sets_3 : IC).sem) := by rw [I__law_sets_2]; exact TS_sq
def I__law_sets_1 : IC := .cons (.fr (.nm 5) (.over (.bin .add (.var 0) (.var 1))) I__law_sets_b1) I__law_sets_2
@[simp] theorem s__law_sets_1 {env : Dn.Env} {S : Store} {Z : En} : Dn.TS ((I__law_sets_1).sem env S) Z = Dn.TS (IC.sem (.fr (.nm 5) (.over (.bin .add (.var 0) (.var 1))) I__law_sets_b1) env S) (Z.sq (I__law_sets_2 : IC).sem) := by rw [I__law_sets_1]; exact TS_sq
def I__law_sets : IC := .cons (.set 4 false (.lst (.cons (.cst (.int 0)) (.cons (.cst (.int 1)) (.cons (.cst (.int 99)) (.cons (.cst (.int 100)) (.cons (.neg (.cst (.int 5))) (.cons (.bin .pow (.cst (.int 10)) (.cst (.int 30))) (.cons (.bin .sub (.var 2) (.cst (.int 1))) (.cons (.var 2) (.cons (.bin .add (.var 2) (.cst (.int 1))) (.cons (.bin .sub (.var 3) (.cst (.int 1))) (.cons (.var 3) (.cons (.bin .add (.var 3) (.cst (.int 1))) .nil)))))))))))))) I__law_sets_1
@[simp] theorem s__law_sets {env : Dn.Env} {S : Store} {Z : En} : Dn.TS ((I__law_sets).sem env S) Z = Dn.TS (IC.sem (.set 4 false (.lst (.cons (.cst (.int 0)) (.cons (.cst (.int 1)) (.cons (.cst (.int 99)) (.cons (.cst (.int 100)) (.cons (.neg (.cst (.int 5))) (.cons (.bin .pow (.cst (.int 10)) (.cst (.int 30))) (.cons (.bin .sub (.var 2) (.cst (.int 1))) (.cons (.var 2) (.cons (.bin .add (.var 2) (.cst (.int 1))) (.cons (.bin .sub (.var 3) (.cst (.int 1))) (.cons (.var 3) (.cons (.bin .add (.var 3) (.cst (.int 1))) .nil)))))))))))))) env S) (Z.sq (I__law_sets_1 : IC).sem) := by rw [I__law_sets]; exact TS_sq
def F__law_sets : FnE := ⟨"_law_sets", 4, defS 4 14 I__law_sets.sem, 9⟩
theorem T__law_sets {w0 w1 w2 w3 : W} {S : Store} {P : RW → Store → Prop} {E : Exn → Store → Prop} (h : Dn.TS (I__law_sets.sem [some w0, some w1, some w2, some w3, none, none, none, none, none, none, none, none, none, none] S) (EnD S.length P E)) : Dn.T ((F__law_sets).sem [w0, w1, w2, w3] S) P E := Dn.T_def (np := 4) (nN := 14) (f := I__law_sets.sem) (ws := [w0, w1, w2, w3]) rfl h
theorem sc__law_sets : FnScope ["_law_first", "_law_second", "_law_low", "_law_high", "_law_numbers", "_law_pair_here", "_law_s", "_law_t", "_law_one", "_law_two", "_law_from_low", "_law_to_high", "_law_thing", "_law_number"] ["_law_first", "_law_second", "_law_low", "_law_high"] (defScope (top 31)) := ⟨rfl, rfl, rfl, by decide +kernel, rfl, by decide +kernel, by decide +kernel⟩
theorem ck__law_sets : (I__law_sets.chk ["_law_first", "_law_second", "_law_low", "_law_high", "_law_numbers", "_law_pair_here", "_law_s", "_law_t", "_law_one", "_law_two", "_law_from_low", "_law_to_high", "_law_thing", "_law_number"] (defScope (top 31))).b (defBody (top 31)) = true := by kernel_rfl
def I_law_10 : IC := .cons (.ret (.call F__law_sets (.cons (.lst (.cons (.tup (.cons (.cst (.int 8)) (.cons (.cst (.int 8)) .nil))) (.cons (.tup (.cons (.cst (.int 1)) (.cons (.cst (.int 2)) .nil))) (.cons (.tup (.cons (.cst (.int 4)) (.cons (.cst (.int 6)) .nil))) .nil)))) (.cons (.lst (.cons (.tup (.cons (.cst (.int 2)) (.cons (.cst (.int 4)) .nil))) (.cons (.tup (.cons (.cst (.int 7)) (.cons (.cst .non) .nil))) .nil))) (.cons (.cst (.int 2)) (.cons (.cst (.int 8)) .nil)))))) .nil
@[simp] theorem s_law_10 {env : Dn.Env} {S : Store} {Z : En} : Dn.TS ((I_law_10).sem env S) Z = Dn.TS (IC.sem (.ret (.call F__law_sets (.cons (.lst (.cons (.tup (.cons (.cst (.int 8)) (.cons (.cst (.int 8)) .nil))) (.cons (.tup (.cons (.cst (.int 1)) (.cons (.cst (.int 2)) .nil))) (.cons (.tup (.cons (.cst (.int 4)) (.cons (.cst (.int 6)) .nil))) .nil)))) (.cons (.lst (.cons (.tup (.cons (.cst (.int 2)) (.cons (.cst (.int 4)) .nil))) (.cons (.tup (.cons (.cst (.int 7)) (.cons (.cst .non) .nil))) .nil))) (.cons (.cst (.int 2)) (.cons (.cst (.int 8)) .nil)))))) env S) (Z.sq (.nil : IC).sem) := by rw [I_law_10]; exact TS_sq
def I_law_9 : IC := .cons (.ife (.not (.call F__law_sets (.cons (.lst (.cons (.tup (.cons (.cst (.int 2)) (.cons (.cst (.int 4)) .nil))) (.cons (.tup (.cons (.cst (.int 7)) (.cons (.cst .non) .nil))) .nil))) (.cons (.lst (.cons (.tup (.cons (.cst (.int 8)) (.cons (.cst (.int 8)) .nil))) (.cons (.tup (.cons (.cst (.int 1)) (.cons (.cst (.int 2)) .nil))) (.cons (.tup (.cons (.cst (.int 4)) (.cons (.cst (.int 6)) .nil))) .nil)))) (.cons (.cst (.int 4)) (.cons (.cst (.int 5)) .nil)))))) (.cons (.ret (.cst (.bl false))) .nil) .nil) I_law_10
@[simp] theorem s_law_9 {env : Dn.Env} {S : Store} {Z : En} : Dn.TS ((I_law_9).sem env S) Z = Dn.TS (IC.sem (.ife (.not (.call F__law_sets (.cons (.lst (.cons (.tup (.cons (.cst (.int 2)) (.cons (.cst (.int 4)) .nil))) (.cons (.tup (.cons (.cst (.int 7)) (.cons (.cst .non) .nil))) .nil))) (.cons (.lst (.cons (.tup (.cons (.cst (.int 8)) (.cons (.cst (.int 8)) .nil))) (.cons (.tup (.cons (.cst (.int 1)) (.cons (.cst (.int 2)) .nil))) (.cons (.tup (.cons (.cst (.int 4)) (.cons (.cst (.int 6)) .nil))) .nil)))) (.cons (.cst (.int 4)) (.cons (.cst (.int 5)) .nil)))))) (.cons (.ret (.cst (.bl false))) .nil) .nil) env S) (Z.sq (I_law_10 : IC).sem) := by rw [I_law_9]; exact TS_sq
def I_law_8 : IC := .cons (.ife (.or (.not (.call F__law_sets (.cons (.var 2) (.cons (.var 3) (.cons (.var 5) (.cons (.var 6) .nil)))))) (.or1 (.not (.call F__law_sets (.cons (.var 3) (.cons (.var 2) (.cons (.var 6) (.cons (.var 5) .nil)))))))) (.cons (.ret (.cst (.bl false))) .nil) .nil) I_law_9
@[simp] theorem s_law_8 {env : Dn.Env} {S : Store} {Z : En} : Dn.TS ((I_law_8).sem env S) Z = Dn.TS (IC.sem (.ife (.or (.not (.call F__law_sets (.cons (.var 2) (.cons (.var 3) (.cons (.var 5) (.cons (.var 6) .nil)))))) (.or1 (.not (.call F__law_sets (.cons (.var 3) (.cons (.var 2) (.cons (.var 6) (.cons (.var 5) .nil)))))))) (.cons (.ret (.cst (.bl false))) .nil) .nil) env S) (Z.sq (I_law_9 : IC).sem) := by rw [I_law_8]; exact TS_sq
def I_law_7 : IC := .cons (.set 6 false (.call F__law_integer (.cons (.var 1) .nil))) I_law_8
@[simp] theorem s_law_7 {env : Dn.Env} {S : Store} {Z : En} : Dn.TS ((I_law_7).sem env S) Z = Dn.TS (IC.sem (.set 6 false (.call F__law_integer (.cons (.var 1) .nil))) env S) (Z.sq (I_law_8 : IC).sem) := by rw [I_law_7]; exact TS_sq
def I_law_6 : IC := .cons (.set 5 false (.call F__law_integer (.cons (.var 1) .nil))) I_law_7
@[simp] theorem s_law_6 {env : Dn.Env} {S : Store} {Z : En} : Dn.TS ((I_law_6).sem env S) Z = Dn.TS (IC.sem (.set 5 false (.call F__law_integer (.cons (.var 1) .nil))) env S) (Z.sq (I_law_7 : IC).sem) := by rw [I_law_6]; exact TS_sq
def I_law_5 : IC := .cons (.ife (.cmp .eq (.var 4) (.cst (.int 3))) (.cons (.set 3 false (.ap revR (.call F__law_merged (.cons (.var 2) .nil)) .nil)) .nil) .nil) I_law_6
@[simp] theorem s_law_5 {env : Dn.Env} {S : Store} {Z : En} : Dn.TS ((I_law_5).sem env S) Z = Dn.TS (IC.sem (.ife (.cmp .eq (.var 4) (.cst (.int 3))) (.cons (.set 3 false (.ap revR (.call F__law_merged (.cons (.var 2) .nil)) .nil)) .nil) .nil) env S) (Z.sq (I_law_6 : IC).sem) := by rw [I_law_5]; exact TS_sq
def I_law_4 : IC := .cons (.ife (.cmp .eq (.var 4) (.cst (.int 2))) (.cons (.set 3 false (.bin .add (.var 3) (.var 2))) .nil) .nil) I_law_5
@[simp] theorem s_law_4 {env : Dn.Env} {S : Store} {Z : En} : Dn.TS ((I_law_4).sem env S) Z = Dn.TS (IC.sem (.ife (.cmp .eq (.var 4) (.cst (.int 2))) (.cons (.set 3 false (.bin .add (.var 3) (.var 2))) .nil) .nil) env S) (Z.sq (I_law_5 : IC).sem) := by rw [I_law_4]; exact TS_sq
def I_law_3 : IC := .cons (.set 4 false (.call F__law_draw (.cons (.var 1) (.cons (.cst (.int 4)) .nil)))) I_law_4
@[simp] theorem s_law_3 {env : Dn.Env} {S : Store} {Z : En} : Dn.TS ((I_law_3).sem env S) Z = Dn.TS (IC.sem (.set 4 false (.call F__law_draw (.cons (.var 1) (.cons (.cst (.int 4)) .nil)))) env S) (Z.sq (I_law_4 : IC).sem) := by rw [I_law_3]; exact TS_sq
def I_law_2 : IC := .cons (.set 3 false (.call F__law_list (.cons (.var 1) (.cons (.cst (.int 4)) .nil)))) I_law_3
@[simp] theorem s_law_2 {env : Dn.Env} {S : Store} {Z : En} : Dn.TS ((I_law_2).sem env S) Z = Dn.TS (IC.sem (.set 3 false (.call F__law_list (.cons (.var 1) (.cons (.cst (.int 4)) .nil)))) env S) (Z.sq (I_law_3 : IC).sem) := by rw [I_law_2]; exact TS_sq
def I_law_1 : IC := .cons (.set 2 false (.call F__law_list (.cons (.var 1) (.cons (.cst (.int 4)) .nil)))) I_law_2
@[simp] theorem s_law_1 {env : Dn.Env} {S : Store} {Z : En} : Dn.TS ((I_law_1).sem env S) Z = Dn.TS (IC.sem (.set 2 false (.call F__law_list (.cons (.var 1) (.cons (.cst (.int 4)) .nil)))) env S) (Z.sq (I_law_2 : IC).sem) := by rw [I_law_1]; exact TS_sq
def I_law : IC := .cons (.set 1 true (.call F__law_state (.cons (.var 0) .nil))) I_law_1
@[simp] theorem s_law {env : Dn.Env} {S : Store} {Z : En} : Dn.TS ((I_law).sem env S) Z = Dn.TS (IC.sem (.set 1 true (.call F__law_state (.cons (.var 0) .nil))) env S) (Z.sq (I_law_1 : IC).sem) := by rw [I_law]; exact TS_sq
def F_law : FnE := ⟨"law", 1, defS 1 7 I_law.sem, 10⟩
theorem T_law {w0 : W} {S : Store} {P : RW → Store → Prop} {E : Exn → Store → Prop} (h : Dn.TS (I_law.sem [some w0, none, none, none, none, none, none] S) (EnD S.length P E)) : Dn.T ((F_law).sem [w0] S) P E := Dn.T_def (np := 1) (nN := 7) (f := I_law.sem) (ws := [w0]) rfl h
theorem sc_law : FnScope ["_law_script", "_law_state_here", "_law_first", "_law_second", "_law_kind", "_law_low", "_law_high"] ["_law_script"] (defScope (top 33)) := ⟨rfl, rfl, rfl, by decide +kernel, rfl, by decide +kernel, by decide +kernel⟩
theorem ck_law : (I_law.chk ["_law_script", "_law_state_here", "_law_first", "_law_second", "_law_kind", "_law_low", "_law_high"] (defScope (top 33))).b (defBody (top 33)) = true := by kernel_rfl
section
variable {w : World} {K : PySem.W.Frag} {mg : PySem.Str → Option Value} {base h : Heap}
theorem ok__law_state (X : K.In h) (G : h.Ns mainGlobals mg) (c : He.SaysD fa fn K) (e : ex K = true) : FnOkD PySem.Challenge.pw_samealone_k12_whole_sizes_are_sets w K mg base (caK K) F__law_state := by
  obtain ⟨fd, FT⟩ := c.def_ 0 (d := d__law_state) rfl
  refine def_of (ic := I__law_state) (k := 0) FT sc__law_state (He.glo_ok X G (c.fact 0 (f := .glo "_law_state") rfl)) (FT.bindsN (ps := ["_law_script"]) fun _ _ _ _ _ _ us hl => match us, hl with | [_], _ => rfl) (bn X G c) rfl ck__law_state ?_
  simp only [I__law_state, IC.uses, IE.uses, UsK, Us.su, true_and, and_true]
  repeat' (first | trivial | exact ru_fld (fld_of (ex_0 e)) | exact rs_stf (fld_of (ex_0 e)) | exact ru_isc (isc_of X G (ex_1 e)) | exact rs_rs0 (excN_of X G (ex_2 e)) | exact ru_cat2 | exact rs_nim | exact ru_blt boolG_ok | exact ru_rev | exact rc_lc2 | exact ru_fs | exact rs_aug | exact ri_zip | exact ru_ixG | exact ru_inG | exact ru_dnew | exact rs_dput | exact ru_blt lenG_ok | exact ru_bm popM_ok | exact ru_bm idxM_ok | exact ru_bm splitM_ok | exact ru_bm partM_ok | constructor)
theorem ok__law_draw (X : K.In h) (G : h.Ns mainGlobals mg) (c : He.SaysD fa fn K) (e : ex K = true) : FnOkD PySem.Challenge.pw_samealone_k12_whole_sizes_are_sets w K mg base (caK K) F__law_draw := by
  obtain ⟨fd, FT⟩ := c.def_ 1 (d := d__law_draw) rfl
  refine def_of (ic := I__law_draw) (k := 0) FT sc__law_draw (He.glo_ok X G (c.fact 1 (f := .glo "_law_draw") rfl)) (FT.bindsN (ps := ["_law_state_here", "_law_many"]) fun _ _ _ _ _ _ us hl => match us, hl with | [_, _], _ => rfl) (bn X G c) rfl ck__law_draw ?_
  simp only [I__law_draw, I__law_draw_1, I__law_draw_2, I__law_draw_3, I__law_draw_4, I__law_draw_b4, I__law_draw_b4_1, I__law_draw_b4_2, I__law_draw_b4_3, I__law_draw_b3, I__law_draw_b3_1, I__law_draw_b3_2, I__law_draw_b1, I__law_draw_b1_1, I__law_draw_b1_2, I__law_draw_b1_3, I__law_draw_b2, I__law_draw_b2_1, IC.uses, IE.uses, UsK, Us.su, true_and, and_true]
  repeat' (first | trivial | exact ru_fld (fld_of (ex_0 e)) | exact rs_stf (fld_of (ex_0 e)) | exact ru_isc (isc_of X G (ex_1 e)) | exact rs_rs0 (excN_of X G (ex_2 e)) | exact ru_cat2 | exact rs_nim | exact ru_blt boolG_ok | exact ru_rev | exact rc_lc2 | exact ru_fs | exact rs_aug | exact ri_zip | exact ru_ixG | exact ru_inG | exact ru_dnew | exact rs_dput | exact ru_blt lenG_ok | exact ru_bm popM_ok | exact ru_bm idxM_ok | exact ru_bm splitM_ok | exact ru_bm partM_ok | constructor)
theorem ok__law_list (X : K.In h) (G : h.Ns mainGlobals mg) (c : He.SaysD fa fn K) (e : ex K = true) : FnOkD PySem.Challenge.pw_samealone_k12_whole_sizes_are_sets w K mg base (caK K) F__law_list := by
  obtain ⟨fd, FT⟩ := c.def_ 2 (d := d__law_list) rfl
  refine def_of (ic := I__law_list) (k := 1) FT sc__law_list (He.glo_ok X G (c.fact 2 (f := .glo "_law_list") rfl)) (FT.bindsN (ps := ["_law_state_here", "_law_many"]) fun _ _ _ _ _ _ us hl => match us, hl with | [_, _], _ => rfl) (bn X G c) rfl ck__law_list ?_
  simp only [I__law_list, I__law_list_1, I__law_list_2, I__law_list_3, I__law_list_4, I__law_list_5, I__law_list_b1, I__law_list_b1_1, I__law_list_b1_2, I__law_list_b1_3, I__law_list_b1_4, I__law_list_b1_5, I__law_list_b1_6, I__law_list_b2, I__law_list_b2_1, IC.uses, IE.uses, UsK, Us.su, true_and, and_true]
  repeat' (first | trivial | exact ⟨ok__law_draw X G c e, Nat.le_of_ble_eq_true rfl⟩ | exact ru_fld (fld_of (ex_0 e)) | exact rs_stf (fld_of (ex_0 e)) | exact ru_isc (isc_of X G (ex_1 e)) | exact rs_rs0 (excN_of X G (ex_2 e)) | exact ru_cat2 | exact rs_nim | exact ru_blt boolG_ok | exact ru_rev | exact rc_lc2 | exact ru_fs | exact rs_aug | exact ri_zip | exact ru_ixG | exact ru_inG | exact ru_dnew | exact rs_dput | exact ru_blt lenG_ok | exact ru_bm popM_ok | exact ru_bm idxM_ok | exact ru_bm splitM_ok | exact ru_bm partM_ok | constructor)
theorem ok__law_integer (X : K.In h) (G : h.Ns mainGlobals mg) (c : He.SaysD fa fn K) (e : ex K = true) : FnOkD PySem.Challenge.pw_samealone_k12_whole_sizes_are_sets w K mg base (caK K) F__law_integer := by
  obtain ⟨fd, FT⟩ := c.def_ 3 (d := d__law_integer) rfl
  refine def_of (ic := I__law_integer) (k := 1) FT sc__law_integer (He.glo_ok X G (c.fact 3 (f := .glo "_law_integer") rfl)) (FT.bindsN (ps := ["_law_state_here"]) fun _ _ _ _ _ _ us hl => match us, hl with | [_], _ => rfl) (bn X G c) rfl ck__law_integer ?_
  simp only [I__law_integer, I__law_integer_1, I__law_integer_2, I__law_integer_3, I__law_integer_4, IC.uses, IE.uses, UsK, Us.su, true_and, and_true]
  repeat' (first | trivial | exact ⟨ok__law_draw X G c e, Nat.le_of_ble_eq_true rfl⟩ | exact ru_fld (fld_of (ex_0 e)) | exact rs_stf (fld_of (ex_0 e)) | exact ru_isc (isc_of X G (ex_1 e)) | exact rs_rs0 (excN_of X G (ex_2 e)) | exact ru_cat2 | exact rs_nim | exact ru_blt boolG_ok | exact ru_rev | exact rc_lc2 | exact ru_fs | exact rs_aug | exact ri_zip | exact ru_ixG | exact ru_inG | exact ru_dnew | exact rs_dput | exact ru_blt lenG_ok | exact ru_bm popM_ok | exact ru_bm idxM_ok | exact ru_bm splitM_ok | exact ru_bm partM_ok | constructor)
theorem ok_larger (X : K.In h) (G : h.Ns mainGlobals mg) (c : He.SaysD fa fn K) (e : ex K = true) : FnOkD PySem.Challenge.pw_samealone_k12_whole_sizes_are_sets w K mg base (caK K) F_larger := by
  obtain ⟨fd, FT⟩ := c.def_ 4 (d := d_larger) rfl
  refine def_of (ic := I_larger) (k := 0) FT sc_larger (He.glo_ok X G (c.fact 4 (f := .glo "larger") rfl)) (FT.bindsN (ps := ["first", "second"]) fun _ _ _ _ _ _ us hl => match us, hl with | [_, _], _ => rfl) (bn X G c) rfl ck_larger ?_
  simp only [I_larger, IC.uses, IE.uses, UsK, Us.su, true_and, and_true]
  repeat' (first | trivial | exact ru_fld (fld_of (ex_0 e)) | exact rs_stf (fld_of (ex_0 e)) | exact ru_isc (isc_of X G (ex_1 e)) | exact rs_rs0 (excN_of X G (ex_2 e)) | exact ru_cat2 | exact rs_nim | exact ru_blt boolG_ok | exact ru_rev | exact rc_lc2 | exact ru_fs | exact rs_aug | exact ri_zip | exact ru_ixG | exact ru_inG | exact ru_dnew | exact rs_dput | exact ru_blt lenG_ok | exact ru_bm popM_ok | exact ru_bm idxM_ok | exact ru_bm splitM_ok | exact ru_bm partM_ok | constructor)
theorem ok_furthest (X : K.In h) (G : h.Ns mainGlobals mg) (c : He.SaysD fa fn K) (e : ex K = true) : FnOkD PySem.Challenge.pw_samealone_k12_whole_sizes_are_sets w K mg base (caK K) F_furthest := by
  obtain ⟨fd, FT⟩ := c.def_ 5 (d := d_furthest) rfl
  refine def_of (ic := I_furthest) (k := 1) FT sc_furthest (He.glo_ok X G (c.fact 5 (f := .glo "furthest") rfl)) (FT.bindsN (ps := ["ends"]) fun _ _ _ _ _ _ us hl => match us, hl with | [_], _ => rfl) (bn X G c) rfl ck_furthest ?_
  simp only [I_furthest, I_furthest_1, I_furthest_2, I_furthest_b1, I_furthest_b1_1, IC.uses, IE.uses, UsK, Us.su, true_and, and_true]
  repeat' (first | trivial | exact ⟨ok_larger X G c e, Nat.le_of_ble_eq_true rfl⟩ | exact ru_fld (fld_of (ex_0 e)) | exact rs_stf (fld_of (ex_0 e)) | exact ru_isc (isc_of X G (ex_1 e)) | exact rs_rs0 (excN_of X G (ex_2 e)) | exact ru_cat2 | exact rs_nim | exact ru_blt boolG_ok | exact ru_rev | exact rc_lc2 | exact ru_fs | exact rs_aug | exact ri_zip | exact ru_ixG | exact ru_inG | exact ru_dnew | exact rs_dput | exact ru_blt lenG_ok | exact ru_bm popM_ok | exact ru_bm idxM_ok | exact ru_bm splitM_ok | exact ru_bm partM_ok | constructor)
theorem ok_merged_ranges (X : K.In h) (G : h.Ns mainGlobals mg) (c : He.SaysD fa fn K) (e : ex K = true) : FnOkD PySem.Challenge.pw_samealone_k12_whole_sizes_are_sets w K mg base (caK K) F_merged_ranges := by
  obtain ⟨fd, FT⟩ := c.def_ 6 (d := d_merged_ranges) rfl
  refine def_of (ic := I_merged_ranges) (k := 2) FT sc_merged_ranges (He.glo_ok X G (c.fact 6 (f := .glo "merged_ranges") rfl)) (FT.bindsN (ps := ["ranges"]) fun _ _ _ _ _ _ us hl => match us, hl with | [_], _ => rfl) (bn X G c) rfl ck_merged_ranges ?_
  simp only [I_merged_ranges, I_merged_ranges_1, I_merged_ranges_2, I_merged_ranges_b1, I_merged_ranges_b1_1, IC.uses, IE.uses, UsK, Us.su, true_and, and_true]
  repeat' (first | trivial | exact ⟨ok_furthest X G c e, Nat.le_of_ble_eq_true rfl⟩ | exact ru_fld (fld_of (ex_0 e)) | exact rs_stf (fld_of (ex_0 e)) | exact ru_isc (isc_of X G (ex_1 e)) | exact rs_rs0 (excN_of X G (ex_2 e)) | exact ru_cat2 | exact rs_nim | exact ru_blt boolG_ok | exact ru_rev | exact rc_lc2 | exact ru_fs | exact rs_aug | exact ri_zip | exact ru_ixG | exact ru_inG | exact ru_dnew | exact rs_dput | exact ru_blt lenG_ok | exact ru_bm popM_ok | exact ru_bm idxM_ok | exact ru_bm splitM_ok | exact ru_bm partM_ok | constructor)
theorem ok_check_range (X : K.In h) (G : h.Ns mainGlobals mg) (c : He.SaysD fa fn K) (e : ex K = true) : FnOkD PySem.Challenge.pw_samealone_k12_whole_sizes_are_sets w K mg base (caK K) F_check_range := by
  obtain ⟨fd, FT⟩ := c.def_ 7 (d := d_check_range) rfl
  refine def_of (ic := I_check_range) (k := 0) FT sc_check_range (He.glo_ok X G (c.fact 7 (f := .glo "check_range") rfl)) (FT.bindsN (ps := ["pair"]) fun _ _ _ _ _ _ us hl => match us, hl with | [_], _ => rfl) (bn X G c) rfl ck_check_range ?_
  simp only [I_check_range, I_check_range_1, I_check_range_2, IC.uses, IE.uses, UsK, Us.su, true_and, and_true]
  repeat' (first | trivial | exact g_MOST_SIZE X G c e | exact ru_fld (fld_of (ex_0 e)) | exact rs_stf (fld_of (ex_0 e)) | exact ru_isc (isc_of X G (ex_1 e)) | exact rs_rs0 (excN_of X G (ex_2 e)) | exact ru_cat2 | exact rs_nim | exact ru_blt boolG_ok | exact ru_rev | exact rc_lc2 | exact ru_fs | exact rs_aug | exact ri_zip | exact ru_ixG | exact ru_inG | exact ru_dnew | exact rs_dput | exact ru_blt lenG_ok | exact ru_bm popM_ok | exact ru_bm idxM_ok | exact ru_bm splitM_ok | exact ru_bm partM_ok | constructor)
theorem ok_Sizes_____init__ (X : K.In h) (G : h.Ns mainGlobals mg) (c : He.SaysD fa fn K) (e : ex K = true) : NewOk PySem.Challenge.pw_samealone_k12_whole_sizes_are_sets w K mg base (caK K) "Sizes" F_Sizes_____init__.sem F_Sizes_____init__.np F_Sizes_____init__.lvl [(.bl true)] := by
  obtain ⟨fd, FT⟩ := c.def_ 8 (d := d_Sizes_____init__) rfl
  refine new_of (kwd := [("checked", .bl true)]) (ic := I_Sizes_____init__) (k := 3) FT sc_Sizes_____init__ (He.glo_ok X G (c.fact 8 (f := .glo "Sizes") rfl)) (c.fact 34 (f := .mkr "Sizes") rfl) (bn X G c) (FT.binds0 (ps := ["self", "ranges", "checked"]) 2 (by simp [He.DefD.kws, d_Sizes_____init__]) rfl fun _ _ _ _ _ _ us ks hl hk => match us, ks, hl, hk with | [_, _], [_], _, _ => ⟨_, _, _, _, _, _, rfl, rfl, rfl⟩) rfl ck_Sizes_____init__ ?_
  simp only [I_Sizes_____init__, I_Sizes_____init___1, I_Sizes_____init___b1, IC.uses, IE.uses, UsK, Us.su, true_and, and_true]
  repeat' (first | trivial | exact ⟨ok_merged_ranges X G c e, Nat.le_of_ble_eq_true rfl⟩ | exact ⟨ok_check_range X G c e, Nat.le_of_ble_eq_true rfl⟩ | exact ru_fld (fld_of (ex_0 e)) | exact rs_stf (fld_of (ex_0 e)) | exact ru_isc (isc_of X G (ex_1 e)) | exact rs_rs0 (excN_of X G (ex_2 e)) | exact ru_cat2 | exact rs_nim | exact ru_blt boolG_ok | exact ru_rev | exact rc_lc2 | exact ru_fs | exact rs_aug | exact ri_zip | exact ru_ixG | exact ru_inG | exact ru_dnew | exact rs_dput | exact ru_blt lenG_ok | exact ru_bm popM_ok | exact ru_bm idxM_ok | exact ru_bm splitM_ok | exact ru_bm partM_ok | constructor)
theorem okK_Sizes_____init__ (X : K.In h) (G : h.Ns mainGlobals mg) (c : He.SaysD fa fn K) (e : ex K = true) : NewKOk PySem.Challenge.pw_samealone_k12_whole_sizes_are_sets w K mg base (caK K) "Sizes" "checked" F_Sizes_____init__.sem F_Sizes_____init__.np F_Sizes_____init__.lvl := by
  obtain ⟨fd, FT⟩ := c.def_ 8 (d := d_Sizes_____init__) rfl
  obtain ⟨_, hb⟩ := FT.kbinds0 (ps := ["self", "ranges", "checked"]) 2 ["checked"] [] (fun us _ ws => us ++ ws) (by simp [He.DefD.kws, d_Sizes_____init__]) (fun _ h => nomatch h) (fun r1 _ r3 => r1.append r3) fun _ _ _ _ _ _ us mv ws h1 h2 h3 => match us, mv, ws, h1, h2, h3 with | [_, _], [], [_], _, _, _ => rfl
  refine newK_of (kwd := [("checked", .bl true)]) (n := 1) (ic := I_Sizes_____init__) (kk := 3) FT sc_Sizes_____init__ (He.glo_ok X G (c.fact 8 (f := .glo "Sizes") rfl)) (c.fact 34 (f := .mkr "Sizes") rfl) (bn X G c) rfl hb ck_Sizes_____init__ ?_
  simp only [I_Sizes_____init__, I_Sizes_____init___1, I_Sizes_____init___b1, IC.uses, IE.uses, UsK, Us.su, true_and, and_true]
  repeat' (first | trivial | exact ⟨ok_merged_ranges X G c e, Nat.le_of_ble_eq_true rfl⟩ | exact ⟨ok_check_range X G c e, Nat.le_of_ble_eq_true rfl⟩ | exact ru_fld (fld_of (ex_0 e)) | exact rs_stf (fld_of (ex_0 e)) | exact ru_isc (isc_of X G (ex_1 e)) | exact rs_rs0 (excN_of X G (ex_2 e)) | exact ru_cat2 | exact rs_nim | exact ru_blt boolG_ok | exact ru_rev | exact rc_lc2 | exact ru_fs | exact rs_aug | exact ri_zip | exact ru_ixG | exact ru_inG | exact ru_dnew | exact rs_dput | exact ru_blt lenG_ok | exact ru_bm popM_ok | exact ru_bm idxM_ok | exact ru_bm splitM_ok | exact ru_bm partM_ok | constructor)
theorem ok__law_in (X : K.In h) (G : h.Ns mainGlobals mg) (c : He.SaysD fa fn K) (e : ex K = true) : FnOkD PySem.Challenge.pw_samealone_k12_whole_sizes_are_sets w K mg base (caK K) F__law_in := by
  obtain ⟨fd, FT⟩ := c.def_ 9 (d := d__law_in) rfl
  refine def_of (ic := I__law_in) (k := 0) FT sc__law_in (He.glo_ok X G (c.fact 9 (f := .glo "_law_in") rfl)) (FT.bindsN (ps := ["_law_ranges", "_law_number"]) fun _ _ _ _ _ _ us hl => match us, hl with | [_, _], _ => rfl) (bn X G c) rfl ck__law_in ?_
  simp only [I__law_in, I__law_in_1, I__law_in_b1, IC.uses, IE.uses, UsK, Us.su, true_and, and_true]
  repeat' (first | trivial | exact ru_fld (fld_of (ex_0 e)) | exact rs_stf (fld_of (ex_0 e)) | exact ru_isc (isc_of X G (ex_1 e)) | exact rs_rs0 (excN_of X G (ex_2 e)) | exact ru_cat2 | exact rs_nim | exact ru_blt boolG_ok | exact ru_rev | exact rc_lc2 | exact ru_fs | exact rs_aug | exact ri_zip | exact ru_ixG | exact ru_inG | exact ru_dnew | exact rs_dput | exact ru_blt lenG_ok | exact ru_bm popM_ok | exact ru_bm idxM_ok | exact ru_bm splitM_ok | exact ru_bm partM_ok | constructor)
theorem ok__law_alike (X : K.In h) (G : h.Ns mainGlobals mg) (c : He.SaysD fa fn K) (e : ex K = true) : ∀ n, FnOkD PySem.Challenge.pw_samealone_k12_whole_sizes_are_sets w K mg base (caK K) (F__law_alike n) := by
  obtain ⟨fd, FT⟩ := c.def_ 10 (d := d__law_alike) rfl
  have bn' := FT.bindsN (ps := ["_law_actual", "_law_due"]) fun _ _ _ _ _ _ us hl => match us, hl with | [_, _], _ => rfl
  have gl := He.glo_ok X G (c.fact 10 (f := .glo "_law_alike") rfl)
  intro n
  induction n with
  | zero => exact def_stuck FT gl bn'
  | succ n ih =>
    refine def_of (ic := I__law_alike (F__law_alike n)) (k := 1 + n) FT sc__law_alike gl bn' (bn X G c) rfl (ck__law_alike _ (by cases n <;> rfl) (by cases n <;> rfl)) ?_
    have ih : FnOkD PySem.Challenge.pw_samealone_k12_whole_sizes_are_sets w K mg base (caK K) (F__law_alike n) ∧ (F__law_alike n).lvl ≤ 1 + n := ⟨ih, by cases n <;> exact Nat.le_refl _⟩
    simp only [I__law_alike, I__law_alike_1, I__law_alike_2, I__law_alike_3, I__law_alike_4, I__law_alike_5, I__law_alike_6, I__law_alike_7, I__law_alike_b1, IC.uses, IE.uses, UsK, Us.su, true_and, and_true]
    repeat' (first | trivial | exact ih | exact ru_fld (fld_of (ex_0 e)) | exact rs_stf (fld_of (ex_0 e)) | exact ru_isc (isc_of X G (ex_1 e)) | exact rs_rs0 (excN_of X G (ex_2 e)) | exact ru_cat2 | exact rs_nim | exact ru_blt boolG_ok | exact ru_rev | exact rc_lc2 | exact ru_fs | exact rs_aug | exact ri_zip | exact ru_ixG | exact ru_inG | exact ru_dnew | exact rs_dput | exact ru_blt lenG_ok | exact ru_bm popM_ok | exact ru_bm idxM_ok | exact ru_bm splitM_ok | exact ru_bm partM_ok | constructor)
theorem ok__law_is_sizes (X : K.In h) (G : h.Ns mainGlobals mg) (c : He.SaysD fa fn K) (e : ex K = true) : FnOkD PySem.Challenge.pw_samealone_k12_whole_sizes_are_sets w K mg base (caK K) F__law_is_sizes := by
  obtain ⟨fd, FT⟩ := c.def_ 11 (d := d__law_is_sizes) rfl
  refine def_of (ic := I__law_is_sizes) (k := 4) FT sc__law_is_sizes (He.glo_ok X G (c.fact 11 (f := .glo "_law_is_sizes") rfl)) (FT.bindsN (ps := ["_law_actual", "_law_ranges"]) fun _ _ _ _ _ _ us hl => match us, hl with | [_, _], _ => rfl) (bn X G c) rfl ck__law_is_sizes ?_
  simp only [I__law_is_sizes, IC.uses, IE.uses, UsK, Us.su, true_and, and_true]
  repeat' (first | trivial | exact ⟨ok__law_alike X G c e _, Nat.le_of_ble_eq_true rfl⟩ | exact ru_fld (fld_of (ex_0 e)) | exact rs_stf (fld_of (ex_0 e)) | exact ru_isc (isc_of X G (ex_1 e)) | exact rs_rs0 (excN_of X G (ex_2 e)) | exact ru_cat2 | exact rs_nim | exact ru_blt boolG_ok | exact ru_rev | exact rc_lc2 | exact ru_fs | exact rs_aug | exact ri_zip | exact ru_ixG | exact ru_inG | exact ru_dnew | exact rs_dput | exact ru_blt lenG_ok | exact ru_bm popM_ok | exact ru_bm idxM_ok | exact ru_bm splitM_ok | exact ru_bm partM_ok | constructor)
theorem ok__law_tidy (X : K.In h) (G : h.Ns mainGlobals mg) (c : He.SaysD fa fn K) (e : ex K = true) : FnOkD PySem.Challenge.pw_samealone_k12_whole_sizes_are_sets w K mg base (caK K) F__law_tidy := by
  obtain ⟨fd, FT⟩ := c.def_ 12 (d := d__law_tidy) rfl
  refine def_of (ic := I__law_tidy) (k := 0) FT sc__law_tidy (He.glo_ok X G (c.fact 12 (f := .glo "_law_tidy") rfl)) (FT.bindsN (ps := ["_law_ranges"]) fun _ _ _ _ _ _ us hl => match us, hl with | [_], _ => rfl) (bn X G c) rfl ck__law_tidy ?_
  simp only [I__law_tidy, I__law_tidy_1, I__law_tidy_2, I__law_tidy_3, I__law_tidy_b1, I__law_tidy_b1_1, I__law_tidy_b1_2, I__law_tidy_b1_3, IC.uses, IE.uses, UsK, Us.su, true_and, and_true]
  repeat' (first | trivial | exact ru_fld (fld_of (ex_0 e)) | exact rs_stf (fld_of (ex_0 e)) | exact ru_isc (isc_of X G (ex_1 e)) | exact rs_rs0 (excN_of X G (ex_2 e)) | exact ru_cat2 | exact rs_nim | exact ru_blt boolG_ok | exact ru_rev | exact rc_lc2 | exact ru_fs | exact rs_aug | exact ri_zip | exact ru_ixG | exact ru_inG | exact ru_dnew | exact rs_dput | exact ru_blt lenG_ok | exact ru_bm popM_ok | exact ru_bm idxM_ok | exact ru_bm splitM_ok | exact ru_bm partM_ok | constructor)
theorem ok_Sizes_____contains__ (X : K.In h) (G : h.Ns mainGlobals mg) (c : He.SaysD fa fn K) (e : ex K = true) : MthAt PySem.Challenge.pw_samealone_k12_whole_sizes_are_sets w K mg base (caK K) "__contains__" "Sizes" F_Sizes_____contains__ := by
  obtain ⟨fd, FT⟩ := c.def_ 13 (d := d_Sizes_____contains__) rfl
  refine meth_of (ic := I_Sizes_____contains__) (k := 0) FT sc_Sizes_____contains__ (c.fact 35 (f := .cls "Sizes") rfl) (c.fact 36 (f := .meth "Sizes" "__contains__") rfl) (bn X G c) (FT.bindsN (ps := ["self", "number"]) fun _ _ _ _ _ _ us hl => match us, hl with | [_, _], _ => rfl) ck_Sizes_____contains__ ?_
  simp only [I_Sizes_____contains__, IC.uses, IE.uses, UsK, Us.su, true_and, and_true]
  repeat' (first | trivial | exact ru_fld (fld_of (ex_0 e)) | exact rs_stf (fld_of (ex_0 e)) | exact ru_isc (isc_of X G (ex_1 e)) | exact rs_rs0 (excN_of X G (ex_2 e)) | exact ru_cat2 | exact rs_nim | exact ru_blt boolG_ok | exact ru_rev | exact rc_lc2 | exact ru_fs | exact rs_aug | exact ri_zip | exact ru_ixG | exact ru_inG | exact ru_dnew | exact rs_dput | exact ru_blt lenG_ok | exact ru_bm popM_ok | exact ru_bm idxM_ok | exact ru_bm splitM_ok | exact ru_bm partM_ok | constructor)
theorem ok_Sizes_____bool__ (X : K.In h) (G : h.Ns mainGlobals mg) (c : He.SaysD fa fn K) (e : ex K = true) : MthAt PySem.Challenge.pw_samealone_k12_whole_sizes_are_sets w K mg base (caK K) "__bool__" "Sizes" F_Sizes_____bool__ := by
  obtain ⟨fd, FT⟩ := c.def_ 14 (d := d_Sizes_____bool__) rfl
  refine meth_of (ic := I_Sizes_____bool__) (k := 0) FT sc_Sizes_____bool__ (c.fact 37 (f := .cls "Sizes") rfl) (c.fact 38 (f := .meth "Sizes" "__bool__") rfl) (bn X G c) (FT.bindsN (ps := ["self"]) fun _ _ _ _ _ _ us hl => match us, hl with | [_], _ => rfl) ck_Sizes_____bool__ ?_
  simp only [I_Sizes_____bool__, IC.uses, IE.uses, UsK, Us.su, true_and, and_true]
  repeat' (first | trivial | exact ru_fld (fld_of (ex_0 e)) | exact rs_stf (fld_of (ex_0 e)) | exact ru_isc (isc_of X G (ex_1 e)) | exact rs_rs0 (excN_of X G (ex_2 e)) | exact ru_cat2 | exact rs_nim | exact ru_blt boolG_ok | exact ru_rev | exact rc_lc2 | exact ru_fs | exact rs_aug | exact ri_zip | exact ru_ixG | exact ru_inG | exact ru_dnew | exact rs_dput | exact ru_blt lenG_ok | exact ru_bm popM_ok | exact ru_bm idxM_ok | exact ru_bm splitM_ok | exact ru_bm partM_ok | constructor)
theorem ok__law_agrees (X : K.In h) (G : h.Ns mainGlobals mg) (c : He.SaysD fa fn K) (e : ex K = true) : FnOkD PySem.Challenge.pw_samealone_k12_whole_sizes_are_sets w K mg base (caK K) F__law_agrees := by
  obtain ⟨fd, FT⟩ := c.def_ 15 (d := d__law_agrees) rfl
  refine def_of (ic := I__law_agrees) (k := 4) FT sc__law_agrees (He.glo_ok X G (c.fact 15 (f := .glo "_law_agrees") rfl)) (FT.bindsN (ps := ["_law_found", "_law_numbers", "_law_due"]) fun _ _ _ _ _ _ us hl => match us, hl with | [_, _, _], _ => rfl) (bn X G c) rfl ck__law_agrees ?_
  simp only [I__law_agrees, I__law_agrees_1, I__law_agrees_2, I__law_agrees_b1, IC.uses, IE.uses, UsK, Us.su, true_and, and_true]
  repeat' (first | trivial | exact ⟨ok__law_alike X G c e _, Nat.le_of_ble_eq_true rfl⟩ | exact ⟨ok__law_tidy X G c e, Nat.le_of_ble_eq_true rfl⟩ | exact ⟨ok__law_in X G c e, Nat.le_of_ble_eq_true rfl⟩ | exact ru_ownIn (mthOk_cons (ok_Sizes_____contains__ X G c e) (Nat.le_of_ble_eq_true rfl) mthOk_nil) | exact ru_boolO (j := 1) (mthOk_cons (ok_Sizes_____bool__ X G c e) (Nat.le_of_ble_eq_true rfl) mthOk_nil) (Nat.le_of_ble_eq_true rfl) | exact ru_fld (fld_of (ex_0 e)) | exact rs_stf (fld_of (ex_0 e)) | exact ru_isc (isc_of X G (ex_1 e)) | exact rs_rs0 (excN_of X G (ex_2 e)) | exact ru_cat2 | exact rs_nim | exact ru_blt boolG_ok | exact ru_rev | exact rc_lc2 | exact ru_fs | exact rs_aug | exact ri_zip | exact ru_ixG | exact ru_inG | exact ru_dnew | exact rs_dput | exact ru_blt lenG_ok | exact ru_bm popM_ok | exact ru_bm idxM_ok | exact ru_bm splitM_ok | exact ru_bm partM_ok | constructor)
theorem ok_Sizes_____or__ (X : K.In h) (G : h.Ns mainGlobals mg) (c : He.SaysD fa fn K) (e : ex K = true) : MthAt PySem.Challenge.pw_samealone_k12_whole_sizes_are_sets w K mg base (caK K) "__or__" "Sizes" F_Sizes_____or__ := by
  obtain ⟨fd, FT⟩ := c.def_ 16 (d := d_Sizes_____or__) rfl
  refine meth_of (ic := I_Sizes_____or__) (k := 5) FT sc_Sizes_____or__ (c.fact 39 (f := .cls "Sizes") rfl) (c.fact 40 (f := .meth "Sizes" "__or__") rfl) (bn X G c) (FT.bindsN (ps := ["self", "other"]) fun _ _ _ _ _ _ us hl => match us, hl with | [_, _], _ => rfl) ck_Sizes_____or__ ?_
  simp only [I_Sizes_____or__, I_Sizes_____or___1, IC.uses, IE.uses, UsK, Us.su, true_and, and_true]
  repeat' (first | trivial | exact ru_new (ok_Sizes_____init__ X G c e) (Nat.le_of_ble_eq_true rfl) | exact ru_newK (okK_Sizes_____init__ X G c e) (Nat.le_of_ble_eq_true rfl) | exact ru_fld (fld_of (ex_0 e)) | exact rs_stf (fld_of (ex_0 e)) | exact ru_isc (isc_of X G (ex_1 e)) | exact rs_rs0 (excN_of X G (ex_2 e)) | exact ru_cat2 | exact rs_nim | exact ru_blt boolG_ok | exact ru_rev | exact rc_lc2 | exact ru_fs | exact rs_aug | exact ri_zip | exact ru_ixG | exact ru_inG | exact ru_dnew | exact rs_dput | exact ru_blt lenG_ok | exact ru_bm popM_ok | exact ru_bm idxM_ok | exact ru_bm splitM_ok | exact ru_bm partM_ok | constructor)
theorem ok_nearest (X : K.In h) (G : h.Ns mainGlobals mg) (c : He.SaysD fa fn K) (e : ex K = true) : FnOkD PySem.Challenge.pw_samealone_k12_whole_sizes_are_sets w K mg base (caK K) F_nearest := by
  obtain ⟨fd, FT⟩ := c.def_ 17 (d := d_nearest) rfl
  refine def_of (ic := I_nearest) (k := 0) FT sc_nearest (He.glo_ok X G (c.fact 17 (f := .glo "nearest") rfl)) (FT.bindsN (ps := ["first", "second"]) fun _ _ _ _ _ _ us hl => match us, hl with | [_, _], _ => rfl) (bn X G c) rfl ck_nearest ?_
  simp only [I_nearest, I_nearest_1, I_nearest_2, IC.uses, IE.uses, UsK, Us.su, true_and, and_true]
  repeat' (first | trivial | exact ru_fld (fld_of (ex_0 e)) | exact rs_stf (fld_of (ex_0 e)) | exact ru_isc (isc_of X G (ex_1 e)) | exact rs_rs0 (excN_of X G (ex_2 e)) | exact ru_cat2 | exact rs_nim | exact ru_blt boolG_ok | exact ru_rev | exact rc_lc2 | exact ru_fs | exact rs_aug | exact ri_zip | exact ru_ixG | exact ru_inG | exact ru_dnew | exact rs_dput | exact ru_blt lenG_ok | exact ru_bm popM_ok | exact ru_bm idxM_ok | exact ru_bm splitM_ok | exact ru_bm partM_ok | constructor)
theorem ok_Sizes_____and__ (X : K.In h) (G : h.Ns mainGlobals mg) (c : He.SaysD fa fn K) (e : ex K = true) : MthAt PySem.Challenge.pw_samealone_k12_whole_sizes_are_sets w K mg base (caK K) "__and__" "Sizes" F_Sizes_____and__ := by
  obtain ⟨fd, FT⟩ := c.def_ 18 (d := d_Sizes_____and__) rfl
  refine meth_of (ic := I_Sizes_____and__) (k := 5) FT sc_Sizes_____and__ (c.fact 41 (f := .cls "Sizes") rfl) (c.fact 42 (f := .meth "Sizes" "__and__") rfl) (bn X G c) (FT.bindsN (ps := ["self", "other"]) fun _ _ _ _ _ _ us hl => match us, hl with | [_, _], _ => rfl) ck_Sizes_____and__ ?_
  simp only [I_Sizes_____and__, I_Sizes_____and___1, I_Sizes_____and___2, IC.uses, IE.uses, UsK, Us.su, true_and, and_true]
  repeat' (first | trivial | exact ru_new (ok_Sizes_____init__ X G c e) (Nat.le_of_ble_eq_true rfl) | exact ⟨ok_larger X G c e, Nat.le_of_ble_eq_true rfl⟩ | exact ⟨ok_nearest X G c e, Nat.le_of_ble_eq_true rfl⟩ | exact ru_newK (okK_Sizes_____init__ X G c e) (Nat.le_of_ble_eq_true rfl) | exact ru_fld (fld_of (ex_0 e)) | exact rs_stf (fld_of (ex_0 e)) | exact ru_isc (isc_of X G (ex_1 e)) | exact rs_rs0 (excN_of X G (ex_2 e)) | exact ru_cat2 | exact rs_nim | exact ru_blt boolG_ok | exact ru_rev | exact rc_lc2 | exact ru_fs | exact rs_aug | exact ri_zip | exact ru_ixG | exact ru_inG | exact ru_dnew | exact rs_dput | exact ru_blt lenG_ok | exact ru_bm popM_ok | exact ru_bm idxM_ok | exact ru_bm splitM_ok | exact ru_bm partM_ok | constructor)
theorem ok_Sizes_____eq__ (X : K.In h) (G : h.Ns mainGlobals mg) (c : He.SaysD fa fn K) (e : ex K = true) : MthAt PySem.Challenge.pw_samealone_k12_whole_sizes_are_sets w K mg base (caK K) "__eq__" "Sizes" F_Sizes_____eq__ := by
  obtain ⟨fd, FT⟩ := c.def_ 19 (d := d_Sizes_____eq__) rfl
  refine meth_of (ic := I_Sizes_____eq__) (k := 0) FT sc_Sizes_____eq__ (c.fact 43 (f := .cls "Sizes") rfl) (c.fact 44 (f := .meth "Sizes" "__eq__") rfl) (bn X G c) (FT.bindsN (ps := ["self", "other"]) fun _ _ _ _ _ _ us hl => match us, hl with | [_, _], _ => rfl) ck_Sizes_____eq__ ?_
  simp only [I_Sizes_____eq__, IC.uses, IE.uses, UsK, Us.su, true_and, and_true]
  repeat' (first | trivial | exact ru_fld (fld_of (ex_0 e)) | exact rs_stf (fld_of (ex_0 e)) | exact ru_isc (isc_of X G (ex_1 e)) | exact rs_rs0 (excN_of X G (ex_2 e)) | exact ru_cat2 | exact rs_nim | exact ru_blt boolG_ok | exact ru_rev | exact rc_lc2 | exact ru_fs | exact rs_aug | exact ri_zip | exact ru_ixG | exact ru_inG | exact ru_dnew | exact rs_dput | exact ru_blt lenG_ok | exact ru_bm popM_ok | exact ru_bm idxM_ok | exact ru_bm splitM_ok | exact ru_bm partM_ok | constructor)
theorem ok_Sizes_____gt__ (X : K.In h) (G : h.Ns mainGlobals mg) (c : He.SaysD fa fn K) (e : ex K = true) : MthAt PySem.Challenge.pw_samealone_k12_whole_sizes_are_sets w K mg base (caK K) "__gt__" "Sizes" F_Sizes_____gt__ := by
  obtain ⟨fd, FT⟩ := c.def_ 20 (d := d_Sizes_____gt__) rfl
  refine meth_of (ic := I_Sizes_____gt__) (k := 6) FT sc_Sizes_____gt__ (c.fact 45 (f := .cls "Sizes") rfl) (c.fact 46 (f := .meth "Sizes" "__gt__") rfl) (bn X G c) (FT.bindsN (ps := ["self", "other"]) fun _ _ _ _ _ _ us hl => match us, hl with | [_, _], _ => rfl) ck_Sizes_____gt__ ?_
  simp only [I_Sizes_____gt__, I_Sizes_____gt___1, IC.uses, IE.uses, UsK, Us.su, true_and, and_true]
  repeat' (first | trivial | exact ru_bin (mthOk_cons (ok_Sizes_____and__ X G c e) (Nat.le_of_ble_eq_true rfl) mthOk_nil) (opCs_of rfl (ex_8 e)) (by decide +kernel) | exact ru_fld (fld_of (ex_0 e)) | exact rs_stf (fld_of (ex_0 e)) | exact ru_isc (isc_of X G (ex_1 e)) | exact rs_rs0 (excN_of X G (ex_2 e)) | exact ru_cat2 | exact rs_nim | exact ru_blt boolG_ok | exact ru_rev | exact rc_lc2 | exact ru_fs | exact rs_aug | exact ri_zip | exact ru_ixG | exact ru_inG | exact ru_dnew | exact rs_dput | exact ru_blt lenG_ok | exact ru_bm popM_ok | exact ru_bm idxM_ok | exact ru_bm splitM_ok | exact ru_bm partM_ok | constructor)
theorem ok_Sizes_____ge__ (X : K.In h) (G : h.Ns mainGlobals mg) (c : He.SaysD fa fn K) (e : ex K = true) : MthAt PySem.Challenge.pw_samealone_k12_whole_sizes_are_sets w K mg base (caK K) "__ge__" "Sizes" F_Sizes_____ge__ := by
  obtain ⟨fd, FT⟩ := c.def_ 21 (d := d_Sizes_____ge__) rfl
  refine meth_of (ic := I_Sizes_____ge__) (k := 6) FT sc_Sizes_____ge__ (c.fact 47 (f := .cls "Sizes") rfl) (c.fact 48 (f := .meth "Sizes" "__ge__") rfl) (bn X G c) (FT.bindsN (ps := ["self", "other"]) fun _ _ _ _ _ _ us hl => match us, hl with | [_, _], _ => rfl) ck_Sizes_____ge__ ?_
  simp only [I_Sizes_____ge__, I_Sizes_____ge___1, IC.uses, IE.uses, UsK, Us.su, true_and, and_true]
  repeat' (first | trivial | exact ru_bin (mthOk_cons (ok_Sizes_____and__ X G c e) (Nat.le_of_ble_eq_true rfl) mthOk_nil) (opCs_of rfl (ex_8 e)) (by decide +kernel) | exact ru_fld (fld_of (ex_0 e)) | exact rs_stf (fld_of (ex_0 e)) | exact ru_isc (isc_of X G (ex_1 e)) | exact rs_rs0 (excN_of X G (ex_2 e)) | exact ru_cat2 | exact rs_nim | exact ru_blt boolG_ok | exact ru_rev | exact rc_lc2 | exact ru_fs | exact rs_aug | exact ri_zip | exact ru_ixG | exact ru_inG | exact ru_dnew | exact rs_dput | exact ru_blt lenG_ok | exact ru_bm popM_ok | exact ru_bm idxM_ok | exact ru_bm splitM_ok | exact ru_bm partM_ok | constructor)
theorem ok_Sizes_____lt__ (X : K.In h) (G : h.Ns mainGlobals mg) (c : He.SaysD fa fn K) (e : ex K = true) : MthAt PySem.Challenge.pw_samealone_k12_whole_sizes_are_sets w K mg base (caK K) "__lt__" "Sizes" F_Sizes_____lt__ := by
  obtain ⟨fd, FT⟩ := c.def_ 22 (d := d_Sizes_____lt__) rfl
  refine meth_of (ic := I_Sizes_____lt__) (k := 6) FT sc_Sizes_____lt__ (c.fact 49 (f := .cls "Sizes") rfl) (c.fact 50 (f := .meth "Sizes" "__lt__") rfl) (bn X G c) (FT.bindsN (ps := ["self", "other"]) fun _ _ _ _ _ _ us hl => match us, hl with | [_, _], _ => rfl) ck_Sizes_____lt__ ?_
  simp only [I_Sizes_____lt__, I_Sizes_____lt___1, IC.uses, IE.uses, UsK, Us.su, true_and, and_true]
  repeat' (first | trivial | exact ru_bin (mthOk_cons (ok_Sizes_____and__ X G c e) (Nat.le_of_ble_eq_true rfl) mthOk_nil) (opCs_of rfl (ex_8 e)) (by decide +kernel) | exact ru_fld (fld_of (ex_0 e)) | exact rs_stf (fld_of (ex_0 e)) | exact ru_isc (isc_of X G (ex_1 e)) | exact rs_rs0 (excN_of X G (ex_2 e)) | exact ru_cat2 | exact rs_nim | exact ru_blt boolG_ok | exact ru_rev | exact rc_lc2 | exact ru_fs | exact rs_aug | exact ri_zip | exact ru_ixG | exact ru_inG | exact ru_dnew | exact rs_dput | exact ru_blt lenG_ok | exact ru_bm popM_ok | exact ru_bm idxM_ok | exact ru_bm splitM_ok | exact ru_bm partM_ok | constructor)
theorem ok_Sizes_____le__ (X : K.In h) (G : h.Ns mainGlobals mg) (c : He.SaysD fa fn K) (e : ex K = true) : MthAt PySem.Challenge.pw_samealone_k12_whole_sizes_are_sets w K mg base (caK K) "__le__" "Sizes" F_Sizes_____le__ := by
  obtain ⟨fd, FT⟩ := c.def_ 23 (d := d_Sizes_____le__) rfl
  refine meth_of (ic := I_Sizes_____le__) (k := 6) FT sc_Sizes_____le__ (c.fact 51 (f := .cls "Sizes") rfl) (c.fact 52 (f := .meth "Sizes" "__le__") rfl) (bn X G c) (FT.bindsN (ps := ["self", "other"]) fun _ _ _ _ _ _ us hl => match us, hl with | [_, _], _ => rfl) ck_Sizes_____le__ ?_
  simp only [I_Sizes_____le__, I_Sizes_____le___1, IC.uses, IE.uses, UsK, Us.su, true_and, and_true]
  repeat' (first | trivial | exact ru_bin (mthOk_cons (ok_Sizes_____and__ X G c e) (Nat.le_of_ble_eq_true rfl) mthOk_nil) (opCs_of rfl (ex_8 e)) (by decide +kernel) | exact ru_fld (fld_of (ex_0 e)) | exact rs_stf (fld_of (ex_0 e)) | exact ru_isc (isc_of X G (ex_1 e)) | exact rs_rs0 (excN_of X G (ex_2 e)) | exact ru_cat2 | exact rs_nim | exact ru_blt boolG_ok | exact ru_rev | exact rc_lc2 | exact ru_fs | exact rs_aug | exact ri_zip | exact ru_ixG | exact ru_inG | exact ru_dnew | exact rs_dput | exact ru_blt lenG_ok | exact ru_bm popM_ok | exact ru_bm idxM_ok | exact ru_bm splitM_ok | exact ru_bm partM_ok | constructor)
theorem ok__law_pair (X : K.In h) (G : h.Ns mainGlobals mg) (c : He.SaysD fa fn K) (e : ex K = true) : FnOkD PySem.Challenge.pw_samealone_k12_whole_sizes_are_sets w K mg base (caK K) F__law_pair := by
  obtain ⟨fd, FT⟩ := c.def_ 24 (d := d__law_pair) rfl
  refine def_of (ic := I__law_pair) (k := 7) FT sc__law_pair (He.glo_ok X G (c.fact 24 (f := .glo "_law_pair") rfl)) (FT.bindsN (ps := ["_law_s", "_law_t", "_law_numbers", "_law_first", "_law_second"]) fun _ _ _ _ _ _ us hl => match us, hl with | [_, _, _, _, _], _ => rfl) (bn X G c) rfl ck__law_pair ?_
  simp only [I__law_pair, I__law_pair_1, I__law_pair_2, I__law_pair_3, I__law_pair_4, I__law_pair_5, I__law_pair_6, I__law_pair_7, IC.uses, IE.uses, UsK, Us.su, true_and, and_true]
  repeat' (first | trivial | exact ⟨ok__law_alike X G c e _, Nat.le_of_ble_eq_true rfl⟩ | exact ⟨ok__law_agrees X G c e, Nat.le_of_ble_eq_true rfl⟩ | exact ru_bin (mthOk_cons (ok_Sizes_____or__ X G c e) (Nat.le_of_ble_eq_true rfl) mthOk_nil) (opCs_of rfl (ex_7 e)) (by decide +kernel) | exact ru_bin (mthOk_cons (ok_Sizes_____and__ X G c e) (Nat.le_of_ble_eq_true rfl) mthOk_nil) (opCs_of rfl (ex_8 e)) (by decide +kernel) | exact ru_ne (j := 1) (mthOk_cons (ok_Sizes_____eq__ X G c e) (Nat.le_of_ble_eq_true rfl) mthOk_nil) (Nat.le_of_ble_eq_true rfl) (cmpCs_of rfl (ex_5 e)) (neCs_of rfl (ex_6 e)) | exact ru_cmp (mthOk_cons (ok_Sizes_____eq__ X G c e) (Nat.le_of_ble_eq_true rfl) mthOk_nil) (cmpCs_of rfl (ex_5 e)) rfl (fun _ _ => rfl) | exact ru_cmp (mthOk_cons (ok_Sizes_____gt__ X G c e) (Nat.le_of_ble_eq_true rfl) mthOk_nil) (cmpCs_of rfl (ex_5 e)) rfl (fun _ _ => rfl) | exact ru_cmp (mthOk_cons (ok_Sizes_____ge__ X G c e) (Nat.le_of_ble_eq_true rfl) mthOk_nil) (cmpCs_of rfl (ex_5 e)) rfl (fun _ _ => rfl) | exact ru_cmp (mthOk_cons (ok_Sizes_____lt__ X G c e) (Nat.le_of_ble_eq_true rfl) mthOk_nil) (cmpCs_of rfl (ex_5 e)) rfl (fun _ _ => rfl) | exact ru_cmp (mthOk_cons (ok_Sizes_____le__ X G c e) (Nat.le_of_ble_eq_true rfl) mthOk_nil) (cmpCs_of rfl (ex_5 e)) rfl (fun _ _ => rfl) | exact ru_fld (fld_of (ex_0 e)) | exact rs_stf (fld_of (ex_0 e)) | exact ru_isc (isc_of X G (ex_1 e)) | exact rs_rs0 (excN_of X G (ex_2 e)) | exact ru_cat2 | exact rs_nim | exact ru_blt boolG_ok | exact ru_rev | exact rc_lc2 | exact ru_fs | exact rs_aug | exact ri_zip | exact ru_ixG | exact ru_inG | exact ru_dnew | exact rs_dput | exact ru_blt lenG_ok | exact ru_bm popM_ok | exact ru_bm idxM_ok | exact ru_bm splitM_ok | exact ru_bm partM_ok | constructor)
theorem ok__law_merged (X : K.In h) (G : h.Ns mainGlobals mg) (c : He.SaysD fa fn K) (e : ex K = true) : FnOkD PySem.Challenge.pw_samealone_k12_whole_sizes_are_sets w K mg base (caK K) F__law_merged := by
  obtain ⟨fd, FT⟩ := c.def_ 25 (d := d__law_merged) rfl
  refine def_of (ic := I__law_merged) (k := 1) FT sc__law_merged (He.glo_ok X G (c.fact 25 (f := .glo "_law_merged") rfl)) (FT.bindsN (ps := ["_law_ranges"]) fun _ _ _ _ _ _ us hl => match us, hl with | [_], _ => rfl) (bn X G c) rfl ck__law_merged ?_
  simp only [I__law_merged, I__law_merged_1, I__law_merged_2, I__law_merged_3, I__law_merged_b1, IC.uses, IE.uses, UsK, Us.su, true_and, and_true]
  repeat' (first | trivial | exact ⟨ok__law_in X G c e, Nat.le_of_ble_eq_true rfl⟩ | exact ru_fld (fld_of (ex_0 e)) | exact rs_stf (fld_of (ex_0 e)) | exact ru_isc (isc_of X G (ex_1 e)) | exact rs_rs0 (excN_of X G (ex_2 e)) | exact ru_cat2 | exact rs_nim | exact ru_blt boolG_ok | exact ru_rev | exact rc_lc2 | exact ru_fs | exact rs_aug | exact ri_zip | exact ru_ixG | exact ru_inG | exact ru_dnew | exact rs_dput | exact ru_blt lenG_ok | exact ru_bm popM_ok | exact ru_bm idxM_ok | exact ru_bm splitM_ok | exact ru_bm partM_ok | constructor)
theorem ok_Sizes_____lshift__ (X : K.In h) (G : h.Ns mainGlobals mg) (c : He.SaysD fa fn K) (e : ex K = true) : MthAt PySem.Challenge.pw_samealone_k12_whole_sizes_are_sets w K mg base (caK K) "__lshift__" "Sizes" F_Sizes_____lshift__ := by
  obtain ⟨fd, FT⟩ := c.def_ 26 (d := d_Sizes_____lshift__) rfl
  refine meth_of (ic := I_Sizes_____lshift__) (k := 5) FT sc_Sizes_____lshift__ (c.fact 53 (f := .cls "Sizes") rfl) (c.fact 54 (f := .meth "Sizes" "__lshift__") rfl) (bn X G c) (FT.bindsN (ps := ["self", "number"]) fun _ _ _ _ _ _ us hl => match us, hl with | [_, _], _ => rfl) ck_Sizes_____lshift__ ?_
  simp only [I_Sizes_____lshift__, I_Sizes_____lshift___1, IC.uses, IE.uses, UsK, Us.su, true_and, and_true]
  repeat' (first | trivial | exact ru_new (ok_Sizes_____init__ X G c e) (Nat.le_of_ble_eq_true rfl) | exact ⟨ok_nearest X G c e, Nat.le_of_ble_eq_true rfl⟩ | exact ru_newK (okK_Sizes_____init__ X G c e) (Nat.le_of_ble_eq_true rfl) | exact ru_fld (fld_of (ex_0 e)) | exact rs_stf (fld_of (ex_0 e)) | exact ru_isc (isc_of X G (ex_1 e)) | exact rs_rs0 (excN_of X G (ex_2 e)) | exact ru_cat2 | exact rs_nim | exact ru_blt boolG_ok | exact ru_rev | exact rc_lc2 | exact ru_fs | exact rs_aug | exact ri_zip | exact ru_ixG | exact ru_inG | exact ru_dnew | exact rs_dput | exact ru_blt lenG_ok | exact ru_bm popM_ok | exact ru_bm idxM_ok | exact ru_bm splitM_ok | exact ru_bm partM_ok | constructor)
theorem ok_Sizes_____rshift__ (X : K.In h) (G : h.Ns mainGlobals mg) (c : He.SaysD fa fn K) (e : ex K = true) : MthAt PySem.Challenge.pw_samealone_k12_whole_sizes_are_sets w K mg base (caK K) "__rshift__" "Sizes" F_Sizes_____rshift__ := by
  obtain ⟨fd, FT⟩ := c.def_ 27 (d := d_Sizes_____rshift__) rfl
  refine meth_of (ic := I_Sizes_____rshift__) (k := 5) FT sc_Sizes_____rshift__ (c.fact 55 (f := .cls "Sizes") rfl) (c.fact 56 (f := .meth "Sizes" "__rshift__") rfl) (bn X G c) (FT.bindsN (ps := ["self", "number"]) fun _ _ _ _ _ _ us hl => match us, hl with | [_, _], _ => rfl) ck_Sizes_____rshift__ ?_
  simp only [I_Sizes_____rshift__, I_Sizes_____rshift___1, IC.uses, IE.uses, UsK, Us.su, true_and, and_true]
  repeat' (first | trivial | exact ru_new (ok_Sizes_____init__ X G c e) (Nat.le_of_ble_eq_true rfl) | exact ⟨ok_larger X G c e, Nat.le_of_ble_eq_true rfl⟩ | exact ru_newK (okK_Sizes_____init__ X G c e) (Nat.le_of_ble_eq_true rfl) | exact ru_fld (fld_of (ex_0 e)) | exact rs_stf (fld_of (ex_0 e)) | exact ru_isc (isc_of X G (ex_1 e)) | exact rs_rs0 (excN_of X G (ex_2 e)) | exact ru_cat2 | exact rs_nim | exact ru_blt boolG_ok | exact ru_rev | exact rc_lc2 | exact ru_fs | exact rs_aug | exact ri_zip | exact ru_ixG | exact ru_inG | exact ru_dnew | exact rs_dput | exact ru_blt lenG_ok | exact ru_bm popM_ok | exact ru_bm idxM_ok | exact ru_bm splitM_ok | exact ru_bm partM_ok | constructor)
theorem ok_range_text (X : K.In h) (G : h.Ns mainGlobals mg) (c : He.SaysD fa fn K) (e : ex K = true) : FnOkD PySem.Challenge.pw_samealone_k12_whole_sizes_are_sets w K mg base (caK K) F_range_text := by
  obtain ⟨fd, FT⟩ := c.def_ 28 (d := d_range_text) rfl
  refine def_of (ic := I_range_text) (k := 0) FT sc_range_text (He.glo_ok X G (c.fact 28 (f := .glo "range_text") rfl)) (FT.bindsN (ps := ["least", "greatest"]) fun _ _ _ _ _ _ us hl => match us, hl with | [_, _], _ => rfl) (bn X G c) rfl ck_range_text ?_
  simp only [I_range_text, I_range_text_1, I_range_text_2, IC.uses, IE.uses, UsK, Us.su, true_and, and_true]
  repeat' (first | trivial | exact ru_fld (fld_of (ex_0 e)) | exact rs_stf (fld_of (ex_0 e)) | exact ru_isc (isc_of X G (ex_1 e)) | exact rs_rs0 (excN_of X G (ex_2 e)) | exact ru_cat2 | exact rs_nim | exact ru_blt boolG_ok | exact ru_rev | exact rc_lc2 | exact ru_fs | exact rs_aug | exact ri_zip | exact ru_ixG | exact ru_inG | exact ru_dnew | exact rs_dput | exact ru_blt lenG_ok | exact ru_bm popM_ok | exact ru_bm idxM_ok | exact ru_bm splitM_ok | exact ru_bm partM_ok | constructor)
theorem ok_Sizes_____str__ (X : K.In h) (G : h.Ns mainGlobals mg) (c : He.SaysD fa fn K) (e : ex K = true) : MthAt PySem.Challenge.pw_samealone_k12_whole_sizes_are_sets w K mg base (caK K) "__str__" "Sizes" F_Sizes_____str__ := by
  obtain ⟨fd, FT⟩ := c.def_ 29 (d := d_Sizes_____str__) rfl
  refine meth_of (ic := I_Sizes_____str__) (k := 1) FT sc_Sizes_____str__ (c.fact 57 (f := .cls "Sizes") rfl) (c.fact 58 (f := .meth "Sizes" "__str__") rfl) (bn X G c) (FT.bindsN (ps := ["self"]) fun _ _ _ _ _ _ us hl => match us, hl with | [_], _ => rfl) ck_Sizes_____str__ ?_
  simp only [I_Sizes_____str__, I_Sizes_____str___1, IC.uses, IE.uses, UsK, Us.su, true_and, and_true]
  repeat' (first | trivial | exact ⟨ok_range_text X G c e, Nat.le_of_ble_eq_true rfl⟩ | exact ru_fld (fld_of (ex_0 e)) | exact rs_stf (fld_of (ex_0 e)) | exact ru_isc (isc_of X G (ex_1 e)) | exact rs_rs0 (excN_of X G (ex_2 e)) | exact ru_cat2 | exact rs_nim | exact ru_blt boolG_ok | exact ru_rev | exact rc_lc2 | exact ru_fs | exact rs_aug | exact ri_zip | exact ru_ixG | exact ru_inG | exact ru_dnew | exact rs_dput | exact ru_blt lenG_ok | exact ru_bm popM_ok | exact ru_bm idxM_ok | exact ru_bm splitM_ok | exact ru_bm partM_ok | constructor)
theorem ok__law_sets (X : K.In h) (G : h.Ns mainGlobals mg) (c : He.SaysD fa fn K) (e : ex K = true) : FnOkD PySem.Challenge.pw_samealone_k12_whole_sizes_are_sets w K mg base (caK K) F__law_sets := by
  obtain ⟨fd, FT⟩ := c.def_ 30 (d := d__law_sets) rfl
  refine def_of (ic := I__law_sets) (k := 8) FT sc__law_sets (He.glo_ok X G (c.fact 30 (f := .glo "_law_sets") rfl)) (FT.bindsN (ps := ["_law_first", "_law_second", "_law_low", "_law_high"]) fun _ _ _ _ _ _ us hl => match us, hl with | [_, _, _, _], _ => rfl) (bn X G c) rfl ck__law_sets ?_
  simp only [I__law_sets, I__law_sets_1, I__law_sets_2, I__law_sets_3, I__law_sets_4, I__law_sets_5, I__law_sets_6, I__law_sets_7, I__law_sets_8, I__law_sets_9, I__law_sets_10, I__law_sets_11, I__law_sets_b2, I__law_sets_b1, I__law_sets_b1_1, IC.uses, IE.uses, UsK, Us.su, true_and, and_true]
  repeat' (first | trivial | exact ru_new (ok_Sizes_____init__ X G c e) (Nat.le_of_ble_eq_true rfl) | exact ⟨ok__law_in X G c e, Nat.le_of_ble_eq_true rfl⟩ | exact ⟨ok__law_is_sizes X G c e, Nat.le_of_ble_eq_true rfl⟩ | exact ⟨ok__law_pair X G c e, Nat.le_of_ble_eq_true rfl⟩ | exact ⟨ok__law_merged X G c e, Nat.le_of_ble_eq_true rfl⟩ | exact ⟨ok__law_alike X G c e _, Nat.le_of_ble_eq_true rfl⟩ | exact ru_bin (mthOk_cons (ok_Sizes_____lshift__ X G c e) (Nat.le_of_ble_eq_true rfl) mthOk_nil) (opCs_of rfl (ex_3 e)) (by decide +kernel) | exact ru_bin (mthOk_cons (ok_Sizes_____rshift__ X G c e) (Nat.le_of_ble_eq_true rfl) mthOk_nil) (opCs_of rfl (ex_4 e)) (by decide +kernel) | exact ru_str (j := 2) (mthOk_cons (ok_Sizes_____str__ X G c e) (Nat.le_of_ble_eq_true rfl) mthOk_nil) (Nat.le_of_ble_eq_true rfl) | exact ru_ne (j := 1) (mthOk_cons (ok_Sizes_____eq__ X G c e) (Nat.le_of_ble_eq_true rfl) mthOk_nil) (Nat.le_of_ble_eq_true rfl) (cmpCs_of rfl (ex_5 e)) (neCs_of rfl (ex_6 e)) | exact ru_cmp (mthOk_cons (ok_Sizes_____eq__ X G c e) (Nat.le_of_ble_eq_true rfl) mthOk_nil) (cmpCs_of rfl (ex_5 e)) rfl (fun _ _ => rfl) | exact ru_fld (fld_of (ex_0 e)) | exact rs_stf (fld_of (ex_0 e)) | exact ru_isc (isc_of X G (ex_1 e)) | exact rs_rs0 (excN_of X G (ex_2 e)) | exact ru_cat2 | exact rs_nim | exact ru_blt boolG_ok | exact ru_rev | exact rc_lc2 | exact ru_fs | exact rs_aug | exact ri_zip | exact ru_ixG | exact ru_inG | exact ru_dnew | exact rs_dput | exact ru_blt lenG_ok | exact ru_bm popM_ok | exact ru_bm idxM_ok | exact ru_bm splitM_ok | exact ru_bm partM_ok | constructor)
theorem ok_law {fa' : Addr} (X : K.In h) (G : h.Ns mainGlobals mg) (c : He.SaysD fa fn K) (e : ex K = true) (hmg : mg "law" = some (.ref fa')) : ∃ fd, (∀ (s : Shared) (u : Value), BindsTo s fd ⟨[u], []⟩ [("_law_script", u)]) ∧ ∀ base : Heap, FnOk PySem.Challenge.pw_samealone_k12_whole_sizes_are_sets w K mg base (L2.CX PySem.Challenge.pw_samealone_k12_whole_sizes_are_sets w) 10 fa' fd ["_law_script"] (spOf ⟨K, caK K⟩ 1 F_law.sem) := by
  obtain ⟨fd, FT⟩ := c.def_ 31 (d := d_law) rfl
  have e1 := hmg.symm.trans (He.glo_ok X G (c.fact 31 (f := .glo "law") rfl))
  cases e1
  have b := FT.bindsA (ps := ["_law_script"]) fun _ _ _ _ _ _ us hl => match us, hl with | [_], _ => rfl
  refine ⟨fd, fun s u => b s [u] rfl, fun base => def_fn (ic := I_law) (k := 9) FT sc_law (bn X G c) rfl ck_law ?_⟩
  simp only [I_law, I_law_1, I_law_2, I_law_3, I_law_4, I_law_5, I_law_6, I_law_7, I_law_8, I_law_9, I_law_10, IC.uses, IE.uses, UsK, Us.su, true_and, and_true]
  repeat' (first | trivial | exact ⟨ok__law_state X G c e, Nat.le_of_ble_eq_true rfl⟩ | exact ⟨ok__law_list X G c e, Nat.le_of_ble_eq_true rfl⟩ | exact ⟨ok__law_draw X G c e, Nat.le_of_ble_eq_true rfl⟩ | exact ⟨ok__law_integer X G c e, Nat.le_of_ble_eq_true rfl⟩ | exact ⟨ok__law_sets X G c e, Nat.le_of_ble_eq_true rfl⟩ | exact ⟨ok__law_merged X G c e, Nat.le_of_ble_eq_true rfl⟩ | exact ru_fld (fld_of (ex_0 e)) | exact rs_stf (fld_of (ex_0 e)) | exact ru_isc (isc_of X G (ex_1 e)) | exact rs_rs0 (excN_of X G (ex_2 e)) | exact ru_cat2 | exact rs_nim | exact ru_blt boolG_ok | exact ru_rev | exact rc_lc2 | exact ru_fs | exact rs_aug | exact ri_zip | exact ru_ixG | exact ru_inG | exact ru_dnew | exact rs_dput | exact ru_blt lenG_ok | exact ru_bm popM_ok | exact ru_bm idxM_ok | exact ru_bm splitM_ok | exact ru_bm partM_ok | constructor)
end
end LawP
set_option maxRecDepth 100000
namespace LawP
open PySem PySem.Spec L2 Dn
/-! ranges of numbers: what is in them, their normal form -/
abbrev Rg := Int × Option Int
def optD : Option Int → D
  | none => .non
  | some b => .int b
def rgD (r : Rg) : D := .tup [.int r.1, optD r.2]
def leO (k : Int) (o : Option Int) : Prop := ∀ b, o = some b → k ≤ b
def inR (r : Rg) (k : Int) : Prop := r.1 ≤ k ∧ leO k r.2
def inL (l : List Rg) (k : Int) : Prop := ∃ r ∈ l, inR r k
theorem leO_n {k : Int} : leO k none := fun _ h => nomatch h
theorem leO_s {k b : Int} : leO k (some b) ↔ k ≤ b := ⟨fun h => h b rfl, fun h c e => by cases e; exact h⟩
theorem leO_mono {k j : Int} {o : Option Int} (h : leO k o) (hj : j ≤ k) : leO j o := fun b e => Int.le_trans hj (h b e)
theorem inL_nil {k : Int} : ¬ inL [] k := fun ⟨r, h, _⟩ => by simp at h
theorem inL_cons {r : Rg} {l : List Rg} {k : Int} : inL (r :: l) k ↔ inR r k ∨ inL l k := by
  unfold inL
  constructor
  · rintro ⟨x, hx, h⟩
    rcases List.mem_cons.mp hx with rfl | hx
    · exact .inl h
    · exact .inr ⟨x, hx, h⟩
  · rintro (h | ⟨x, hx, h⟩)
    · exact ⟨r, by simp, h⟩
    · exact ⟨x, by simp [hx], h⟩
theorem inL_app {l m : List Rg} {k : Int} : inL (l ++ m) k ↔ inL l k ∨ inL m k := by
  unfold inL
  constructor
  · rintro ⟨x, hx, h⟩
    rcases List.mem_append.mp hx with hx | hx
    · exact .inl ⟨x, hx, h⟩
    · exact .inr ⟨x, hx, h⟩
  · rintro (⟨x, hx, h⟩ | ⟨x, hx, h⟩)
    · exact ⟨x, by simp [hx], h⟩
    · exact ⟨x, by simp [hx], h⟩
/-- ascending, apart, the last one alone may have no end -/
def Norm : Int → List Rg → Prop
  | _, [] => True
  | lo, (a, none) :: r => lo < a ∧ r = []
  | lo, (a, some b) :: r => lo < a ∧ a ≤ b ∧ Norm (b + 1) r
theorem norm_lo : ∀ {l : List Rg} {lo k : Int}, Norm lo l → inL l k → lo < k
  | [], _, _, _, h => absurd h inL_nil
  | (a, none) :: r, lo, k, h, hk => by
    obtain ⟨h1, rfl⟩ := h
    rcases inL_cons.mp hk with z | z
    · have := z.1; omega
    · exact absurd z inL_nil
  | (a, some b) :: r, lo, k, h, hk => by
    obtain ⟨h1, h2, h3⟩ := h
    rcases inL_cons.mp hk with z | z
    · have : a ≤ k := z.1
      omega
    · have := norm_lo h3 z
      omega
theorem norm_uniq : ∀ {l m : List Rg} {lo : Int}, Norm lo l → Norm lo m → (∀ k, inL l k ↔ inL m k) → l = m := by
  have hd : ∀ {a : Int} {b : Option Int} {r : List Rg} {lo : Int}, Norm lo ((a, b) :: r) → inL ((a, b) :: r) a := fun {a b r lo} h => inL_cons.mpr (.inl ⟨Int.le_refl _, fun c e => by
    cases e
    exact h.2.1⟩)
  have lw : ∀ {a : Int} {b : Option Int} {r : List Rg} {lo k : Int}, Norm lo ((a, b) :: r) → inL ((a, b) :: r) k → a ≤ k := fun {a b r lo k} h hk => by
    rcases inL_cons.mp hk with z | z
    · exact z.1
    · cases b with
      | none => rw [h.2] at z; exact absurd z inL_nil
      | some b =>
        have := norm_lo h.2.2 z
        have := h.2.1
        omega
  intro l
  induction l with
  | nil =>
    intro m lo _ hm e
    cases m with
    | nil => rfl
    | cons x r =>
      obtain ⟨a, b⟩ := x
      exact absurd ((e a).mpr (hd hm)) inL_nil
  | cons x r ih =>
    obtain ⟨a, b⟩ := x
    intro m lo hl hm e
    cases m with
    | nil => exact absurd ((e a).mp (hd hl)) inL_nil
    | cons y q =>
      obtain ⟨c, d⟩ := y
      have e1 : a = c := Int.le_antisymm (lw hl ((e c).mpr (hd hm))) (lw hm ((e a).mp (hd hl)))
      subst e1
      have gap : ∀ {b : Int} {r : List Rg}, Norm lo ((a, some b) :: r) → ¬ inL ((a, some b) :: r) (b + 1) := fun {b r} h hk => by
        rcases inL_cons.mp hk with z | z
        · have : b + 1 ≤ b := leO_s.mp z.2
          omega
        · have := norm_lo h.2.2 z
          omega
      have up : ∀ {o : Option Int} {r : List Rg} {k : Int}, a ≤ k → leO k o → inL ((a, o) :: r) k := fun h1 h2 => inL_cons.mpr (.inl ⟨h1, h2⟩)
      have le : ∀ {b : Int} {r : List Rg}, Norm lo ((a, some b) :: r) → a ≤ b := fun h => h.2.1
      cases b with
      | none =>
        cases d with
        | none => rw [hl.2, hm.2]
        | some d =>
          have := le hm
          exact absurd ((e (d + 1)).mp (up (by omega) leO_n)) (gap hm)
      | some b =>
        cases d with
        | none =>
          have := le hl
          exact absurd ((e (b + 1)).mpr (up (by omega) leO_n)) (gap hl)
        | some d =>
          have h1 := le hl
          have h2 := le hm
          have e2 : b = d := by
            rcases Int.lt_trichotomy b d with z | z | z
            · exact absurd ((e (b + 1)).mpr (up (by omega) (leO_s.mpr (by omega)))) (gap hl)
            · exact z
            · exact absurd ((e (d + 1)).mp (up (by omega) (leO_s.mpr (by omega)))) (gap hm)
          subst e2
          congr 1
          refine ih hl.2.2 hm.2.2 fun k => ⟨fun hk => ?_, fun hk => ?_⟩
          · have z := norm_lo hl.2.2 hk
            rcases inL_cons.mp ((e k).mp (inL_cons.mpr (.inr hk))) with y | y
            · have : k ≤ b := leO_s.mp y.2
              omega
            · exact y
          · have z := norm_lo hm.2.2 hk
            rcases inL_cons.mp ((e k).mpr (inL_cons.mpr (.inr hk))) with y | y
            · have : k ≤ b := leO_s.mp y.2
              omega
            · exact y
/-- all with an end; the next one may begin at hi -/
def Pre : Int → List Rg → Int → Prop
  | lo, [], hi => lo < hi
  | lo, (a, some b) :: r, hi => lo < a ∧ a ≤ b ∧ Pre (b + 1) r hi
  | _, (_, none) :: _, _ => False
theorem pre_norm : ∀ {l : List Rg} {lo a : Int} {o : Option Int}, Pre lo l a → leO a o → Norm lo (l ++ [(a, o)])
  | [], lo, a, none, h, _ => ⟨h, rfl⟩
  | [], lo, a, some b, h, ho => ⟨h, leO_s.mp ho, trivial⟩
  | (c, some d) :: r, lo, a, o, h, ho => ⟨h.1, h.2.1, pre_norm h.2.2 ho⟩
  | (_, none) :: _, _, _, _, h, _ => h.elim
theorem pre_snoc : ∀ {l : List Rg} {lo a b hi : Int}, Pre lo l a → a ≤ b → b + 1 < hi → Pre lo (l ++ [(a, some b)]) hi
  | [], lo, a, b, hi, h, h1, h2 => ⟨h, h1, h2⟩
  | (c, some d) :: r, lo, a, b, hi, h, h1, h2 => ⟨h.1, h.2.1, pre_snoc h.2.2 h1 h2⟩
  | (_, none) :: _, _, _, _, _, h, _, _ => h.elim
/-! the furthest end -/
def far : List (Option Int) → Int → Option Int
  | [], b => some b
  | none :: _, _ => none
  | some e :: r, b => far r (max b e)
theorem far_le : ∀ {es : List (Option Int)} {b k : Int}, leO k (far es b) ↔ k ≤ b ∨ ∃ e ∈ es, leO k e
  | [], b, k => by simp [far, leO_s]
  | none :: r, b, k => by simp [far, leO_n]
  | some e :: r, b, k => by
    rw [far, far_le]
    constructor
    · rintro (h | ⟨e', h1, h2⟩)
      · by_cases z : k ≤ b
        · exact .inl z
        · exact .inr ⟨some e, by simp, leO_s.mpr (by omega)⟩
      · exact .inr ⟨e', by simp [h1], h2⟩
    · rintro (h | ⟨e', h1, h2⟩)
      · exact .inl (by omega)
      · rcases List.mem_cons.mp h1 with rfl | h1
        · have := leO_s.mp h2
          exact .inl (by omega)
        · exact .inr ⟨e', h1, h2⟩
/-! the program's merging, start by start -/
def grp (xs : List Rg) (s : Int) : Option Int := far ((xs.filter fun x => decide (x.1 = s)).map (·.2)) 0
def touch (o : Option Int) (s : Int) : Bool := match o with
  | none => true
  | some b => decide (s ≤ b + 1)
def mStep (xs : List Rg) (m : List Rg) (s : Int) : List Rg := match m.getLast? with
  | some (a, o) => if touch o s = true then m.dropLast ++ [(a, far [o, grp xs s] 0)] else m ++ [(s, grp xs s)]
  | none => m ++ [(s, grp xs s)]
def starts (xs : List Rg) : List Int := Ks.isort Ks.ltI (Ks.dd (xs.map (·.1)))
def mrg (xs : List Rg) : List Rg := (starts xs).foldl (mStep xs) []
def okG (r : Rg) : Prop := 1 ≤ r.1 ∧ r.1 ≤ 99 ∧ leO r.1 r.2 ∧ ∀ b, r.2 = some b → b ≤ 99
theorem grp_in {xs : List Rg} {s k : Int} (hs : 1 ≤ s) : inR (s, grp xs s) k ↔ ∃ x ∈ xs, x.1 = s ∧ inR x k := by
  unfold inR grp
  rw [far_le]
  constructor
  · rintro ⟨h1, h2⟩
    have h1 : s ≤ k := h1
    rcases h2 with h2 | ⟨e, h2, h3⟩
    · omega
    · obtain ⟨x, hx, rfl⟩ := List.mem_map.mp h2
      obtain ⟨hx, hd⟩ := List.mem_filter.mp hx
      have hd : x.1 = s := of_decide_eq_true hd
      exact ⟨x, hx, hd, by rw [hd]; exact h1, h3⟩
  · rintro ⟨x, hx, rfl, h1, h2⟩
    exact ⟨h1, .inr ⟨x.2, List.mem_map.mpr ⟨x, List.mem_filter.mpr ⟨hx, by simp⟩, rfl⟩, h2⟩⟩
/-- how it stands behind the starts below hi -/
structure MI (xs : List Rg) (m : List Rg) (done : List Int) : Prop where
  sh : m = [] ∨ ∃ m' a o, m = m' ++ [(a, o)] ∧ Pre 0 m' a ∧ leO a o ∧ a ∈ done
  mem : ∀ k, inL m k ↔ ∃ x ∈ xs, x.1 ∈ done ∧ inR x k
theorem mi_step {xs m : List Rg} {done : List Int} {s : Int} (I : MI xs m done) (hs : 1 ≤ s) (hx : ∃ x ∈ xs, x.1 = s ∧ leO s x.2) (hlt : ∀ d ∈ done, d < s) : MI xs (mStep xs m s) (done ++ [s]) := by
  have hg : leO s (grp xs s) := by
    obtain ⟨x, h1, h2, h3⟩ := hx
    exact ((grp_in hs).mpr ⟨x, h1, h2, by rw [← h2]; exact ⟨Int.le_refl _, by rw [h2]; exact h3⟩⟩ : inR (s, grp xs s) s).2
  have memS : ∀ k, (∃ x ∈ xs, x.1 ∈ done ++ [s] ∧ inR x k) ↔ (∃ x ∈ xs, x.1 ∈ done ∧ inR x k) ∨ inR (s, grp xs s) k := fun k => by
    rw [grp_in hs]
    constructor
    · rintro ⟨x, h1, h2, h3⟩
      rcases List.mem_append.mp h2 with z | z
      · exact .inl ⟨x, h1, z, h3⟩
      · exact .inr ⟨x, h1, by simpa using z, h3⟩
    · rintro (⟨x, h1, h2, h3⟩ | ⟨x, h1, h2, h3⟩)
      · exact ⟨x, h1, by simp [h2], h3⟩
      · exact ⟨x, h1, by simp [h2], h3⟩
  have app : (m = [] ∨ ∃ m' a b, m = m' ++ [(a, some b)] ∧ Pre 0 m' a ∧ a ≤ b ∧ b + 1 < s) → MI xs (m ++ [(s, grp xs s)]) (done ++ [s]) := fun h => by
    refine ⟨.inr ⟨m, s, grp xs s, rfl, ?_, hg, by simp⟩, fun k => ?_⟩
    · rcases h with rfl | ⟨m', a, b, rfl, h1, h2, h3⟩
      · show (0 : Int) < s
        omega
      · exact pre_snoc h1 h2 h3
    · rw [memS, inL_app, I.mem, inL_cons]
      simp [inL_nil]
  unfold mStep
  rcases I.sh with e | ⟨m', a, o, e, hp, ho, ha⟩
  · subst e
    exact app (.inl rfl)
  · subst e
    rw [List.getLast?_concat, List.dropLast_concat]
    dsimp only
    have has : a < s := hlt a ha
    split
    · rename_i hc
      have hfar : ∀ k, leO k (far [o, grp xs s] 0) ↔ k ≤ 0 ∨ leO k o ∨ leO k (grp xs s) := fun k => by rw [far_le]; simp
      have a0 : 0 < a := by
        have : ∀ {l : List Rg} {lo : Int}, Pre lo l a → lo < a := by
          intro l
          induction l with
          | nil => intro lo h; exact h
          | cons x r ih =>
            obtain ⟨c, d⟩ := x
            intro lo h
            cases d with
            | none => exact h.elim
            | some d =>
              have := ih h.2.2
              have h1 := h.1
              have h2 := h.2.1
              omega
        exact this hp
      have cov : ∀ k, a ≤ k → k < s → leO k o := fun k h1 h2 => by
        cases o with
        | none => exact leO_n
        | some b =>
          have hc : s ≤ b + 1 := by simpa [touch] using hc
          exact leO_s.mpr (by omega)
      refine ⟨.inr ⟨m', a, _, rfl, hp, (hfar a).mpr (.inr (.inl ho)), by simp [ha]⟩, fun k => ?_⟩
      rw [memS, ← I.mem, inL_app, inL_app, inL_cons, inL_cons]
      simp only [inL_nil, or_false]
      have : inR (a, far [o, grp xs s] 0) k ↔ inR (a, o) k ∨ inR (s, grp xs s) k := by
        unfold inR
        dsimp only
        rw [hfar]
        constructor
        · rintro ⟨h1, h2 | h2 | h2⟩
          · omega
          · exact .inl ⟨h1, h2⟩
          · by_cases z : s ≤ k
            · exact .inr ⟨z, h2⟩
            · exact .inl ⟨h1, cov k h1 (by omega)⟩
        · rintro (⟨h1, h2⟩ | ⟨h1, h2⟩)
          · exact ⟨h1, .inr (.inl h2)⟩
          · exact ⟨by omega, .inr (.inr h2)⟩
      rw [this, or_assoc]
    · rename_i hc
      cases o with
      | none => simp [touch] at hc
      | some b =>
        have hc : ¬ s ≤ b + 1 := by simpa [touch] using hc
        exact app (.inr ⟨m', a, b, rfl, hp, leO_s.mp ho, by omega⟩)
/-- a range that is not empty and begins at 1 or above -/
def okW (r : Rg) : Prop := 1 ≤ r.1 ∧ leO r.1 r.2
theorem okG.w {r : Rg} (h : okG r) : okW r := ⟨h.1, h.2.2.1⟩
theorem mi_fold {xs : List Rg} (hx : ∀ x ∈ xs, okW x) : ∀ (ss done : List Int) (m : List Rg), MI xs m done → (∀ s ∈ ss, ∃ x ∈ xs, x.1 = s) → (∀ d ∈ done, ∀ s ∈ ss, d < s) → List.Pairwise (· < ·) ss → MI xs (ss.foldl (mStep xs) m) (done ++ ss)
  | [], done, m, I, _, _, _ => by rw [List.append_nil]; exact I
  | s :: ss, done, m, I, h1, h2, h3 => by
    obtain ⟨x, hxm, hxs⟩ := h1 s (by simp)
    have hk := hx x hxm
    have I' := mi_step I (by have := hk.1; omega) ⟨x, hxm, hxs, by rw [← hxs]; exact hk.2⟩ fun d hd => h2 d hd s (by simp)
    rw [List.foldl_cons, show done ++ s :: ss = (done ++ [s]) ++ ss by simp]
    rw [List.pairwise_cons] at h3
    refine mi_fold hx ss _ _ I' (fun t ht => h1 t (by simp [ht])) (fun d hd t ht => ?_) h3.2
    rcases List.mem_append.mp hd with z | z
    · exact h2 d z t (by simp [ht])
    · have : d = s := by simpa using z
      rw [this]; exact h3.1 t ht

theorem ltI_of {a b : Int} : Ks.ltI b a = false ↔ a ≤ b := by
  unfold Ks.ltI
  simp
theorem starts_pw (xs : List Rg) : List.Pairwise (· < ·) (starts xs) := by
  have h1 := Ks.isort_srt Ks.ordI (Ks.dd (xs.map (·.1)))
  have h2 : (starts xs).Nodup := (Ks.isort_perm _).nodup_iff.mpr (Ks.dd_nodup _)
  have h1' : (starts xs).Pairwise (fun a b => a ≤ b) := h1.imp fun h => ltI_of.mp h
  exact (h1'.and h2).imp fun {a b} h => by
    have := h.1
    have := h.2
    omega
theorem starts_mem {xs : List Rg} {s : Int} : s ∈ starts xs ↔ ∃ x ∈ xs, x.1 = s := by
  unfold starts
  rw [(Ks.isort_perm _).mem_iff, Ks.dd_mem, List.mem_map]
theorem mrg_okW {xs : List Rg} (hx : ∀ x ∈ xs, okW x) : Norm 0 (mrg xs) ∧ ∀ k, inL (mrg xs) k ↔ inL xs k := by
  have I := mi_fold hx (starts xs) [] [] ⟨.inl rfl, fun k => by simp [inL_nil]⟩ (fun s hs => starts_mem.mp hs) (fun d hd => by simp at hd) (starts_pw xs)
  rw [List.nil_append] at I
  refine ⟨?_, fun k => ?_⟩
  · rcases I.sh with e | ⟨m', a, o, e, hp, ho, _⟩
    · unfold mrg; rw [e]; trivial
    · unfold mrg; rw [e]; exact pre_norm hp ho
  · unfold mrg
    rw [I.mem]
    constructor
    · rintro ⟨x, h1, _, h3⟩; exact ⟨x, h1, h3⟩
    · rintro ⟨x, h1, h3⟩; exact ⟨x, h1, starts_mem.mpr ⟨x, h1, rfl⟩, h3⟩
theorem mrg_ok {xs : List Rg} (hx : ∀ x ∈ xs, okG x) : Norm 0 (mrg xs) ∧ ∀ k, inL (mrg xs) k ↔ inL xs k := mrg_okW fun x h => (hx x h).w
/-! the law's merging, number by number -/
def inB (xs : List Rg) (k : Int) : Bool := xs.any fun r => decide (r.1 ≤ k) && (match r.2 with
  | none => true
  | some b => decide (k ≤ b))
theorem inB_iff {xs : List Rg} {k : Int} : inB xs k = true ↔ inL xs k := by
  unfold inB inL inR
  rw [List.any_eq_true]
  constructor
  · rintro ⟨r, h1, h2⟩
    rw [Bool.and_eq_true] at h2
    refine ⟨r, h1, of_decide_eq_true h2.1, fun b e => ?_⟩
    have h3 := h2.2
    rw [e] at h3
    exact of_decide_eq_true h3
  · rintro ⟨r, h1, h2, h3⟩
    refine ⟨r, h1, ?_⟩
    rw [Bool.and_eq_true]
    refine ⟨decide_eq_true h2, ?_⟩
    cases e : r.2 with
    | none => rfl
    | some b => exact decide_eq_true (h3 b e)
def setLast (m : List Rg) (o : Option Int) : List Rg := match m.getLast? with
  | some (a, _) => m.dropLast ++ [(a, o)]
  | none => m
def nStep (xs : List Rg) (m : List Rg) (k : Int) : List Rg := if inB xs k = true then (if inB xs (k - 1) = true then setLast m (some k) else m ++ [(k, some k)]) else m
def nums : Nat → List Int
  | 0 => []
  | n + 1 => nums n ++ [((n : Int) + 1)]
def due0 (xs : List Rg) (n : Nat) : List Rg := (nums n).foldl (nStep xs) []
def endless (xs : List Rg) : Bool := xs.any fun r => r.2.isNone
def dueR (xs : List Rg) : List Rg := if endless xs = true then setLast (due0 xs 99) none else due0 xs 99
theorem due0_s (xs : List Rg) (n : Nat) : due0 xs (n + 1) = nStep xs (due0 xs n) ((n : Int) + 1) := by
  unfold due0
  rw [nums, List.foldl_append]
  rfl
theorem setLast_snoc (m : List Rg) (a : Int) (o p : Option Int) : setLast (m ++ [(a, o)]) p = m ++ [(a, p)] := by
  unfold setLast
  rw [List.getLast?_concat, List.dropLast_concat]
/-- behind n: the last row ends at n where n is in, below it where not -/
structure NI (xs : List Rg) (n : Nat) (m : List Rg) : Prop where
  sh : (m = [] ∧ ∀ k : Int, 1 ≤ k → k ≤ n → ¬ inL xs k) ∨ ∃ m' a b, m = m' ++ [(a, some b)] ∧ Pre 0 m' a ∧ a ≤ b ∧ b ≤ n ∧ (inL xs n ↔ b = n) ∧ 1 ≤ n
  mem : ∀ k, inL m k ↔ inL xs k ∧ k ≤ n
theorem ni_all {xs : List Rg} (hx : ∀ x ∈ xs, okG x) : ∀ n : Nat, NI xs n (due0 xs n)
  | 0 => ⟨.inl ⟨rfl, fun k h1 h2 => by omega⟩, fun k => ⟨fun h => absurd h inL_nil, fun ⟨⟨x, h1, h2⟩, h3⟩ => by
      have z := (hx x h1).1
      have y := h2.1
      omega⟩⟩
  | n + 1 => by
    have I := ni_all hx n
    have lo : ∀ k, inL xs k → 1 ≤ k := fun k ⟨x, h1, h2⟩ => by
      have z := (hx x h1).1
      have y := h2.1
      omega
    rw [due0_s]
    unfold nStep
    have e0 : ((n : Int) + 1 - 1) = n := by omega
    rw [e0]
    by_cases hk : inB xs ((n : Int) + 1) = true
    · rw [if_pos hk]
      have hk' := inB_iff.mp hk
      by_cases hn : inB xs n = true
      · rw [if_pos hn]
        have hn' := inB_iff.mp hn
        rcases I.sh with ⟨e, h⟩ | ⟨m', a, b, e, h1, h2, h3, h4, h5⟩
        · exact absurd hn' (h n (lo _ hn') (Int.le_refl _))
        · have hb : b = n := h4.mp hn'
          subst hb
          rw [e, setLast_snoc]
          refine ⟨.inr ⟨m', a, _, rfl, h1, by omega, by push_cast; omega, ⟨fun _ => by push_cast; rfl, fun _ => by push_cast; exact hk'⟩, by omega⟩, fun k => ?_⟩
          have mem := I.mem k
          rw [e, inL_app, inL_cons] at mem
          rw [inL_app, inL_cons]
          simp only [inL_nil, or_false] at mem ⊢
          unfold inR at mem ⊢
          dsimp only at mem ⊢
          rw [leO_s] at mem ⊢
          constructor
          · rintro (z | ⟨z1, z2⟩)
            · have := mem.mp (.inl z)
              exact ⟨this.1, by push_cast; omega⟩
            · by_cases y : k ≤ n
              · have := mem.mp (.inr ⟨z1, y⟩)
                exact ⟨this.1, by push_cast; omega⟩
              · have : k = n + 1 := by omega
                rw [this]
                exact ⟨hk', by push_cast; omega⟩
          · rintro ⟨z1, z2⟩
            by_cases y : k ≤ n
            · rcases mem.mpr ⟨z1, y⟩ with z | z
              · exact .inl z
              · exact .inr ⟨z.1, by omega⟩
            · push_cast at z2
              exact .inr ⟨by omega, by omega⟩
      · rw [if_neg hn]
        have hn' : ¬ inL xs n := fun z => hn (inB_iff.mpr z)
        refine ⟨.inr ⟨due0 xs n, _, _, rfl, ?_, Int.le_refl _, by push_cast; omega, ⟨fun _ => by push_cast; rfl, fun _ => by push_cast; exact hk'⟩, by omega⟩, fun k => ?_⟩
        · rcases I.sh with ⟨e, h⟩ | ⟨m', a, b, e, h1, h2, h3, h4, h5⟩
          · rw [e]
            show (0 : Int) < _
            omega
          · rw [e]
            refine pre_snoc h1 h2 ?_
            have : b ≠ n := fun z => hn' (h4.mpr z)
            omega
        · rw [inL_app, I.mem, inL_cons]
          simp only [inL_nil, or_false]
          unfold inR
          dsimp only
          rw [leO_s]
          push_cast
          constructor
          · rintro (⟨z1, z2⟩ | ⟨z1, z2⟩)
            · exact ⟨z1, by omega⟩
            · have : k = n + 1 := by omega
              rw [this]; exact ⟨hk', by omega⟩
          · rintro ⟨z1, z2⟩
            by_cases y : k ≤ n
            · exact .inl ⟨z1, y⟩
            · exact .inr ⟨by omega, by omega⟩
    · rw [if_neg hk]
      have hk' : ¬ inL xs ((n : Int) + 1) := fun z => hk (inB_iff.mpr z)
      refine ⟨?_, fun k => ?_⟩
      · rcases I.sh with ⟨e, h⟩ | ⟨m', a, b, e, h1, h2, h3, h4, h5⟩
        · refine .inl ⟨e, fun k z1 z2 => ?_⟩
          push_cast at z2
          by_cases y : k ≤ n
          · exact h k z1 y
          · have : k = n + 1 := by omega
            rw [this]; exact hk'
        · exact .inr ⟨m', a, b, e, h1, h2, by push_cast; omega, ⟨fun z => absurd (by push_cast at z; exact z) hk', fun z => by push_cast at z; omega⟩, by omega⟩
      · rw [I.mem]
        push_cast
        constructor
        · rintro ⟨z1, z2⟩; exact ⟨z1, by omega⟩
        · rintro ⟨z1, z2⟩
          refine ⟨z1, ?_⟩
          by_cases y : k ≤ n
          · exact y
          · have : k = n + 1 := by omega
            rw [this] at z1
            exact absurd z1 hk'
theorem due_ok {xs : List Rg} (hx : ∀ x ∈ xs, okG x) : Norm 0 (dueR xs) ∧ ∀ k, inL (dueR xs) k ↔ inL xs k := by
  have I := ni_all hx 99
  unfold dueR
  by_cases he : endless xs = true
  · rw [if_pos he]
    obtain ⟨x, h1, h2⟩ := List.any_eq_true.mp he
    have h2 : x.2 = none := by simpa using h2
    have hk := hx x h1
    have cov : ∀ k, 99 ≤ k → inL xs k := fun k z => ⟨x, h1, by have := hk.2.1; omega, by rw [h2]; exact leO_n⟩
    rcases I.sh with ⟨e, h⟩ | ⟨m', a, b, e, h1, h2, h3, h4, h5⟩
    · exact absurd (cov 99 (by omega)) (h 99 (by omega) (by decide))
    · have hb : b = 99 := h4.mp (cov 99 (by omega))
      rw [e, setLast_snoc]
      refine ⟨pre_norm h1 leO_n, fun k => ?_⟩
      have mem := I.mem k
      rw [e, inL_app, inL_cons] at mem
      rw [inL_app, inL_cons]
      simp only [inL_nil, or_false] at mem ⊢
      unfold inR at mem ⊢
      dsimp only at mem ⊢
      rw [leO_s, hb] at mem
      have h5 : a ≤ 99 := by omega
      constructor
      · rintro (z | ⟨z1, _⟩)
        · exact (mem.mp (.inl z)).1
        · by_cases y : k ≤ 99
          · exact (mem.mp (.inr ⟨z1, y⟩)).1
          · exact cov k (by omega)
      · intro z
        by_cases y : k ≤ 99
        · rcases mem.mpr ⟨z, y⟩ with z | z
          · exact .inl z
          · exact .inr ⟨z.1, leO_n⟩
        · exact .inr ⟨by omega, leO_n⟩
  · rw [if_neg he]
    refine ⟨?_, fun k => ?_⟩
    · rcases I.sh with ⟨e, _⟩ | ⟨m', a, b, e, h1, h2, _⟩
      · rw [e]; trivial
      · rw [e]; exact pre_norm h1 (leO_s.mpr h2)
    · rw [I.mem]
      refine ⟨fun z => z.1, fun z => ⟨z, ?_⟩⟩
      obtain ⟨x, h1, h2⟩ := z
      have hk := hx x h1
      cases e : x.2 with
      | none => exact absurd (List.any_eq_true.mpr ⟨x, h1, by rw [e]; rfl⟩) he
      | some b =>
        have z1 := hk.2.2.2 b e
        have z2 := h2.2 b e
        have : ((99 : Nat) : Int) = 99 := rfl
        omega
theorem mrg_due {xs : List Rg} (hx : ∀ x ∈ xs, okG x) : mrg xs = dueR xs :=
  norm_uniq (mrg_ok hx).1 (due_ok hx).1 fun k => ((mrg_ok hx).2 k).trans ((due_ok hx).2 k).symm

/-! _law_alike: whether two plain values are the same -/
theorem view_lt {S : Store} {m : Nat} {d : D} (h : view S (.loc m) = some d) : m < S.length := by
  unfold view at h
  dsimp only at h
  split at h
  · rename_i c hc
    exact (List.getElem?_eq_some_iff.mp hc).1
  · cases h
theorem alike_loop {n q : Nat} {w u : W} {xs ys : List D} {mk : List D → D} (hmk : mk = D.lst ∨ mk = D.tup) {S : Store} {Z : En} (hw : view S w = some (mk xs)) (hu : view S u = some (mk ys)) (hl : xs.length = ys.length)
    (hx : xs.all (plD q) = true) (hy : ys.all (plD q) = true) (ih : ∀ (a b : D), plD q a = true → plD q b = true → (F__law_alike n).sem [.d a, .d b] S = .ok (.d (.bl (sm a b))) S)
    (h1 : ∀ env, sms xs ys = true → Z.n env S) (h2 : sms xs ys = false → Z.r (.d (.bl false)) S) (lw : ∀ m, w = .loc m → m < S.length) (lu : ∀ m, u = .loc m → m < S.length) :
    ∀ (r k : Nat) (o : Option W), k + r = ys.length → sms (xs.take k) (ys.take k) = true →
    Dn.TS (forLoop [] (.nm 2) (I__law_alike_b1 (F__law_alike n)).sem S.length (rngD k r) [some w, some u, o] S) Z := by
  intro r
  have keep : ∀ x : Int, gcE S.length [some w, some u, some (.d (.int x))] = [some w, some u, some (.d (.int x))] := fun x => gcE_keep fun o ho m e => by
    simp only [List.mem_cons, List.not_mem_nil, or_false] at ho
    rcases ho with rfl | rfl | rfl
    · exact lw m (by cases e; rfl)
    · exact lu m (by cases e; rfl)
    · cases e
  induction r with
  | zero =>
    intro k o hk hs
    rw [rngD_0, TS_fnil]
    rw [List.take_of_length_le (by omega), List.take_of_length_le (by omega)] at hs
    exact h1 _ hs
  | succ r ihr =>
    intro k o hk hs
    have hkx : k < xs.length := by omega
    have hky : k < ys.length := by omega
    rw [rngD_s, TS_fnm, s__law_alike_b1]
    have e1 : ixD [mk xs, .int k] = some (.d xs[k]) := by
      have z := atI_nat' (List.getElem?_eq_getElem hkx)
      rcases hmk with rfl | rfl
      · exact ix_l z
      · exact ix_t z
    have e2 : ixD [mk ys, .int k] = some (.d ys[k]) := by
      have z := atI_nat' (List.getElem?_eq_getElem hky)
      rcases hmk with rfl | rfl
      · exact ix_l z
      · exact ix_t z
    have z := ih xs[k] ys[k] (List.all_eq_true.mp hx _ (List.getElem_mem hkx)) (List.all_eq_true.mp hy _ (List.getElem_mem hky))
    have g1 : orD ixD dgetD [mk xs, .int k] = some (.d xs[k]) := by rw [orD_none (by rcases hmk with rfl | rfl <;> rfl)]; exact e1
    have g2 : orD ixD dgetD [mk ys, .int k] = some (.d ys[k]) := by rw [orD_none (by rcases hmk with rfl | rfl <;> rfl)]; exact e2
    simp [Tv_w, toW_w, hw, hu, e1, e2, g1, g2, z]
    have ex : xs.take (k + 1) = xs.take k ++ [xs[k]] := by rw [List.take_add_one, List.getElem?_eq_getElem hkx]; rfl
    have ey : ys.take (k + 1) = ys.take k ++ [ys[k]] := by rw [List.take_add_one, List.getElem?_eq_getElem hky]; rfl
    have dx : xs.drop k = xs[k] :: xs.drop (k + 1) := List.drop_eq_getElem_cons hkx
    have dy : ys.drop k = ys[k] :: ys.drop (k + 1) := List.drop_eq_getElem_cons hky
    refine ⟨fun hf => ?_, fun ht => ?_⟩
    · refine h2 ?_
      rw [sms_take k hl, dx, dy]
      simp [sms, hf]
    · rw [Kloop_, keep]
      have e3 : ((k : Int) + 1) = ((k + 1 : Nat) : Int) := by omega
      rw [e3]
      refine ihr (k + 1) _ (by omega) ?_
      have hlt : (xs.take (k + 1)).length = (ys.take (k + 1)).length := by simp [hl]
      rw [sms_take k hlt]
      have t1 : (xs.take (k + 1)).take k = xs.take k := by rw [List.take_take]; congr 1; omega
      have t2 : (ys.take (k + 1)).take k = ys.take k := by rw [List.take_take]; congr 1; omega
      have t3 : (xs.take (k + 1)).drop k = [xs[k]] := by rw [ex, List.drop_append]; simp [List.length_take, Nat.min_eq_left (Nat.le_of_lt hkx)]
      have t4 : (ys.take (k + 1)).drop k = [ys[k]] := by rw [ey, List.drop_append]; simp [List.length_take, Nat.min_eq_left (Nat.le_of_lt hky)]
      rw [t1, t2, t3, t4, hs]
      simp [sms, ht]
theorem alike_tail {n q : Nat} {w u : W} {xs ys : List D} {S : Store} {a b : D} {Z : En} (lw : ∀ m, w = .loc m → m < S.length) (lu : ∀ m, u = .loc m → m < S.length) (hw : view S w = some a) (hu : view S u = some b) (hab : (a = .lst xs ∧ b = .lst ys) ∨ (a = .tup xs ∧ b = .tup ys))
    (hx : xs.all (plD q) = true) (hy : ys.all (plD q) = true) (hyl : ys.length < 1000000) (ih : ∀ (a b : D), plD q a = true → plD q b = true → (F__law_alike n).sem [.d a, .d b] S = .ok (.d (.bl (sm a b))) S)
    (h : Z.r (.d (.bl (sms xs ys))) S) : Dn.TS ((I__law_alike_5 (F__law_alike n)).sem [some w, some u, none] S) Z := by
  have hf : xs.length ≠ ys.length → sms xs ys = false := fun hne => by
    cases e : sms xs ys with
    | false => rfl
    | true => exact absurd (sms_len e) hne
  have fin : xs.length = ys.length → Dn.TS (forLoop [] (.nm 2) (I__law_alike_b1 (F__law_alike n)).sem S.length (rngD (0 : Nat) ys.length) [some w, some u, none] S) (Z.sq (I__law_alike_7 (F__law_alike n)).sem) := fun he => by
    have h1 : ∀ env, sms xs ys = true → (Z.sq (I__law_alike_7 (F__law_alike n)).sem).n env S := fun env hs => by
      simp
      rw [Kseq_, s__law_alike_7]; simp
      rw [hs] at h; exact h
    have h2 : sms xs ys = false → (Z.sq (I__law_alike_7 (F__law_alike n)).sem).r (.d (.bl false)) S := fun hs => by
      simp
      rw [hs] at h; exact h
    rcases hab with ⟨rfl, rfl⟩ | ⟨rfl, rfl⟩
    · exact alike_loop (.inl rfl) hw hu he hx hy ih h1 h2 lw lu ys.length 0 none (by omega) (by simp [sms])
    · exact alike_loop (.inr rfl) hw hu he hx hy ih h1 h2 lw lu ys.length 0 none (by omega) (by simp [sms])
  have fin : xs.length = ys.length → _ := fin
  rw [s__law_alike_5]
  rcases hab with ⟨rfl, rfl⟩ | ⟨rfl, rfl⟩
  all_goals
    simp [Tv_w, toW_w, hw, hu]
    refine ⟨fun hne => ?_, fun he => ?_⟩
    · rw [hf (by omega)] at h; exact h
    · rw [Kseq_, s__law_alike_6]; simp [Tv_w, toW_w, hw, hu]
      exact ⟨okR_of (by omega) (by omega), fin (by omega)⟩
theorem alike_seq {n q : Nat} {w u : W} {xs ys : List D} {S : Store} {a b : D} (lw : ∀ m, w = .loc m → m < S.length) (lu : ∀ m, u = .loc m → m < S.length) (hw : view S w = some a) (hu : view S u = some b) (hab : (a = .lst xs ∧ b = .lst ys) ∨ (a = .tup xs ∧ b = .tup ys))
    (hx : xs.all (plD q) = true) (hy : ys.all (plD q) = true) (hyl : ys.length < 1000000) (ih : ∀ (a b : D), plD q a = true → plD q b = true → (F__law_alike n).sem [.d a, .d b] S = .ok (.d (.bl (sm a b))) S) :
    (F__law_alike (n + 1)).sem [w, u] S = .ok (.d (.bl (sms xs ys))) S := by
  refine T_eq (T__law_alike n ?_)
  have fin : ∀ {Z : En}, Z.r (.d (.bl (sms xs ys))) S → _ := fun {Z} h => alike_tail (Z := Z) lw lu hw hu hab hx hy hyl ih h
  have nw := nonW_view hw
  have nu := nonW_view hu
  rcases hab with ⟨rfl, rfl⟩ | ⟨rfl, rfl⟩
  all_goals
    simp only at nw nu
    rw [s__law_alike]; simp [Tv_w, toW_w, nu]
    rw [Kseq_, s__law_alike_1]; simp [Tv_w, toW_w, hw, hu, isT]
    rw [Kseq_, s__law_alike_2]; simp [Tv_w, toW_w, hw, hu, isT]
    rw [Kseq_, s__law_alike_3]; simp [Tv_w, toW_w, hw, hu, isT]
    rw [Kseq_, s__law_alike_4]; simp [Tv_w, toW_w, hw, hu, isT]
    rw [Kseq_]
    exact fin (by simp)
theorem alike_d (n : Nat) : ∀ (a b : D) (S : Store), plD n a = true → plD n b = true → (F__law_alike (n + 1)).sem [.d a, .d b] S = .ok (.d (.bl (sm a b))) S := by
  induction n with
  | zero =>
    intro a b S ha hb
    refine T_eq (T__law_alike 0 ?_)
    cases b <;> first | (simp [plD] at hb; done) | skip
    all_goals (cases a <;> first | (simp [plD] at ha; done) | skip)
    all_goals
      rw [s__law_alike]; simp [nonW, isT, sm]
      try (rw [Kseq_, s__law_alike_1]; simp [nonW, isT, sm])
      try (rw [Kseq_, s__law_alike_2]; simp [nonW, isT, sm])
      try (rw [Kseq_, s__law_alike_3]; simp [nonW, isT, sm])
  | succ n ih =>
    intro a b S ha hb
    by_cases hs : (∃ xs ys, (a = .lst xs ∧ b = .lst ys) ∨ (a = .tup xs ∧ b = .tup ys))
    · obtain ⟨xs, ys, hab⟩ := hs
      have e : sm a b = sms xs ys := by rcases hab with ⟨rfl, rfl⟩ | ⟨rfl, rfl⟩ <;> simp [sm]
      have hx : xs.all (plD n) = true := by rcases hab with ⟨rfl, rfl⟩ | ⟨rfl, rfl⟩ <;> (simp only [plD, Bool.and_eq_true] at ha; exact ha.2)
      have hy : ys.length < 1000000 ∧ ys.all (plD n) = true := by rcases hab with ⟨rfl, rfl⟩ | ⟨rfl, rfl⟩ <;> (simp only [plD, Bool.and_eq_true, decide_eq_true_eq] at hb; exact hb)
      rw [e]
      exact alike_seq (n := n + 1) (q := n) (fun m z => nomatch z) (fun m z => nomatch z) rfl rfl hab hx hy.2 hy.1 fun a b h1 h2 => ih a b S h1 h2
    · refine T_eq (T__law_alike (n + 1) ?_)
      have hn : ∀ xs ys, ¬ (a = .lst xs ∧ b = .lst ys) ∧ ¬ (a = .tup xs ∧ b = .tup ys) := fun xs ys => ⟨fun z => hs ⟨xs, ys, .inl z⟩, fun z => hs ⟨xs, ys, .inr z⟩⟩
      clear hs ih
      cases b <;> first | (simp [plD] at hb; done) | skip
      all_goals (cases a <;> first | (simp [plD] at ha; done) | skip)
      all_goals first
        | exact absurd ⟨rfl, rfl⟩ (hn _ _).1
        | exact absurd ⟨rfl, rfl⟩ (hn _ _).2
        | skip
      all_goals
        clear hn
        rw [s__law_alike]; simp [nonW, isT, sm]
        try (rw [Kseq_, s__law_alike_1]; simp [nonW, isT, sm])
        try (rw [Kseq_, s__law_alike_2]; simp [nonW, isT, sm])
        try (rw [Kseq_, s__law_alike_3]; simp [nonW, isT, sm])
        try (rw [Kseq_, s__law_alike_4]; simp [nonW, isT, sm])
/-- a live list, a value -/
theorem alike_l {n : Nat} {m : Nat} {xs : List D} {b : D} {S : Store} (h : S[m]? = some (.lst xs)) (hx : plD (n + 1) (.lst xs) = true) (hb : plD (n + 1) b = true) : (F__law_alike (n + 2)).sem [.loc m, .d b] S = .ok (.d (.bl (sm (.lst xs) b))) S := by
  have hv : view S (.loc m) = some (.lst xs) := by simp [h]
  by_cases hs : ∃ ys, b = .lst ys
  · obtain ⟨ys, rfl⟩ := hs
    simp only [plD, Bool.and_eq_true, decide_eq_true_eq] at hx hb
    simp only [sm]
    exact alike_seq (n := n + 1) (q := n) (fun k z => by cases z; exact view_lt hv) (fun m z => nomatch z) hv rfl (.inl ⟨rfl, rfl⟩) hx.2 hb.2 hb.1 fun a b h1 h2 => alike_d n a b S h1 h2
  · refine T_eq (T__law_alike (n + 1) ?_)
    cases b <;> first | (simp [plD] at hb; done) | (exact absurd ⟨_, rfl⟩ hs) | skip
    all_goals
      rw [s__law_alike]; simp [nonW, isT, sm, h]
      try (rw [Kseq_, s__law_alike_1]; simp [nonW, isT, sm, h])
      try (rw [Kseq_, s__law_alike_2]; simp [nonW, isT, sm, h])
      try (rw [Kseq_, s__law_alike_3]; simp [nonW, isT, sm, h])
      try (rw [Kseq_, s__law_alike_4]; simp [nonW, isT, sm, h])
theorem alT (n : Nat) {a b : D} {S : Store} {P : WP RW} {E : WE} (ha : plD n a = true) (hb : plD n b = true) : Dn.T ((F__law_alike (n + 1)).sem [.d a, .d b] S) P E = P (.d (.bl (sm a b))) S := by rw [alike_d n a b S ha hb]; rfl
theorem alTl (n : Nat) {m : Nat} {xs : List D} {b : D} {S : Store} {P : WP RW} {E : WE} (h : S[m]? = some (.lst xs)) (hx : plD (n + 1) (.lst xs) = true) (hb : plD (n + 1) b = true) : Dn.T ((F__law_alike (n + 2)).sem [.loc m, .d b] S) P E = P (.d (.bl (sm (.lst xs) b))) S := by rw [alike_l h hx hb]; rfl

/-! the state of the draws stands first in the store -/
def stC (l : List Int) (p a b e : Int) : Cell := .lst [.lst (l.map D.int), .int p, .int a, .int b, .int e]
structure StI (l : List Int) (p a b e : Int) : Prop where
  p0 : 0 ≤ p
  p1 : p ≤ l.length
  a0 : 0 ≤ a
  b0 : 0 ≤ b
  b1 : b < 1000000000000000000
  e0 : 0 ≤ e
  e1 : e ≤ 6
def StOk (c : Cell) : Prop := ∃ l p a b e, c = stC l p a b e ∧ StI l p a b e
section
variable {a b c d e x : D} {r : Store}
@[simp] theorem ix5_0 : ixD [.lst [a, b, c, d, e], .int 0] = some (.d a) := by simp [ixD, atI, ixN]
@[simp] theorem ix5_1 : ixD [.lst [a, b, c, d, e], .int 1] = some (.d b) := by simp [ixD, atI, ixN]
@[simp] theorem ix5_2 : ixD [.lst [a, b, c, d, e], .int 2] = some (.d c) := by simp [ixD, atI, ixN]
@[simp] theorem ix5_3 : ixD [.lst [a, b, c, d, e], .int 3] = some (.d d) := by simp [ixD, atI, ixN]
@[simp] theorem ix5_4 : ixD [.lst [a, b, c, d, e], .int 4] = some (.d e) := by simp [ixD, atI, ixN]
@[simp] theorem set5_1 : setP [.loc 0, .d (.int 1), .d x] (.lst [a, b, c, d, e] :: r) = some (.d .non, .lst [a, x, c, d, e] :: r) := by simp [setP, ixN]
@[simp] theorem set5_2 : setP [.loc 0, .d (.int 2), .d x] (.lst [a, b, c, d, e] :: r) = some (.d .non, .lst [a, b, x, d, e] :: r) := by simp [setP, ixN]
@[simp] theorem set5_3 : setP [.loc 0, .d (.int 3), .d x] (.lst [a, b, c, d, e] :: r) = some (.d .non, .lst [a, b, c, x, e] :: r) := by simp [setP, ixN]
@[simp] theorem set5_4 : setP [.loc 0, .d (.int 4), .d x] (.lst [a, b, c, d, e] :: r) = some (.d .non, .lst [a, b, c, d, x] :: r) := by simp [setP, ixN]
end
theorem atI_map {l : List Int} {p : Int} {f : Int → D} (h0 : 0 ≤ p) (h1 : p < l.length) : ∃ v, atI (l.map f) p = some (f v) := by
  refine ⟨l[p.toNat]'(by omega), ?_⟩
  unfold atI ixN
  rw [if_pos h0, if_pos (by simpa using h1)]
  simp [List.getElem?_eq_getElem (show p.toNat < l.length by omega)]
theorem atI_some {α : Type} {xs : List α} {i : Int} (h0 : 0 ≤ i) (h1 : i < xs.length) : ∃ c, atI xs i = some c := by
  refine ⟨xs[i.toNat]'(by omega), ?_⟩
  unfold atI ixN
  rw [if_pos h0, if_pos h1]
  simp [List.getElem?_eq_getElem (show i.toNat < xs.length by omega)]
theorem draw_end {l : List Int} {p a b e m : Int} {o : Option W} {r : Store} {Z : En} (I : StI l p a b e) (h2 : 2 ≤ m) (hm : m ≤ 1000000)
    (h : ∀ v c', StOk c' → 0 ≤ v → v < m → Z.r (.d (.int v)) (c' :: r)) : Dn.TS (I__law_draw_2.sem [some (.loc 0), some (.d (.int m)), o, none, none] (stC l p a b e :: r)) Z := by
  have hb := I.b0
  have hb1 := I.b1
  have he1 := I.e1
  simp [stC]
  refine ⟨fun ha => ?_, fun ha => ?_⟩
  · rw [mod_ii (by omega)]; simp
    rw [Kseq_]; simp
    rw [fdiv_ii (by omega)]; simp
    rw [Kseq_]; simp
    exact h _ _ ⟨l, p, a / m, b, e, rfl, I.p0, I.p1, Int.ediv_nonneg I.a0 (by omega), I.b0, I.b1, I.e0, I.e1⟩ (Int.emod_nonneg _ (by omega)) (Int.emod_lt_of_pos _ (by omega))
  · rw [Kseq_]; simp
    refine ⟨fun he => ?_, fun he => ?_⟩
    · try simp
      rw [Kseq_]; simp
      rw [mul_ii (by omega)]; simp
      rw [Kseq_]; simp
      rw [mul_ii (by omega)]; simp
      rw [Kseq_]; simp
      rw [mod_ii (by omega)]; simp
      exact h _ _ ⟨l, p, a, b, e - 1, rfl, I.p0, I.p1, I.a0, I.b0, I.b1, by omega, by omega⟩ (Int.emod_nonneg _ (by omega)) (Int.emod_lt_of_pos _ (by omega))
    · rw [Kseq_]; simp
      exact h _ _ ⟨l, p, a, b, e, rfl, I⟩ (by omega) (by omega)
theorem draw {c : Cell} {m : Int} {r : Store} {P : WP RW} {E : WE} (hc : StOk c) (h0 : 0 ≤ m) (hm : m ≤ 1000000)
    (h : ∀ v c', StOk c' → 0 ≤ v → (v < m ∨ v = 0) → P (.d (.int v)) (c' :: r)) : Dn.T (F__law_draw.sem [.loc 0, .d (.int m)] (c :: r)) P E := by
  obtain ⟨l, p, a, b, e, rfl, I⟩ := hc
  refine T__law_draw ?_
  try simp
  refine ⟨fun h1 => ?_, fun h1 => ?_⟩
  · simpa [exitR] using h _ _ ⟨l, p, a, b, e, rfl, I⟩ (by omega) (by omega)
  · rw [Kseq_]
    have fin : ∀ {l : List Int} {p a b e : Int} {o : Option W}, StI l p a b e → _ := fun {l p a b e o} I => draw_end (l := l) (p := p) (a := a) (b := b) (e := e) (o := o) (r := r) (Z := EnD (r.length + 1) P E) I h1 hm (fun v c' hc h0 hr => by simpa [exitR] using h v c' hc h0 (.inl hr))
    have I1 := I.p0
    have I2 := I.e0
    have I3 := I.b0
    have I4 := I.b1
    simp [stC]
    refine ⟨fun ha => ⟨fun he => ⟨fun hp => ?_, fun hp => ?_⟩, fun he => ?_⟩, fun ha => ?_⟩
    · obtain ⟨v, hv⟩ := atI_map (f := D.int) I.p0 hp
      rw [ix_l hv]; simp
      rw [Kseq_]; simp
      rw [Kseq_]; simp
      refine ⟨fun hv0 => ?_, fun hv0 => ?_⟩
      · rw [Kseq_]; simp
        refine ⟨fun h18 => ?_, fun h18 => ?_⟩
        · try simp
          rw [Kseq_]; exact fin ⟨by omega, by omega, by omega, by omega, by omega, by omega, by omega⟩
        · try simp
          rw [Kseq_]; simp
          rw [Kseq_]; exact fin ⟨by omega, by omega, by omega, by omega, by omega, by omega, by omega⟩
      · rw [Kseq_]; simp
        refine ⟨fun h18 => ?_, fun h18 => ?_⟩
        · try simp
          rw [Kseq_]; exact fin ⟨by omega, by omega, by omega, by omega, by omega, by omega, by omega⟩
        · try simp
          rw [Kseq_]; simp
          rw [Kseq_]; exact fin ⟨by omega, by omega, by omega, by omega, by omega, by omega, by omega⟩
    · rw [Kseq_]; exact fin I
    · rw [Kseq_]; exact fin I
    · rw [Kseq_]; exact fin I
theorem state {ns : List Int} {S : Store} {P : WP RW} {E : WE} (h : P (.own (stC ns 0 0 0 0)) S) : Dn.T (F__law_state.sem [.d (.scr ns)] S) P E := by
  refine T__law_state ?_
  simp [listD]
  exact h
theorem st0 (ns : List Int) : StOk (stC ns 0 0 0 0) := ⟨ns, 0, 0, 0, 0, rfl, by omega, by omega, by omega, by omega, by omega, by omega, by omega⟩

/-! the program's merging, walked -/
theorem T_larger_ {a b : Int} {S : Store} {P : WP RW} {E : WE} (h : P (.d (.int (max a b))) S) : Dn.T (F_larger.sem [.d (.int a), .d (.int b)] S) P E := by
  refine T_larger ?_
  simp
  refine ⟨fun z => ?_, fun z => ?_⟩
  · rw [show max a b = a by omega] at h; exact h
  · rw [show max a b = b by omega] at h; exact h
theorem far_loop {es0 : List (Option Int)} {Z : En} {S : Store} : ∀ (es : List (Option Int)) (b : Int) (o : Option W), (∀ c, far es b = some c → ∀ o, Z.n [some (.d (.lst (es0.map optD))), some (.d (.int c)), o] S) → (far es b = none → Z.r (.d .non) S) →
    Dn.TS (forLoop [] (.nm 2) I_furthest_b1.sem S.length (es.map optD) [some (.d (.lst (es0.map optD))), some (.d (.int b)), o] S) Z
  | [], b, o, h1, h2 => by
    rw [List.map_nil, TS_fnil]
    exact h1 b rfl o
  | none :: r, b, o, h1, h2 => by
    rw [List.map_cons, TS_fnm]; simp [optD]
    exact h2 rfl
  | some e :: r, b, o, h1, h2 => by
    rw [List.map_cons, TS_fnm]; simp [optD]
    rw [Kseq_]; simp
    refine T_larger_ ?_
    simp
    rw [Kloop_]
    exact far_loop r _ _ h1 h2
theorem furthest {es : List (Option Int)} {S : Store} {P : WP RW} {E : WE} (h : P (.d (optD (far es 0))) S) : Dn.T (F_furthest.sem [.d (.lst (es.map optD))] S) P E := by
  refine T_furthest ?_
  simp
  rw [Kseq_]; simp
  refine far_loop es 0 none (fun c z o => ?_) fun z => ?_
  · simp
    rw [Kseq_]; simp [exitR]
    rw [z] at h; exact h
  · simp [exitR]
    rw [z] at h; exact h
theorem furthestG {α : Type} {f : α → Option Int} {l : List α} {S : Store} {P : WP RW} {E : WE} (h : P (.d (optD (far (l.map f) 0))) S) : Dn.T (F_furthest.sem [.d (.lst (l.map fun x => optD (f x)))] S) P E := by
  have z := furthest (es := l.map f) (E := E) h
  rw [List.map_map] at z
  exact z

theorem atI_last {α : Type} {l : List α} {x : α} : atI (l ++ [x]) (-1) = some x := by
  have e : ixN (l ++ [x]).length (-1) = some l.length := by
    unfold ixN
    rw [if_neg (by decide)]
    simp only [List.length_append, List.length_cons, List.length_nil]
    rw [if_pos (by omega)]
    congr 1
    omega
  unfold atI
  rw [e]
  simp
theorem ix_last {l : List D} {x : D} : ixD [.lst (l ++ [x]), .int (-1)] = some (.d x) := ix_l atI_last
theorem set_last {l : List D} {x y : D} {n : Nat} {S : Store} (h : S[n]? = some (.lst (l ++ [y]))) : setP [.loc n, .d (.int (-1)), .d x] S = some (.d .non, S.set n (.lst (l ++ [x]))) := by
  have e : ixN (l ++ [y]).length (-1) = some l.length := by
    unfold ixN
    rw [if_neg (by decide)]
    simp only [List.length_append, List.length_cons, List.length_nil]
    rw [if_pos (by omega)]
    congr 1
    omega
  unfold setP
  simp only [h, e]
  simp
theorem rg_0 {r : Rg} : ixD [rgD r, .int 0] = some (.d (.int r.1)) := by obtain ⟨a, b⟩ := r; rfl
theorem rg_1 {r : Rg} : ixD [rgD r, .int 1] = some (.d (optD r.2)) := by obtain ⟨a, b⟩ := r; rfl
theorem append_at {n : Nat} {S : Store} {l : List D} {x : D} (h : S[n]? = some (.lst l)) (hl : l.length < sizeLine) : appendP [.loc n, .d x] S = some (.d .non, S.set n (.lst (l ++ [x]))) := by
  unfold appendP
  simp [h, hl]
theorem optD_n : optD none = .non := rfl
theorem optD_s {b : Int} : optD (some b) = .int b := rfl
theorem neg1 : negD [.int 1] = some (.d (.int (-1))) := rfl
theorem nonW_opt {o : Option Int} : nonW (.d (optD o)) = o.isNone := by cases o <;> rfl
theorem mr_loop {w : W} {xs : List Rg} {S : Store} {Z : En} (hw : IsSq w (xs.map rgD) S) (hl : xs.length < 1000) : ∀ (ss : List Int) (m : List Rg) (o2 o3 o4 : Option D), m.length + ss.length < 1000 →
    (∀ o2 o3 o4 : Option D, Z.n [some w, some (.loc S.length), o2.map W.d, o3.map W.d, o4.map W.d] (S ++ [.lst ((ss.foldl (mStep xs) m).map rgD)])) →
    Dn.TS (forLoop [] (.nm 2) I_merged_ranges_b1.sem (S.length + 1) (ss.map D.int) [some w, some (.loc S.length), o2.map W.d, o3.map W.d, o4.map W.d] (S ++ [.lst (m.map rgD)])) Z
  | [], m, o2, o3, o4, hm, h => by
    rw [List.map_nil, TS_fnil]
    exact h o2 o3 o4
  | s :: ss, m, o2, o3, o4, hm, h => by
    have hz := sizeLine_eq
    rw [List.map_cons, TS_fnm]; simp [wipeE]
    obtain ⟨gs, hgi, hg⟩ := (hw.app (T := [.lst (m.map rgD)])).it
    rw [Tv_w, Kover_w hgi]; simp
    refine lc_pureG (p := fun x : Rg => decide (x.1 = s)) (f := fun x => optD x.2) hg (by simp; omega) (fun x _ Q h => ?_) (fun x _ _ Q h => ?_) ?_
    · simp [wipeE, rg_0]
      exact h
    · simp [wipeE, rg_1, h]
    simp
    refine furthestG (f := fun x : Rg => x.2) ?_
    have hg2 : far ((xs.filter fun x => decide (x.1 = s)).map (·.2)) 0 = grp xs s := rfl
    rw [hg2]
    simp
    rw [Kseq_]; simp
    have go : ∀ m2 : List Rg, mStep xs m s = m2 → m2.length ≤ m.length + 1 → Kloop (.nm 2) I_merged_ranges_b1.sem (S.length + 1) (ss.map D.int) Z [some w, some (.loc S.length), some (.d (.int s)), some (.d (optD (grp xs s))), o4.map W.d] (S ++ [.lst (m2.map rgD)]) := fun m2 e e2 => by
      rw [Kloop_]
      refine mr_loop hw hl ss m2 (some (.int s)) (some (optD (grp xs s))) o4 (by simp only [List.length_cons] at hm; omega) fun a b c => ?_
      rw [← e]
      exact h a b c
    have kw : gcE (S.length + 1) [some w, some (.loc S.length), some (.d (.int s)), some (.d (optD (grp xs s))), o4.map W.d] = [some w, some (.loc S.length), some (.d (.int s)), some (.d (optD (grp xs s))), o4.map W.d] := gcE_keep fun o ho k e => by
      simp only [List.mem_cons, List.not_mem_nil, or_false] at ho
      rcases ho with rfl | rfl | rfl | rfl | rfl
      · have := hw.lt k (by cases e; rfl)
        omega
      · cases e; omega
      · cases e
      · cases e
      · cases o4 <;> cases e
    have tk : ∀ c : Cell, (S ++ [c]).take (S.length + 1) = S ++ [c] := fun c => List.take_of_length_le (by simp)
    rcases List.eq_nil_or_concat m with rfl | ⟨m', ⟨a, o⟩, rfl⟩
    · simp [isTy, MP.T]
      rw [append_at (l := []) (by simp) (by decide)]; simp
      rw [kw, tk]
      exact go [(s, grp xs s)] rfl (by simp)
    · rw [List.concat_eq_append] at hm h hgi go ⊢
      have ml : (m'.map rgD ++ [rgD (a, o)]).length < sizeLine := by simp at hm ⊢; omega
      have hl1 : ((S ++ [Cell.lst (m'.map rgD ++ [rgD (a, o)])] : Store))[S.length]? = some (.lst (m'.map rgD ++ [rgD (a, o)])) := by simp
      have e1 : ∀ e, touch o s = true → far [o, grp xs s] 0 = e → mStep xs (m' ++ [(a, o)]) s = m' ++ [(a, e)] := fun e ht hf => by
        unfold mStep
        rw [List.getLast?_concat, List.dropLast_concat]
        dsimp only
        rw [if_pos ht, hf]
      have e2 : touch o s = false → mStep xs (m' ++ [(a, o)]) s = m' ++ [(a, o)] ++ [(s, grp xs s)] := fun ht => by
        unfold mStep
        rw [List.getLast?_concat, List.dropLast_concat]
        dsimp only
        rw [if_neg (by simp [ht])]
      have put : touch o s = true → Tr (setP [.loc S.length, .d (.int (-1)), .d (.tup [.int a, optD (far [o, grp xs s] 0)])] (S ++ [Cell.lst (m'.map rgD ++ [rgD (a, o)])])) (Kdrop (En.sq skipS (En.sq skipS (En.lp (S.length + 1) (Kloop (.nm 2) I_merged_ranges_b1.sem (S.length + 1) (ss.map D.int) Z) Z)))
          [some w, some (.loc S.length), some (.d (.int s)), some (.d (optD (grp xs s))), o4.map W.d]) := fun ht => by
        rw [set_last hl1]; simp
        rw [kw, tk]
        have := go (m' ++ [(a, far [o, grp xs s] 0)]) (e1 _ ht rfl) (by simp)
        simpa [rgD] using this
      cases o with
      | none =>
        simp [neg1, ix_last, rg_1, rg_0, optD_n, optD_s]
        refine furthest (es := [none, grp xs s]) ?_
        simp [neg1]
        exact put rfl
      | some b =>
        simp [neg1, ix_last, rg_1, rg_0, optD_n, optD_s]
        refine ⟨fun hc => ?_, fun hc => ?_⟩
        · refine furthest (es := [some b, grp xs s]) ?_
          simp [neg1]
          exact put (by simpa [touch] using hc)
        · simp [isTy, MP.T]
          rw [append_at hl1 ml]; simp
          rw [kw, tk]
          have := go _ (e2 (by simpa [touch] using hc)) (by simp)
          simpa [rgD] using this
theorem merged_ranges {w : W} {xs : List Rg} {S : Store} {P : WP RW} {E : WE} (hw : IsSq w (xs.map rgD) S) (hl : xs.length < 500) (h : P (.d (.tup ((mrg xs).map rgD))) S) : Dn.T (F_merged_ranges.sem [w] S) P E := by
  have hz := sizeLine_eq
  refine T_merged_ranges ?_
  simp
  rw [Kseq_]; simp [wipeE]
  obtain ⟨gs, hgi, hg⟩ := (hw.app (T := [.lst []])).it
  rw [Tv_w, Kover_w hgi]; simp
  refine lc_pureG (p := fun _ => true) (f := fun x : Rg => D.int x.1) hg (by simp; omega) (fun x _ Q h => by simpa using h) (fun x _ _ Q h => ?_) ?_
  · simp [wipeE, rg_0, h]
  have e0 : (xs.filter fun _ => true).map (fun x : Rg => D.int x.1) = (xs.map (·.1)).map D.int := by
    rw [List.map_map, List.filter_eq_self.mpr (by simp)]; rfl
  obtain ⟨s1, s2⟩ := srset_int (xs := xs.map (·.1)) (by simp; omega)
  simp only [List.nil_append, e0]
  simp [s1, -List.map_map]
  have len : (starts xs).length ≤ xs.length := by
    unfold starts
    rw [(Ks.isort_perm _).length_eq]
    have := Ks.dd_len (xs.map (·.1))
    simpa using this
  have es : Ks.isort Ks.ltI (Ks.dd (xs.map fun x => x.1)) = starts xs := rfl
  try rw [es]
  refine mr_loop (m := []) (o2 := none) (o3 := none) (o4 := none) (ss := starts xs) hw (by omega) (by simp; omega) fun o2 o3 o4 => ?_
  simp
  rw [Kseq_]; simp [tupleD, exitR]
  exact h

/-! what is checked; Sizes is made -/
def okP (r : Rg) : Bool := decide (1 ≤ r.1 ∧ r.1 ≤ 99) && (match r.2 with
  | none => true
  | some b => decide (r.1 ≤ b ∧ b ≤ 99))
theorem okP_iff {r : Rg} : okP r = true ↔ okG r := by
  obtain ⟨a, o⟩ := r
  unfold okP okG
  rw [Bool.and_eq_true, decide_eq_true_eq]
  cases o with
  | none => simp [leO_n]
  | some b => simp [leO_s]; omega
theorem check_range {r : Rg} {S : Store} {P : WP RW} {E : WE} (h1 : okP r = true → P (.d .non) S) (h2 : okP r = false → E ⟨"BadSizes", [], []⟩ S) : Dn.T (F_check_range.sem [.d (rgD r)] S) P E := by
  refine T_check_range ?_
  obtain ⟨a, o⟩ := r
  simp [rgD]
  rw [Kseq_]; simp
  refine ⟨fun z1 => ⟨fun z2 => h2 (by unfold okP; simp; omega), fun z2 => ?_⟩, fun z1 => h2 (by unfold okP; simp; omega)⟩
  rw [Kseq_]; simp
  cases o with
  | none =>
    simp [optD]
    exact h1 (by unfold okP; simp; omega)
  | some b =>
    simp [optD]
    refine ⟨fun y1 => ⟨fun y2 => h2 (by unfold okP; simp; omega), fun y2 => h1 (by unfold okP; simp; omega)⟩, fun y1 => h2 (by unfold okP; simp; omega)⟩
theorem ck_loop {w0 w : W} {gs : Gs} {S : Store} {Z : En} {n : Nat} (hn : n = S.length) (hg : gOk gs S) (l0 : ∀ m, w0 = .loc m → m < S.length) (lt : ∀ m, w = .loc m → m < S.length) : ∀ (xs : List Rg) (o : Option D), (xs.all okP = true → ∀ o : Option D, Z.n [some w0, some w, some (.d (.bl true)), o.map W.d] S) →
    (xs.all okP = false → ∀ env, Z.x ⟨"BadSizes", [], []⟩ env S) → Dn.TS (forLoop gs (.nm 3) I_Sizes_____init___b1.sem n (xs.map rgD) [some w0, some w, some (.d (.bl true)), o.map W.d] S) Z
  | [], o, h1, h2 => by
    rw [List.map_nil, TS_fnilG hg]
    exact h1 rfl o
  | x :: xs, o, h1, h2 => by
    rw [List.map_cons, TS_fnmG hg]; simp
    refine check_range (fun h => ?_) fun h => ?_
    · simp
      have kp : gcE n [some w0, some w, some (.d (.bl true)), some (.d (rgD x))] = [some w0, some w, some (.d (.bl true)), some (.d (rgD x))] := gcE_keep fun o ho k e => by
        simp only [List.mem_cons, List.not_mem_nil, or_false] at ho
        rcases ho with rfl | rfl | rfl | rfl
        · rw [hn]; exact l0 k (by cases e; rfl)
        · rw [hn]; exact lt k (by cases e; rfl)
        · cases e
        · cases e
      rw [KloopG_, kp, hn, List.take_length, ← hn]
      exact ck_loop hn hg l0 lt xs (some (rgD x)) (fun z => h1 (by rw [List.all_cons, h, z]; rfl)) fun z => h2 (by rw [List.all_cons, h, z]; rfl)
    · simp
      exact h2 (by rw [List.all_cons, h]; rfl) _
def sizD (xs : List Rg) : Cell := .ins "Sizes" ["ranges"] [.tup ((mrg xs).map rgD)]
theorem init {w : W} {xs : List Rg} {S : Store} {P : WP RW} {E : WE} (hw : IsSq w (xs.map rgD) S) (hl : xs.length < 500) (h1 : xs.all okP = true → P (.d .non) (S ++ [sizD xs])) (h2 : xs.all okP = false → E ⟨"BadSizes", [], []⟩ (S ++ [.ins "Sizes" [] []])) :
    Dn.T (F_Sizes_____init__.sem [.loc S.length, w, .d (.bl true)] (S ++ [.ins "Sizes" [] []])) P E := by
  refine T_Sizes_____init__ ?_
  have hw' := hw.app (T := [.ins "Sizes" [] []])
  obtain ⟨gs, hgi, hg⟩ := hw'.it
  simp
  rw [Tv_w, Kover_w hgi]; simp
  refine ck_loop (w0 := .loc S.length) (o := none) (by simp) hg (fun m e => by cases e; simp) hw'.lt xs (fun z o => ?_) fun z env => ?_
  · simp
    rw [Kseq_]; simp
    rw [Tv_w]; simp [toW_w]
    refine merged_ranges hw' hl ?_
    simp
    refine ⟨S ++ [sizD xs], ?_, ?_⟩
    · unfold stfM
      simp [putP, sizD]
    · rw [show (S ++ [sizD xs]).take (S.length + 1) = S ++ [sizD xs] from List.take_of_length_le (by simp)]
      exact h1 z
  · simp
    rw [show (S ++ [Cell.ins "Sizes" [] []]).take (S.length + 1) = S ++ [Cell.ins "Sizes" [] []] from List.take_of_length_le (by simp)]
    exact h2 z
/-- Sizes(w), behind newM -/
theorem made_sizes {w : W} {xs : List Rg} {S : Store} {P : WP RW} {E : WE} (hw : IsSq w (xs.map rgD) S) (hl : xs.length < 500) (h1 : xs.all okP = true → P (.own (sizD xs)) S) (h2 : xs.all okP = false → E ⟨"BadSizes", [], []⟩ S) :
    Dn.T (F_Sizes_____init__.sem [.loc S.length, w, .d (.bl true)] (S ++ [.ins "Sizes" [] []])) (Kmade S.length P) (Xmade S.length E) := by
  refine init hw hl (fun z => ?_) fun z => ?_
  · simp
    exact ⟨rfl, h1 z⟩
  · simp
    exact h2 z

/-! the law's own reader -/
theorem law_in_loop {d : D} {k : Int} {S : Store} {Z : En} : ∀ (xs : List Rg) (o : Option W), (inB xs k = false → ∀ o, Z.n [some (.d d), some (.d (.int k)), o] S) → (inB xs k = true → Z.r (.d (.bl true)) S) →
    Dn.TS (forLoop [] (.nm 2) I__law_in_b1.sem S.length (xs.map rgD) [some (.d d), some (.d (.int k)), o] S) Z
  | [], o, h1, h2 => by
    rw [List.map_nil, TS_fnil]
    exact h1 rfl o
  | (a, b) :: xs, o, h1, h2 => by
    rw [List.map_cons, TS_fnm]; simp [rg_0, rg_1]
    have nx : inB [(a, b)] k = false → Kloop (.nm 2) I__law_in_b1.sem S.length (xs.map rgD) Z [some (.d d), some (.d (.int k)), some (.d (rgD (a, b)))] S := fun e => by
      have e2 : inB ((a, b) :: xs) k = inB xs k := by
        unfold inB at e ⊢
        rw [List.any_cons]
        simp only [List.any_cons, List.any_nil, Bool.or_false] at e
        rw [e]; rfl
      rw [e2] at h1 h2
      rw [Kloop_]
      exact law_in_loop xs _ h1 h2
    have yes : inB [(a, b)] k = true → inB ((a, b) :: xs) k = true := fun e => by
      unfold inB at e ⊢
      rw [List.any_cons]
      simp only [List.any_cons, List.any_nil, Bool.or_false] at e
      rw [e]; rfl
    cases b with
    | none =>
      simp [optD_n]
      refine ⟨fun z => h2 (yes (by simp [inB, z])), fun z => nx (by simp [inB]; omega)⟩
    | some b =>
      simp [optD_s]
      refine ⟨fun z => ⟨fun y => h2 (yes (by simp [inB, z, y])), fun y => nx (by simp [inB]; omega)⟩, fun z => nx (by simp [inB]; omega)⟩
theorem law_in {xs : List Rg} {k : Int} {S : Store} {P : WP RW} {E : WE} (h : P (.d (.bl (inB xs k))) S) : Dn.T (F__law_in.sem [.d (.lst (xs.map rgD)), .d (.int k)] S) P E := by
  refine T__law_in ?_
  simp
  refine law_in_loop xs none (fun z o => ?_) fun z => ?_
  · simp
    rw [Kseq_]; simp [exitR]
    rw [z] at h; exact h
  · simp [exitR]
    rw [z] at h; exact h
/-- what the law makes of it -/
theorem nums_rng : ∀ n : Nat, rngD 1 n = (nums n).map D.int
  | 0 => rfl
  | n + 1 => by
    have e : rngD 1 (n + 1) = rngD 1 n ++ [.int (1 + n)] := by
      unfold rngD
      rw [List.range_succ, List.map_append]
      rfl
    rw [e, nums_rng n, nums, List.map_append]
    congr 3
    omega
theorem setLast_map {m : List Rg} {a : Int} {o : Option Int} : (setLast (m ++ [(a, o)]) none).map rgD = m.map rgD ++ [rgD (a, none)] := by rw [setLast_snoc]; simp

theorem law_merged {xs : List Rg} {S : Store} {P : WP RW} {E : WE} (hx : ∀ x ∈ xs, okG x) (hl : xs.length < 500) (h : P (.own (.lst ((dueR xs).map rgD))) S) : Dn.T (F__law_merged.sem [.d (.lst (xs.map rgD))] S) P E := by
  have hz := sizeLine_eq
  have small : ∀ n : Nat, (due0 xs n).length ≤ n := by
    intro n
    induction n with
    | zero => simp [due0, nums]
    | succ n ih =>
      rw [due0_s]
      unfold nStep
      split
      · split
        · rcases List.eq_nil_or_concat (due0 xs n) with e | ⟨m', ⟨a, o⟩, e⟩
          · rw [e]; simp [setLast]
          · rw [e] at ih ⊢
            rw [List.concat_eq_append] at ih ⊢
            rw [setLast_snoc]
            simp at ih ⊢
            omega
        · simp; omega
      · omega
  refine T__law_merged ?_
  simp
  rw [Kseq_]; simp
  refine ⟨⟨okR_of (by omega) (by omega), okR_of (by omega) (by omega)⟩, ?_⟩
  have e99 : (Int.toNat (100 - 1)) = 99 := rfl
  try rw [e99]
  have tk : ∀ c : Cell, (S ++ [c]).take (S.length + 1) = S ++ [c] := fun c => List.take_of_length_le (by simp)
  refine for_rule (I := fun rest env S' => ∃ (n : Nat) (o : Option D), rest = rngD ((n : Int) + 1) (99 - n) ∧ n ≤ 99 ∧ S' = S ++ [.lst ((due0 xs n).map rgD)] ∧ env = [some (.d (.lst (xs.map rgD))), some (.loc S.length), o.map W.d, none]) ?_ ?_ ⟨0, none, rfl, by omega, rfl, rfl⟩
  · rintro x rest env S' ⟨n, o, hr, hn, rfl, rfl⟩
    have hn' : n < 99 := by
      by_cases e : n < 99
      · exact e
      · rw [Nat.sub_eq_zero_of_le (by omega), rngD_0] at hr; cases hr
    obtain ⟨r, hr2⟩ : ∃ r, 99 - n = r + 1 := ⟨99 - n - 1, by omega⟩
    rw [hr2, rngD_s] at hr
    obtain ⟨rfl, rfl⟩ := List.cons.inj hr
    refine ⟨_, rfl, ?_⟩
    have I := ni_all hx n
    have sm := small n
    have nxt : ∀ m2, nStep xs (due0 xs n) ((n : Int) + 1) = m2 → ∃ (n2 : Nat) (o : Option D), rngD ((n : Int) + 1 + 1) r = rngD ((n2 : Int) + 1) (99 - n2) ∧ n2 ≤ 99 ∧ S ++ [Cell.lst (m2.map rgD)] = S ++ [.lst ((due0 xs n2).map rgD)] ∧
        ([some (.d (.lst (xs.map rgD))), some (.loc S.length), some (.d (.int ((n : Int) + 1))), none] : Dn.Env) = [some (.d (.lst (xs.map rgD))), some (.loc S.length), o.map W.d, none] := fun m2 e =>
      ⟨n + 1, some (.int ((n : Int) + 1)), by rw [show 99 - (n + 1) = r by omega]; push_cast; rfl, by omega, by rw [due0_s, e], rfl⟩
    simp
    refine law_in ?_
    simp
    have e1 : (n : Int) + 1 - 1 = n := by omega
    refine ⟨fun h1 => ?_, fun h1 => ?_⟩
    · refine law_in ?_
      simp [e1]
      refine ⟨fun h2 => ?_, fun h2 => ?_⟩
      · rcases I.sh with ⟨e, z⟩ | ⟨m', a, b, e, h3, h4, h5, h6, h7⟩
        · have y := inB_iff.mp h2
          obtain ⟨q, q1, q2⟩ := y
          have := (hx q q1).1
          have := q2.1
          exact absurd ⟨q, q1, q2⟩ (z n (by omega) (by omega))
        · have hl1 : ((S ++ [Cell.lst (m'.map rgD ++ [rgD (a, some b)])] : Store))[S.length]? = some (.lst (m'.map rgD ++ [rgD (a, some b)])) := by simp
          have st : nStep xs (due0 xs n) ((n : Int) + 1) = m' ++ [(a, some ((n : Int) + 1))] := by
            unfold nStep
            rw [if_pos h1, e1, if_pos h2, e, setLast_snoc]
          have nx := nxt _ st
          rw [e]
          simp [neg1, ix_last, rg_0]
          rw [set_last hl1]; simp
          rw [tk]
          simpa [rgD, optD] using nx
      · have nx := nxt (due0 xs n ++ [((n : Int) + 1, some ((n : Int) + 1))]) (by unfold nStep; rw [if_pos h1, e1, if_neg (by simp [h2])])
        simp [isTy, MP.T]
        rw [append_at (l := (due0 xs n).map rgD) (by simp) (by simp; omega)]; simp
        rw [tk]
        simpa [rgD, optD] using nx
    · have nx := nxt (due0 xs n) (by unfold nStep; rw [if_neg (by simp [h1])])
      rw [tk]
      simpa using nx
  · rintro env S' ⟨n, o, hr, hn, rfl, rfl⟩
    have hn' : n = 99 := by
      by_cases e : n < 99
      · obtain ⟨r, hr2⟩ : ∃ r, 99 - n = r + 1 := ⟨99 - n - 1, by omega⟩
        rw [hr2, rngD_s] at hr; cases hr
      · omega
    subst hn'
    simp
    rw [Kseq_]; simp [wipeE]
    refine lc_pure (p := fun x : Rg => x.2.isNone) (f := rgD) (by simp; omega) (fun x _ Q h => ?_) (fun x _ _ Q h => by simpa using h) ?_
    · simp [rg_1, nonW_opt]
      exact h
    simp
    refine ⟨fun q hq => ?_, fun hno => ?_⟩
    · have he : endless xs = true := List.any_eq_true.mpr ⟨_, hq, rfl⟩
      have I := ni_all hx 99
      have q9 := (hx _ hq).2.1
      have c99 : inL xs ((99 : Nat) : Int) := ⟨_, hq, q9, leO_n⟩
      rcases I.sh with ⟨e, z⟩ | ⟨m', a, b, e, h3, h4, h5, h6, h7⟩
      · exact absurd c99 (z 99 (by omega) (by decide))
      · have hl1 : ((S ++ [Cell.lst (m'.map rgD ++ [rgD (a, some b)])] : Store))[S.length]? = some (.lst (m'.map rgD ++ [rgD (a, some b)])) := by simp
        have hd : dueR xs = m' ++ [(a, none)] := by
          unfold dueR
          rw [if_pos he, e, setLast_snoc]
        rw [hd] at h
        rw [e]
        simp [neg1, ix_last, rg_0]
        rw [set_last hl1]; simp
        rw [Kseq_]; simp [exitR, Cell.live]
        simpa [rgD, optD] using h
    · have he : endless xs = false := by
        unfold endless
        rw [List.any_eq_false]
        rintro ⟨a, b⟩ hm
        cases b with
        | none => exact absurd hm (hno a)
        | some b => simp
      have hd : dueR xs = due0 xs 99 := by unfold dueR; rw [he]; rfl
      rw [hd] at h
      rw [Kseq_]; simp [exitR, Cell.live]
      exact h

theorem sm_rg : ∀ l m : List Rg, sms (l.map rgD) (m.map rgD) = decide (l = m) := by
  have e : ∀ a b : Rg, sm (rgD a) (rgD b) = decide (a = b) := fun ⟨a, o⟩ ⟨b, p⟩ => by
    cases o <;> cases p <;> simp [rgD, optD, sm, sms, Prod.mk.injEq, Bool.decide_and] <;> rfl
  intro l
  induction l with
  | nil => intro m; cases m <;> simp [sms]
  | cons x l ih =>
    intro m
    cases m with
    | nil => simp [sms]
    | cons y m => simp [sms, e, ih, List.cons.injEq, Bool.decide_and]
theorem pl_rg (l : List Rg) : (l.map rgD).all (plD 1) = true := by
  rw [List.all_map, List.all_eq_true]
  rintro ⟨a, o⟩ _
  cases o <;> rfl
theorem is_sizes {xs ys : List Rg} {S : Store} {P : WP RW} {E : WE} {ms : List Rg} (em : mrg xs = ms) (h1 : ms.length < 1000) (h2 : ys.length < 1000) (h : P (.d (.bl (decide (ms = ys)))) S) :
    Dn.T (F__law_is_sizes.sem [.d (.ins "Sizes" ["ranges"] [.tup ((mrg xs).map rgD)]), .d (.lst (ys.map rgD))] S) P E := by
  refine T__law_is_sizes ?_
  rw [em]
  simp [iscD, fldD, tupleD]
  have pa : plD 2 (.tup (ms.map rgD)) = true := plD_tup (by simp; omega) (pl_rg _)
  have pb : plD 2 (.tup (ys.map rgD)) = true := plD_tup (by simp; omega) (pl_rg _)
  rw [alT 2 pa pb]
  simp [sm, sm_rg, exitR]
  exact h

/-! sets of numbers: met, joined, cut; edges -/
def near (o p : Option Int) : Option Int := match o, p with
  | none, p => p
  | o, none => o
  | some a, some b => some (if a ≤ b then a else b)
theorem near_le {o p : Option Int} {k : Int} : leO k (near o p) ↔ leO k o ∧ leO k p := by
  cases o with
  | none => cases p <;> simp [near, leO_n]
  | some a =>
    cases p with
    | none => simp [near, leO_n]
    | some b =>
      simp only [near, leO_s]
      split <;> omega
def neR' (r : Rg) : Bool := match r.2 with
  | none => true
  | some b => decide (r.1 ≤ b)
theorem neR_iff {r : Rg} : neR' r = true ↔ leO r.1 r.2 := by
  obtain ⟨a, o⟩ := r
  cases o with
  | none => simp [neR', leO_n]
  | some b => simp [neR', leO_s]
theorem inR_ne {r : Rg} {k : Int} (h : inR r k) : neR' r = true := neR_iff.mpr (leO_mono h.2 h.1)
theorem inL_ne {l : List Rg} {k : Int} : inL (l.filter neR') k ↔ inL l k := by
  constructor
  · rintro ⟨r, h, z⟩; exact ⟨r, (List.mem_filter.mp h).1, z⟩
  · rintro ⟨r, h, z⟩; exact ⟨r, List.mem_filter.mpr ⟨h, inR_ne z⟩, z⟩
def andP (a b : List Rg) : List Rg := a.flatMap fun x => b.map fun y => (max x.1 y.1, near x.2 y.2)
def andL (a b : List Rg) : List Rg := (andP a b).filter neR'
theorem inL_and {a b : List Rg} {k : Int} : inL (andL a b) k ↔ inL a k ∧ inL b k := by
  unfold andL
  rw [inL_ne]
  unfold andP inL inR
  constructor
  · rintro ⟨r, h, h1, h2⟩
    obtain ⟨x, hx, h⟩ := List.mem_flatMap.mp h
    obtain ⟨y, hy, rfl⟩ := List.mem_map.mp h
    have h1 : max x.1 y.1 ≤ k := h1
    have h2 := near_le.mp h2
    exact ⟨⟨x, hx, by omega, h2.1⟩, y, hy, by omega, h2.2⟩
  · rintro ⟨⟨x, hx, h1, h2⟩, y, hy, h3, h4⟩
    exact ⟨(max x.1 y.1, near x.2 y.2), List.mem_flatMap.mpr ⟨x, hx, List.mem_map.mpr ⟨y, hy, rfl⟩⟩, by show max x.1 y.1 ≤ k; omega, near_le.mpr ⟨h2, h4⟩⟩
def cutLo (a : List Rg) (n : Int) : List Rg := (a.map fun x => (max x.1 n, x.2)).filter neR'
theorem inL_lo {a : List Rg} {n k : Int} : inL (cutLo a n) k ↔ inL a k ∧ n ≤ k := by
  unfold cutLo
  rw [inL_ne]
  unfold inL inR
  constructor
  · rintro ⟨r, h, h1, h2⟩
    obtain ⟨x, hx, rfl⟩ := List.mem_map.mp h
    have h1 : max x.1 n ≤ k := h1
    exact ⟨⟨x, hx, by omega, h2⟩, by omega⟩
  · rintro ⟨⟨x, hx, h1, h2⟩, h3⟩
    exact ⟨(max x.1 n, x.2), List.mem_map.mpr ⟨x, hx, rfl⟩, by show max x.1 n ≤ k; omega, h2⟩
def cutHi (a : List Rg) (n : Int) : List Rg := (a.map fun x => (x.1, near x.2 (some n))).filter neR'
theorem inL_hi {a : List Rg} {n k : Int} : inL (cutHi a n) k ↔ inL a k ∧ k ≤ n := by
  unfold cutHi
  rw [inL_ne]
  unfold inL inR
  constructor
  · rintro ⟨r, h, h1, h2⟩
    obtain ⟨x, hx, rfl⟩ := List.mem_map.mp h
    have h2 := near_le.mp h2
    exact ⟨⟨x, hx, h1, h2.1⟩, leO_s.mp h2.2⟩
  · rintro ⟨⟨x, hx, h1, h2⟩, h3⟩
    exact ⟨_, List.mem_map.mpr ⟨x, hx, rfl⟩, h1, near_le.mpr ⟨h2, leO_s.mpr h3⟩⟩
theorem okW_and {a b : List Rg} (ha : ∀ x ∈ a, okW x) : ∀ x ∈ andL a b, okW x := by
  intro r h
  obtain ⟨h1, h2⟩ := List.mem_filter.mp h
  obtain ⟨x, hx, h⟩ := List.mem_flatMap.mp h1
  obtain ⟨y, hy, rfl⟩ := List.mem_map.mp h
  have := (ha x hx).1
  exact ⟨by show 1 ≤ max x.1 y.1; omega, neR_iff.mp h2⟩
theorem okW_lo {a : List Rg} {n : Int} (ha : ∀ x ∈ a, okW x) : ∀ x ∈ cutLo a n, okW x := by
  intro r h
  obtain ⟨h1, h2⟩ := List.mem_filter.mp h
  obtain ⟨x, hx, rfl⟩ := List.mem_map.mp h1
  have := (ha x hx).1
  exact ⟨by show 1 ≤ max x.1 n; omega, neR_iff.mp h2⟩
theorem okW_hi {a : List Rg} {n : Int} (ha : ∀ x ∈ a, okW x) : ∀ x ∈ cutHi a n, okW x := by
  intro r h
  obtain ⟨h1, h2⟩ := List.mem_filter.mp h
  obtain ⟨x, hx, rfl⟩ := List.mem_map.mp h1
  exact ⟨(ha x hx).1, neR_iff.mp h2⟩
theorem okW_norm : ∀ {l : List Rg} {lo : Int}, 0 ≤ lo → Norm lo l → ∀ x ∈ l, okW x
  | [], _, _, _, x, h => by simp at h
  | (a, none) :: r, lo, h0, h, x, hx => by
    obtain ⟨h1, rfl⟩ := h
    rcases List.mem_cons.mp hx with rfl | z
    · exact ⟨by show 1 ≤ a; omega, leO_n⟩
    · simp at z
  | (a, some b) :: r, lo, h0, h, x, hx => by
    obtain ⟨h1, h2, h3⟩ := h
    rcases List.mem_cons.mp hx with rfl | z
    · exact ⟨by show 1 ≤ a; omega, leO_s.mpr h2⟩
    · exact okW_norm (by omega) h3 x z
/-! edges: where a set begins, and what is just beyond it -/
def Cov (s : List Rg) (ns : List Int) : Prop := (∀ k, inL s k → ¬ inL s (k - 1) → k ∈ ns) ∧ ∀ k, ¬ inL s k → inL s (k - 1) → k ∈ ns
theorem least {p : Int → Prop} (h : ∃ k, p k) (h0 : ∀ k, p k → 1 ≤ k) : ∃ k, p k ∧ ∀ j, j < k → ¬ p j := by
  obtain ⟨k, hk⟩ := h
  have go : ∀ n : Nat, ∀ k : Int, k ≤ n → p k → ∃ k, p k ∧ ∀ j, j < k → ¬ p j := by
    intro n
    induction n with
    | zero => intro k h1 h2; have := h0 k h2; omega
    | succ n ih =>
      intro k h1 h2
      by_cases h : ∃ j, j < k ∧ p j
      · obtain ⟨j, h3, h4⟩ := h
        exact ih j (by omega) h4
      · exact ⟨k, h2, fun j hj z => h ⟨j, hj, z⟩⟩
  exact go k.toNat k (by omega) hk
theorem pos_norm {l : List Rg} {k : Int} (h : Norm 0 l) (hk : inL l k) : 1 ≤ k := by have := norm_lo h hk; omega
/-- a member of both is found among the numbers -/
theorem cov_and {s t : List Rg} {ns : List Int} (hs : Norm 0 s) (c1 : Cov s ns) (c2 : Cov t ns) (h : ∃ k, inL s k ∧ inL t k) : ∃ k ∈ ns, inL s k ∧ inL t k := by
  obtain ⟨k, ⟨h1, h2⟩, h3⟩ := least h fun k z => pos_norm hs z.1
  refine ⟨k, ?_, h1, h2⟩
  by_cases z : inL s (k - 1)
  · by_cases y : inL t (k - 1)
    · exact absurd ⟨z, y⟩ (h3 (k - 1) (by omega))
    · exact c2.1 k h2 y
  · exact c1.1 k h1 z
theorem cov_one {s : List Rg} {ns : List Int} (hs : Norm 0 s) (c1 : Cov s ns) (h : ∃ k, inL s k) : ∃ k ∈ ns, inL s k := by
  obtain ⟨k, h1, h3⟩ := least h fun k z => pos_norm hs z
  exact ⟨k, c1.1 k h1 (h3 (k - 1) (by omega)), h1⟩
theorem cov_sub {s t : List Rg} {ns : List Int} (hs : Norm 0 s) (c1 : Cov s ns) (c2 : Cov t ns) (h : ∀ k ∈ ns, inL s k → inL t k) (k : Int) (hk : inL s k) : inL t k := by
  by_cases ht : inL t k
  · exact ht
  · obtain ⟨j, ⟨h1, h2⟩, h3⟩ := least (p := fun k => inL s k ∧ ¬ inL t k) ⟨k, hk, ht⟩ fun k z => pos_norm hs z.1
    refine absurd (h j ?_ h1) h2
    by_cases z : inL s (j - 1)
    · by_cases y : inL t (j - 1)
      · exact c2.2 j h2 y
      · exact absurd ⟨z, y⟩ (h3 (j - 1) (by omega))
    · exact c1.1 j h1 z
theorem inL_nil' {l : List Rg} {lo : Int} (h : Norm lo l) : l = [] ↔ ¬ ∃ k, inL l k := by
  constructor
  · rintro rfl ⟨k, hk⟩; exact inL_nil hk
  · intro hn
    cases l with
    | nil => rfl
    | cons r l =>
      refine absurd ⟨r.1, r, by simp, Int.le_refl _, ?_⟩ hn
      obtain ⟨a, o⟩ := r
      cases o with
      | none => exact leO_n
      | some b => exact leO_s.mpr h.2.1
theorem cov_of {s : List Rg} {xs : List Rg} {ns : List Int} (h : ∀ k, inL s k ↔ inL xs k) (h1 : ∀ x ∈ xs, x.1 ∈ ns) (h2 : ∀ x ∈ xs, ∀ b, x.2 = some b → b + 1 ∈ ns) : Cov s ns := by
  refine ⟨fun k a b => ?_, fun k a b => ?_⟩
  · obtain ⟨x, hx, y1, y2⟩ := (h k).mp a
    have : ¬ inR x (k - 1) := fun z => b ((h _).mpr ⟨x, hx, z⟩)
    have e : x.1 = k := by
      by_cases z : x.1 ≤ k - 1
      · exact absurd ⟨z, leO_mono y2 (by omega)⟩ this
      · omega
    rw [← e]; exact h1 x hx
  · obtain ⟨x, hx, y1, y2⟩ := (h _).mp b
    have hn : ¬ inR x k := fun z => a ((h _).mpr ⟨x, hx, z⟩)
    cases e : x.2 with
    | none => exact absurd ⟨by omega, by rw [e]; exact leO_n⟩ hn
    | some c =>
      rw [e, leO_s] at y2
      have : c + 1 = k := by
        by_cases z : k ≤ c
        · exact absurd ⟨by omega, by rw [e]; exact leO_s.mpr z⟩ hn
        · omega
      rw [← this]; exact h2 x hx c e
theorem cov_lo {s t : List Rg} {ns : List Int} {n : Int} (h : ∀ k, inL t k ↔ inL s k ∧ n ≤ k) (c : Cov s ns) (hn : n ∈ ns) : Cov t ns := by
  refine ⟨fun k a b => ?_, fun k a b => ?_⟩
  · rw [h] at a b
    by_cases z : inL s (k - 1)
    · have : n = k := by
        by_cases y : n ≤ k - 1
        · exact absurd ⟨z, y⟩ b
        · omega
      rw [← this]; exact hn
    · exact c.1 k a.1 z
  · rw [h] at a b
    exact c.2 k (fun z => a ⟨z, by omega⟩) b.1
theorem cov_hi {s t : List Rg} {ns : List Int} {n : Int} (h : ∀ k, inL t k ↔ inL s k ∧ k ≤ n) (c : Cov s ns) (hn : n + 1 ∈ ns) : Cov t ns := by
  refine ⟨fun k a b => ?_, fun k a b => ?_⟩
  · rw [h] at a b
    exact c.1 k a.1 fun z => b ⟨z, by omega⟩
  · rw [h] at a b
    by_cases z : inL s k
    · have : n + 1 = k := by
        by_cases y : k ≤ n
        · exact absurd ⟨z, y⟩ a
        · omega
      rw [← this]; exact hn
    · exact c.2 k z b.1

/-! own methods of Sizes -/
def szD (m : List Rg) : D := .ins "Sizes" ["ranges"] [.tup (m.map rgD)]
def szC (m : List Rg) : Cell := .ins "Sizes" ["ranges"] [.tup (m.map rgD)]
def inQ (r : Rg) (k : Int) : Bool := decide (r.1 ≤ k) && (match r.2 with
  | none => true
  | some b => decide (k ≤ b))
theorem inB_any {a : List Rg} {k : Int} : inB a k = a.any fun r => inQ r k := (rfl)
theorem boolsOf_map {α : Type} {f : α → Bool} : ∀ l : List α, boolsOf (l.map fun x => D.bl (f x)) = some (l.map f)
  | [] => rfl
  | x :: l => by
    rw [List.map_cons]
    simp [boolsOf, boolsOf_map l]
theorem any_map {α : Type} {f : α → Bool} {l : List α} : anyD [.lst (l.map fun x => D.bl (f x))] = some (.d (.bl (l.any f))) := by
  show (boolsOf _).bind _ = _
  rw [boolsOf_map]
  simp [blD]
theorem flt_true {α : Type} (l : List α) : l.filter (fun _ => true) = l := by simp
theorem contains {a : List Rg} {k : Int} {S : Store} {P : WP RW} {E : WE} (hl : a.length < 1000) (h : P (.d (.bl (inB a k))) S) : Dn.T (F_Sizes_____contains__.sem [.d (szD a), .d (.int k)] S) P E := by
  refine T_Sizes_____contains__ ?_
  simp [szD, fldD]
  refine lc_pureT (α := Rg) (mk := rgD) (e1 := fun r => [some (.d (szD a)), some (.d (.int k)), some (.d (.int r.1)), some (.d (optD r.2))]) (p := fun _ => true) (f := fun r => .bl (inQ r k)) (gOk_nil) (by simp [sizeLine_eq]; omega) (fun x hx => rfl) (fun x hx Q hq => ?_) (fun x hx _ Q hq => ?_) ?_
  · simp; exact hq
  · obtain ⟨x1, x2⟩ := x
    unfold inQ at hq
    simp
    cases x2 with
    | none =>
      simp [optD]
      refine ⟨fun z => ?_, fun z => ?_⟩
      · simpa [z] using hq
      · simpa [show ¬ x1 ≤ k by omega] using hq
    | some b =>
      simp [optD]
      refine ⟨fun z => ?_, fun z => ?_⟩
      · simpa [z] using hq
      · simpa [show ¬ x1 ≤ k by omega] using hq
  · simp only [List.nil_append, flt_true]
    simp [any_map, exitR]
    rw [inB_any] at h
    simpa using h
theorem bool_ {a : List Rg} {S : Store} {P : WP RW} {E : WE} (h : P (.d (.bl (!a.isEmpty))) S) : Dn.T (F_Sizes_____bool__.sem [.d (szD a)] S) P E := by
  refine T_Sizes_____bool__ ?_
  simp [szD, fldD, truD, exitR]
  simpa using h
/-- Sizes(w, checked=False), behind newM -/
theorem made_un {w : W} {xs : List Rg} {S : Store} {P : WP RW} {E : WE} (hw : IsSq w (xs.map rgD) S) (hl : xs.length < 500) (h1 : P (.own (szC (mrg xs))) S) :
    Dn.T (F_Sizes_____init__.sem [.loc S.length, w, .d (.bl false)] (S ++ [.ins "Sizes" [] []])) (Kmade S.length P) (Xmade S.length E) := by
  refine T_Sizes_____init__ ?_
  have hw' := hw.app (T := [.ins "Sizes" [] []])
  simp
  rw [Kseq_]; simp
  rw [Tv_w]; simp [toW_w]
  refine merged_ranges hw' hl ?_
  simp
  refine ⟨S ++ [szC (mrg xs)], ?_, ?_⟩
  · unfold stfM
    simp [putP, szC]
  · rw [show (S ++ [szC (mrg xs)]).take (S.length + 1) = S ++ [szC (mrg xs)] from List.take_of_length_le (by simp)]
    simp [exitR]
    exact ⟨rfl, h1⟩
theorem or_ {a b : List Rg} {S : Store} {P : WP RW} {E : WE} (hl : a.length + b.length < 500) (h : P (.own (szC (mrg (a ++ b)))) S) : Dn.T (F_Sizes_____or__.sem [.d (szD a), .d (szD b)] S) P E := by
  refine T_Sizes_____or__ ?_
  simp [szD, iscD]
  rw [Kseq_]
  simp [fldD]
  refine ⟨by rw [sizeLine_eq]; omega, ?_⟩
  rw [← List.map_append]
  refine made_un (xs := a ++ b) isSq_l (by simp; omega) ?_
  simp [exitR]
  exact h

/-! the operators' answers -/
theorem nearest {o p : Option Int} {S : Store} {P : WP RW} {E : WE} (h : P (.d (optD (near o p))) S) : Dn.T (F_nearest.sem [.d (optD o), .d (optD p)] S) P E := by
  refine T_nearest ?_
  cases o with
  | none =>
    simp [optD, nonW, exitR]
    cases p <;> exact h
  | some a =>
    simp [optD, nonW]
    rw [Kseq_]
    cases p with
    | none => simp [exitR]; exact h
    | some b =>
      simp
      rw [Kseq_]
      simp [exitR]
      simp only [near] at h
      refine ⟨fun z => ?_, fun z => ?_⟩
      · rw [if_pos z] at h; exact h
      · rw [if_neg (by omega)] at h; exact h
theorem deq_opt (o p : Option Int) : deq (optD o) (optD p) = decide (o = p) := by
  cases o <;> cases p <;> simp [optD, deq]
  exact Bool.beq_eq_decide_eq _ _
theorem deq_rg (r s : Rg) : deq (rgD r) (rgD s) = decide (r = s) := by
  obtain ⟨a, o⟩ := r
  obtain ⟨b, p⟩ := s
  simp only [rgD, deq, deqs, deq_opt, Bool.and_true, Prod.mk.injEq]
  by_cases h : a = b <;> simp [h]
theorem deqs_rg : ∀ l m : List Rg, deqs (l.map rgD) (m.map rgD) = decide (l = m)
  | [], [] => rfl
  | [], _ :: _ => rfl
  | _ :: _, [] => rfl
  | x :: l, y :: m => by
    simp only [List.map_cons, deqs, deq_rg, deqs_rg l m, List.cons.injEq]
    by_cases h : x = y <;> simp [h]
theorem shal_rg (n : Nat) (r : Rg) : shal (n + 1) (rgD r) = true := by
  obtain ⟨a, o⟩ := r
  cases o <;> simp [rgD, optD, shal]
theorem shal_rgs (n : Nat) (l : List Rg) : shal (n + 2) (.tup (l.map rgD)) = true := by
  simp only [shal, List.all_map, List.all_eq_true]
  exact fun x _ => shal_rg n x
theorem eq_rgs (l m : List Rg) : eqD [.tup (l.map rgD), .tup (m.map rgD)] = some (.d (.bl (decide (l = m)))) := by
  simp only [eqD, shal_rgs 4, Bool.and_self, if_true, blD, deq, deqs_rg]
theorem ne_rgs (l m : List Rg) : neD [.tup (l.map rgD), .tup (m.map rgD)] = some (.d (.bl (!decide (l = m)))) := by
  simp only [neD, shal_rgs 4, Bool.and_self, if_true, blD, deq, deqs_rg]
theorem toD_sz (l : List D) : (Cell.ins "Sizes" ["ranges"] l).toD = .ins "Sizes" ["ranges"] l := (rfl)
theorem len_and (a b : List Rg) : (andP a b).length = a.length * b.length := by
  unfold andP
  induction a with
  | nil => simp
  | cons x a ih => rw [List.flatMap_cons, List.length_append, ih, List.length_map, List.length_cons, Nat.succ_mul]; omega
/-- [(low, high) for low, high in rows if high is None or low <= high] -/
theorem keep_ne {e1 : Rg → Dn.Env} {tt : BS} {fe : ES} {env : Dn.Env} {t : TGt} {l : List Rg} {S : Store} {P : WP RW} {E : WE} (hl : l.length < 1000) (hb : ∀ x ∈ l, bindT t (rgD x) env = some (e1 x)) (ht : ∀ x ∈ l, ∀ Q : WP Bool, Q (neR' x) S → Dn.T (tt (e1 x) S) Q noE)
    (hf : ∀ x ∈ l, ∀ Q : WP RW, Q (.d (rgD x)) S → Dn.T (fe (e1 x) S) Q noE) (h : P (.own (.lst ((l.filter neR').map rgD))) S) : Dn.T (lcLoop [] t tt fe env (l.map rgD) [] S) P E :=
  lc_pureT (α := Rg) (mk := rgD) (e1 := e1) (p := neR') (f := rgD) gOk_nil (by simp [sizeLine_eq]; omega) hb ht (fun x hx _ => hf x hx) (by simpa using h)
theorem and_ {a b : List Rg} {S : Store} {P : WP RW} {E : WE} (hl : a.length * b.length < 500) (h : P (.own (szC (mrg (andL a b)))) S) : Dn.T (F_Sizes_____and__.sem [.d (szD a), .d (szD b)] S) P E := by
  refine T_Sizes_____and__ ?_
  simp [szD, iscD]
  rw [Kseq_]
  simp [fldD]
  refine lc2_pure (α := Rg) (β := Rg) (mk := rgD) (mk1 := rgD) (ys := fun _ => b) (e1 := fun x => [some (.d (szD a)), some (.d (szD b)), none, some (.d (.int x.1)), some (.d (optD x.2)), none, none, none, none])
    (e2 := fun x y => [some (.d (szD a)), some (.d (szD b)), none, some (.d (.int x.1)), some (.d (optD x.2)), some (.d (.int y.1)), some (.d (optD y.2)), none, none]) (p := fun _ => true) (p1 := fun _ _ => true) (f := fun x y => rgD (max x.1 y.1, near x.2 y.2))
    gOk_nil ?_ (fun x hx => rfl) (fun x hx y hy => rfl) (fun x hx Q hq => ?_) (fun x hx _ Q hq => ?_) (fun x hx y hy Q hq => ?_) (fun x hx y hy _ Q hq => ?_) ?_
  · have := len_and a b
    unfold andP at this
    simp only [List.length_flatMap, List.length_map] at this
    simp only [List.length_nil, List.length_flatMap, sizeLine_eq, this]
    omega
  · simp; exact hq
  · simp [szD, fldD]
    exact hq _ gOk_nil
  · simp; exact hq
  · simp
    refine T_larger_ ?_
    simp
    refine nearest ?_
    simp
    exact hq
  · have e : (a.filter (fun _ => true)).flatMap (fun x => (b.filter (fun _ => true)).map fun y => rgD (max x.1 y.1, near x.2 y.2)) = (andP a b).map rgD := by
      rw [flt_true, flt_true]
      unfold andP
      rw [List.map_flatMap]
      simp only [List.map_map]
      rfl
    rw [List.nil_append, e]
    simp
    rw [Kseq_]
    simp
    refine keep_ne (e1 := fun x => [some (.d (szD a)), some (.d (szD b)), some (.d (.lst ((andP a b).map rgD))), none, none, none, none, some (.d (.int x.1)), some (.d (optD x.2))]) (by rw [len_and]; omega) (fun x hx => rfl) (fun x hx Q hq => ?_) (fun x hx Q hq => ?_) ?_
    · obtain ⟨x1, x2⟩ := x
      cases x2 <;> simp [optD, nonW] <;> simpa [neR'] using hq
    · obtain ⟨x1, x2⟩ := x
      simp
      exact hq
    · simp
      refine made_un (xs := andL a b) isSq_l ?_ ?_
      · have := List.length_filter_le neR' (andP a b)
        rw [len_and] at this
        unfold andL
        omega
      · simp [exitR]; exact h
theorem le_ {a b : List Rg} {S : Store} {P : WP RW} {E : WE} (hl : a.length * b.length < 500) (h : P (.d (.bl (decide (mrg (andL a b) = a)))) S) : Dn.T (F_Sizes_____le__.sem [.d (szD a), .d (szD b)] S) P E := by
  refine T_Sizes_____le__ ?_
  simp [szD, iscD]
  rw [Kseq_]
  simp
  refine T_ownB rfl rfl rfl ?_
  refine T_mthB rfl rfl rfl ?_
  refine and_ hl ?_
  simp [szC, toD_sz, fldD, eq_rgs, exitR]
  exact h
theorem ge_ {a b : List Rg} {S : Store} {P : WP RW} {E : WE} (hl : a.length * b.length < 500) (h : P (.d (.bl (decide (mrg (andL a b) = b)))) S) : Dn.T (F_Sizes_____ge__.sem [.d (szD a), .d (szD b)] S) P E := by
  refine T_Sizes_____ge__ ?_
  simp [szD, iscD]
  rw [Kseq_]
  simp
  refine T_ownB rfl rfl rfl ?_
  refine T_mthB rfl rfl rfl ?_
  refine and_ hl ?_
  simp [szC, toD_sz, fldD, eq_rgs, exitR]
  exact h
theorem lt_ {a b : List Rg} {S : Store} {P : WP RW} {E : WE} (hl : a.length * b.length < 500) (h : P (.d (.bl (decide (mrg (andL a b) = a) && !decide (a = b)))) S) : Dn.T (F_Sizes_____lt__.sem [.d (szD a), .d (szD b)] S) P E := by
  refine T_Sizes_____lt__ ?_
  simp [szD, iscD]
  rw [Kseq_]
  simp
  refine T_ownB rfl rfl rfl ?_
  refine T_mthB rfl rfl rfl ?_
  refine and_ hl ?_
  simp [szC, toD_sz, fldD, eq_rgs, ne_rgs, exitR]
  refine ⟨fun z => ?_, fun z => ?_⟩
  · simpa [z] using h
  · simpa [z] using h
theorem gt_ {a b : List Rg} {S : Store} {P : WP RW} {E : WE} (hl : a.length * b.length < 500) (h : P (.d (.bl (decide (mrg (andL a b) = b) && !decide (a = b)))) S) : Dn.T (F_Sizes_____gt__.sem [.d (szD a), .d (szD b)] S) P E := by
  refine T_Sizes_____gt__ ?_
  simp [szD, iscD]
  rw [Kseq_]
  simp
  refine T_ownB rfl rfl rfl ?_
  refine T_mthB rfl rfl rfl ?_
  refine and_ hl ?_
  simp [szC, toD_sz, fldD, eq_rgs, ne_rgs, exitR]
  refine ⟨fun z => ?_, fun z => ?_⟩
  · simpa [z] using h
  · simpa [z] using h
theorem eq_ {a b : List Rg} {S : Store} {P : WP RW} {E : WE} (h : P (.d (.bl (decide (a = b)))) S) : Dn.T (F_Sizes_____eq__.sem [.d (szD a), .d (szD b)] S) P E := by
  refine T_Sizes_____eq__ ?_
  simp [szD, iscD, fldD, eq_rgs, exitR]
  simpa using h
theorem eq_no {a : List Rg} {d : D} {S : Store} {P : WP RW} {E : WE} (hd : (tyN d).isSome = true) (h : P (.d (.bl false)) S) : Dn.T (F_Sizes_____eq__.sem [.d (szD a), .d d] S) P E := by
  refine T_Sizes_____eq__ ?_
  cases d <;> first | (simp [szD, iscD, tyN, exitR]; exact h) | cases hd
theorem rshift {a : List Rg} {n : Int} {S : Store} {P : WP RW} {E : WE} (hl : a.length < 500) (h : P (.own (szC (mrg (cutLo a n)))) S) : Dn.T (F_Sizes_____rshift__.sem [.d (szD a), .d (.int n)] S) P E := by
  refine T_Sizes_____rshift__ ?_
  simp [szD, fldD]
  refine lc_pureT (α := Rg) (mk := rgD) (e1 := fun r => [some (.d (szD a)), some (.d (.int n)), none, some (.d (.int r.1)), some (.d (optD r.2))]) (p := fun _ => true) (f := fun r => rgD (max r.1 n, r.2)) (gOk_nil) (by simp [sizeLine_eq]; omega) (fun x hx => rfl) (fun x hx Q hq => ?_) (fun x hx _ Q hq => ?_) ?_
  · simp; exact hq
  · simp
    refine T_larger_ ?_
    simp
    exact hq
  · have hc : cutLo a n = (a.map fun x => (max x.1 n, x.2)).filter neR' := rfl
    rw [List.nil_append, flt_true, show a.map (fun r => rgD (max r.1 n, r.2)) = (a.map fun x => (max x.1 n, x.2)).map rgD by rw [List.map_map]; rfl]
    have hz : (a.map fun x => (max x.1 n, x.2)).length = a.length := List.length_map ..
    generalize (a.map fun x => (max x.1 n, x.2)) = m at hc hz ⊢
    simp
    rw [Kseq_]
    simp
    refine keep_ne (e1 := fun x => [some (.d (szD a)), some (.d (.int n)), some (.d (.lst (m.map rgD))), some (.d (.int x.1)), some (.d (optD x.2))]) (by omega) (fun x hx => rfl) (fun x hx Q hq => ?_) (fun x hx Q hq => ?_) ?_
    · obtain ⟨x1, x2⟩ := x
      cases x2 <;> simp [optD, nonW] <;> simpa [neR'] using hq
    · obtain ⟨x1, x2⟩ := x
      simp
      exact hq
    · simp
      rw [← hc]
      refine made_un (xs := cutLo a n) isSq_l ?_ ?_
      · have := List.length_filter_le neR' m
        rw [hc]
        omega
      · simp [exitR]; exact h
theorem lshift {a : List Rg} {n : Int} {S : Store} {P : WP RW} {E : WE} (hl : a.length < 500) (h : P (.own (szC (mrg (cutHi a n)))) S) : Dn.T (F_Sizes_____lshift__.sem [.d (szD a), .d (.int n)] S) P E := by
  refine T_Sizes_____lshift__ ?_
  simp [szD, fldD]
  refine lc_pureT (α := Rg) (mk := rgD) (e1 := fun r => [some (.d (szD a)), some (.d (.int n)), none, some (.d (.int r.1)), some (.d (optD r.2))]) (p := fun _ => true) (f := fun r => rgD (r.1, near r.2 (some n))) (gOk_nil) (by simp [sizeLine_eq]; omega) (fun x hx => rfl) (fun x hx Q hq => ?_) (fun x hx _ Q hq => ?_) ?_
  · simp; exact hq
  · simp
    refine nearest (p := some n) ?_
    simp
    exact hq
  · have hc : cutHi a n = (a.map fun x => (x.1, near x.2 (some n))).filter neR' := rfl
    rw [List.nil_append, flt_true, show a.map (fun r => rgD (r.1, near r.2 (some n))) = (a.map fun x => (x.1, near x.2 (some n))).map rgD by rw [List.map_map]; rfl]
    have hz : (a.map fun x => (x.1, near x.2 (some n))).length = a.length := List.length_map ..
    have hs : ∀ x ∈ a.map fun x => (x.1, near x.2 (some n)), ∃ b, x.2 = some b := fun x hx => by
      obtain ⟨y, _, rfl⟩ := List.mem_map.mp hx
      obtain ⟨y1, y2⟩ := y
      cases y2 with
      | none => exact ⟨n, rfl⟩
      | some b => exact ⟨_, rfl⟩
    generalize (a.map fun x => (x.1, near x.2 (some n))) = m at hc hz hs ⊢
    simp
    rw [Kseq_]
    simp
    refine keep_ne (e1 := fun x => [some (.d (szD a)), some (.d (.int n)), some (.d (.lst (m.map rgD))), some (.d (.int x.1)), some (.d (optD x.2))]) (by omega) (fun x hx => rfl) (fun x hx Q hq => ?_) (fun x hx Q hq => ?_) ?_
    · obtain ⟨b, hb⟩ := hs x hx
      obtain ⟨x1, x2⟩ := x
      simp only at hb
      subst hb
      simp [optD]
      simpa [neR'] using hq
    · obtain ⟨x1, x2⟩ := x
      simp
      exact hq
    · simp
      rw [← hc]
      refine made_un (xs := cutHi a n) isSq_l ?_ ?_
      · have := List.length_filter_le neR' m
        rw [hc]
        omega
      · simp [exitR]; exact h

/-! a loop that leaves at the first that is not so -/
theorem for_all {α : Type} {mk : α → D} {p : α → Bool} {gs : Gs} {i : Nat} {f : SS} {S : Store} {Z : En} {r0 : RW} {I : Dn.Env → Prop} (hg : gOk gs S) (hI : ∀ env, I env → I (gcE S.length env)) : ∀ {xs : List α} {env : Dn.Env}, I env →
    (∀ x ∈ xs, ∀ env, I env → ∀ Z' : En, (p x = true → ∀ env', I env' → Z'.n env' S) → (p x = false → Z'.r r0 S) → Dn.TS (f (env.set i (some (.d (mk x)))) S) Z') →
    (xs.all p = true → ∀ env, I env → Z.n env S) → (xs.all p = false → Z.r r0 S) → Dn.TS (forLoop gs (.nm i) f S.length (xs.map mk) env S) Z
  | [], env, hi, _, h1, _ => by
    rw [List.map_nil, TS_fnilG hg]
    exact h1 rfl env hi
  | x :: xs, env, hi, hs, h1, h2 => by
    rw [List.map_cons, TS_fnmG hg]
    refine hs x (by simp) env hi _ (fun hp env' hi' => ?_) fun hp => ?_
    · rw [lp_n, List.take_length, KloopG_]
      exact for_all hg hI (hI _ hi') (fun y hy => hs y (by simp [hy])) (fun h => h1 (by simp [hp, h])) fun h => h2 (by simp [hp, h])
    · rw [lp_r]
      exact h2 (by simp [hp])
theorem rngD_map (n : Nat) : rngD 0 n = (List.range n).map fun (k : Nat) => D.int k := by unfold rngD; simp

theorem ix_p0 {x y : D} : ixD [.tup [x, y], .int 0] = some (.d x) := (rfl)
theorem ix_p1 {x y : D} : ixD [.tup [x, y], .int 1] = some (.d y) := (rfl)
theorem tidy_loop {d : D} {S : Store} {Z : En} : ∀ (m : List Rg) (lo : Int) (o : Option D), Norm lo m → (∀ (e : D) (o : Option D), Z.n [some (.d d), some (.d e), o.map W.d] S) →
    Dn.TS (forLoop [] (.nm 2) I__law_tidy_b1.sem S.length (m.map rgD) [some (.d d), some (.d (.int (lo - 1))), o.map W.d] S) Z
  | [], lo, o, hN, h => by
    rw [List.map_nil, TS_fnil]
    exact h _ _
  | (a, none) :: m, lo, o, hN, h => by
    obtain ⟨h1, rfl⟩ := hN
    rw [List.map_cons, TS_fnm]
    simp [rgD, optD, isT, lenD, nonW]
    rw [Kseq_]; simp [isT, ix_p0]
    refine ⟨fun z => absurd z (by omega), fun z => ?_⟩
    rw [Kseq_]; simp [ix_p1, nonW]
    rw [Kseq_]; simp [ix_p1]
    rw [Kloop_, TS_fnil]
    exact h .non (some _)
  | (a, some b) :: m, lo, o, hN, h => by
    obtain ⟨h1, h2, h3⟩ := hN
    rw [List.map_cons, TS_fnm]
    simp [rgD, optD, isT, lenD, nonW]
    rw [Kseq_]; simp [isT, ix_p0]
    refine ⟨fun z => absurd z (by omega), fun z => ?_⟩
    rw [Kseq_]; simp [ix_p1, ix_p0, nonW, isT]
    refine ⟨fun z => absurd z (by omega), fun z => ?_⟩
    rw [Kseq_]; simp [ix_p1]
    rw [Kloop_]
    have e : b = (b + 1) - 1 := by omega
    rw [show (some (W.d (D.int b))) = some (W.d (D.int ((b + 1) - 1))) by rw [← e]]
    exact tidy_loop m (b + 1) (some _) h3 h
theorem tidy {m : List Rg} {S : Store} {P : WP RW} {E : WE} (hN : Norm 0 m) (h : P (.d (.bl true)) S) : Dn.T (F__law_tidy.sem [.d (.tup (m.map rgD))] S) P E := by
  refine T__law_tidy ?_
  simp [isT]
  rw [Kseq_]; simp [neg1]
  rw [Kseq_]; simp
  refine tidy_loop m 0 none hN fun e o => ?_
  simp
  rw [Kseq_]; simp [exitR]
  exact h
theorem law_inT {xs : List Rg} {k : Int} {S : Store} {P : WP RW} {E : WE} (h : P (.d (.bl (inB xs k))) S) : Dn.T (F__law_in.sem [.d (.tup (xs.map rgD)), .d (.int k)] S) P E := by
  refine T__law_in ?_
  simp
  refine law_in_loop xs none (fun z o => ?_) fun z => ?_
  · simp
    rw [Kseq_]; simp [exitR]
    rw [z] at h; exact h
  · simp [exitR]
    rw [z] at h; exact h
theorem mem_bls {p : Int → Bool} : ∀ l : List Int, memD (.bl true) (l.map fun k => D.bl (p k)) = l.any p
  | [] => rfl
  | x :: l => by
    rw [List.map_cons, List.any_cons, ← mem_bls l]
    simp [memD, deq]
theorem in_bls {p : Int → Bool} (l : List Int) : inD [.bl true, .lst (l.map fun k => D.bl (p k))] = some (.d (.bl (l.any p))) := by
  have e : (l.map fun k => D.bl (p k)).all (shal 6) = true := by
    rw [List.all_map, List.all_eq_true]
    exact fun x _ => rfl
  simp [inD, inN, Dn.inB, e, shal, mem_bls, blD]
theorem agrees {m : List Rg} {ns : List Int} {p : Int → Bool} {S : Store} {P : WP RW} {E : WE} (hN : Norm 0 m) (hl : m.length < 1000) (hn : ns.length < 1000) (hp : ∀ k ∈ ns, inB m k = p k) (hb : (!m.isEmpty) = ns.any p) (h : P (.d (.bl true)) S) :
    Dn.T (F__law_agrees.sem [.d (szD m), .d (.lst (ns.map .int)), .d (.lst (ns.map fun k => .bl (p k)))] S) P E := by
  refine T__law_agrees ?_
  simp [szD, iscD, fldD]
  refine tidy hN ?_
  simp
  rw [Kseq_]; simp
  refine ⟨okR_of (by omega) (by omega), ?_⟩
  rw [rngD_map]
  refine for_all (p := fun _ => true) (r0 := .d (.bl false)) (I := fun env => ∃ o : Option D, env = [some (.d (szD m)), some (.d (.lst (ns.map .int))), some (.d (.lst (ns.map fun k => .bl (p k)))), o.map W.d]) gOk_nil
    (fun env ⟨o, e⟩ => ⟨o, by subst e; cases o <;> rfl⟩) ⟨none, rfl⟩ (fun k hk env ⟨o, e⟩ Z' z1 z2 => ?_) (fun _ env ⟨o, e⟩ => ?_) (fun hz => ?_)
  · subst e
    have hk' : k < ns.length := by simpa using hk
    have a1 : (ns.map D.int)[k]? = some (.int (ns[k])) := by simp [hk']
    have a2 : (ns.map fun k => D.bl (p k))[k]? = some (.bl (p ns[k])) := by simp [hk']
    have hm := hp ns[k] (List.getElem_mem hk')
    simp [ix_l (atI_nat' a1), ix_l (atI_nat' a2)]
    refine T_ownIn rfl (T_mthB rfl rfl rfl (contains hl ?_))
    simp [ix_l (atI_nat' a1), ix_l (atI_nat' a2)]
    rw [alT 2 rfl rfl]
    simp [sm, hm, szD, fldD, ix_l (atI_nat' a1)]
    refine law_inT ?_
    simp [ix_l (atI_nat' a2), hm, neD, shal, deq, blD]
    exact z1 rfl _ ⟨some (.int k), rfl⟩
  · subst e
    simp
    rw [Kseq_]; simp
    refine T_ownBool (T_mthB rfl rfl rfl (bool_ ?_))
    simp
    rw [in_bls]
    simp
    rw [alT 2 rfl rfl]
    simp [sm, hb, exitR]
    exact h
  · simp at hz

/-! two sets, judged -/
theorem range_map {β : Type} {f : Int → β} : ∀ l : List Int, (List.range l.length).map (fun k => f (l[k]?.getD 0)) = l.map f := by
  intro l
  apply List.ext_getElem
  · simp
  · intro i h1 h2
    simp only [List.length_map, List.length_range] at h1
    simp [h1]
theorem deqs_bls {f g : Int → Bool} : ∀ l : List Int, deqs (l.map fun k => D.bl (f k)) (l.map fun k => D.bl (g k)) = l.all fun k => f k == g k
  | [] => rfl
  | x :: l => by simp only [List.map_cons, deqs, deq, deqs_bls l, List.all_cons]
theorem eq_bls {f g : Int → Bool} (l : List Int) : eqD [.lst (l.map fun k => D.bl (f k)), .lst (l.map fun k => D.bl (g k))] = some (.d (.bl (l.all fun k => f k == g k))) := by
  have e : ∀ f : Int → Bool, shal 6 (.lst (l.map fun k => D.bl (f k))) = true := fun f => by
    simp only [shal, List.all_map, List.all_eq_true]
    exact fun x _ => rfl
  simp only [eqD, e, Bool.and_self, if_true, blD, deq, deqs_bls]
theorem len_fold (xs : List Rg) : ∀ (ss : List Int) (m : List Rg), (ss.foldl (mStep xs) m).length ≤ m.length + ss.length
  | [], m => by simp
  | s :: ss, m => by
    rw [List.foldl_cons]
    have h1 := len_fold xs ss (mStep xs m s)
    have h2 : (mStep xs m s).length ≤ m.length + 1 := by
      unfold mStep
      split
      · split
        · simp only [List.length_append, List.length_dropLast, List.length_cons, List.length_nil]; omega
        · simp
      · simp
    simp only [List.length_cons]
    omega
theorem len_mrg (xs : List Rg) : (mrg xs).length ≤ xs.length := by
  have h1 := len_fold xs (starts xs) []
  have h2 : (starts xs).length ≤ xs.length := by
    unfold starts
    rw [(Ks.isort_perm _).length_eq]
    exact Nat.le_trans (Ks.dd_len _) (by simp)
  unfold mrg
  simp at h1
  omega
theorem inB_eq {m : List Rg} {k : Int} {b : Bool} (h : inL m k ↔ b = true) : inB m k = b := by
  rw [Bool.eq_iff_iff, inB_iff]
  exact h
theorem empty_any {m : List Rg} {ns : List Int} {p : Int → Bool} (hN : Norm 0 m) (hp : ∀ k ∈ ns, inB m k = p k) (hc : (∃ k, inL m k) → ∃ k ∈ ns, inL m k) : (!m.isEmpty) = ns.any p := by
  rw [Bool.eq_iff_iff, List.any_eq_true]
  have e : (!m.isEmpty) = true ↔ ∃ k, inL m k := by
    have := inL_nil' hN
    cases m with
    | nil => simp [inL_nil]
    | cons x m => simp at this ⊢; exact this
  rw [e]
  constructor
  · intro h
    obtain ⟨k, h1, h2⟩ := hc h
    exact ⟨k, h1, by rw [← hp k h1]; exact inB_iff.mpr h2⟩
  · rintro ⟨k, h1, h2⟩
    exact ⟨k, inB_iff.mp (by rw [hp k h1]; exact h2)⟩
theorem sub_all {s t A : List Rg} {ns : List Int} {p q : Int → Bool} (hs : Norm 0 s) (hA : Norm 0 A) (mA : ∀ k, inL A k ↔ inL s k ∧ inL t k) (cs : Cov s ns) (ct : Cov t ns) (hp : ∀ k ∈ ns, inB s k = p k) (hq : ∀ k ∈ ns, inB t k = q k) :
    decide (A = s) = ns.all fun k => (p k && q k) == p k := by
  rw [Bool.eq_iff_iff, decide_eq_true_eq, List.all_eq_true]
  constructor
  · rintro rfl k hk
    have h1 := hp k hk
    have h2 := hq k hk
    have h3 := mA k
    rw [← inB_iff, ← inB_iff, h1, h2] at h3
    cases e : p k
    · rfl
    · rw [e] at h3
      rw [(h3.mp rfl).2]; rfl
  · intro h
    refine norm_uniq hA hs fun k => ?_
    rw [mA]
    refine ⟨fun z => z.1, fun z => ⟨z, ?_⟩⟩
    refine cov_sub hs cs ct (fun j hj y => ?_) k z
    have h1 := h j hj
    rw [← hp j hj, ← hq j hj, inB_iff.mpr y] at h1
    exact inB_iff.mp (by simpa using h1)
theorem eq_all {s t : List Rg} {ns : List Int} {p q : Int → Bool} (hs : Norm 0 s) (ht : Norm 0 t) (cs : Cov s ns) (ct : Cov t ns) (hp : ∀ k ∈ ns, inB s k = p k) (hq : ∀ k ∈ ns, inB t k = q k) :
    decide (s = t) = ((ns.all fun k => (p k && q k) == p k) && ns.all fun k => (p k && q k) == q k) := by
  rw [Bool.eq_iff_iff, decide_eq_true_eq, Bool.and_eq_true, List.all_eq_true, List.all_eq_true]
  constructor
  · rintro rfl
    have e : ∀ k ∈ ns, p k = q k := fun k hk => by rw [← hp k hk, ← hq k hk]
    exact ⟨fun k hk => by rw [e k hk]; simp, fun k hk => by rw [e k hk]; simp⟩
  · rintro ⟨h1, h2⟩
    refine norm_uniq hs ht fun k => ⟨cov_sub hs cs ct (fun j hj y => ?_) k, cov_sub ht ct cs (fun j hj y => ?_) k⟩
    · have h1 := h1 j hj
      rw [← hp j hj, ← hq j hj, inB_iff.mpr y] at h1
      exact inB_iff.mp (by simpa using h1)
    · have h2 := h2 j hj
      rw [← hp j hj, ← hq j hj, inB_iff.mpr y] at h2
      exact inB_iff.mp (by simpa using h2)

/-- [g(row[k], ..) for k in range(len(numbers))] -/
theorem lc_idx {ns : List Int} {f : Int → Bool} {e1 : Nat → Dn.Env} {fe : ES} {t : TGt} {env : Dn.Env} {S : Store} {P : WP RW} {E : WE} (hn : ns.length < 1000) (hb : ∀ k, bindT t (.int (k : Nat)) env = some (e1 k))
    (hf : ∀ k (h : k < ns.length), ∀ Q : WP RW, Q (.d (.bl (f ns[k]))) S → Dn.T (fe (e1 k) S) Q noE) (h : P (.own (.lst (ns.map fun k => .bl (f k)))) S) : Dn.T (lcLoop [] t yesS fe env (rngD 0 ns.length) [] S) P E := by
  rw [rngD_map]
  refine lc_pureT (α := Nat) (mk := fun k => .int (k : Nat)) (e1 := e1) (p := fun _ => true) (f := fun k => .bl (f (ns[k]?.getD 0))) gOk_nil (by simp [sizeLine_eq]; omega) (fun k _ => hb k) (fun k _ Q hq => by simp; exact hq) (fun k hk _ Q hq => ?_) ?_
  · have hk' : k < ns.length := by simpa using hk
    refine hf k hk' Q ?_
    simpa [hk'] using hq
  · rw [List.nil_append, flt_true, range_map (f := fun i => D.bl (f i))]
    exact h
theorem pair {s t : List Rg} {ns : List Int} {p q : Int → Bool} {S : Store} {P : WP RW} {E : WE} (hs : Norm 0 s) (ht : Norm 0 t) (cs : Cov s ns) (ct : Cov t ns) (ls : s.length < 20) (lt : t.length < 20) (hn : ns.length < 1000)
    (hp : ∀ k ∈ ns, inB s k = p k) (hq : ∀ k ∈ ns, inB t k = q k) (h : P (.d (.bl true)) S) :
    Dn.T (F__law_pair.sem [.d (szD s), .d (szD t), .d (.lst (ns.map .int)), .d (.lst (ns.map fun k => .bl (p k))), .d (.lst (ns.map fun k => .bl (q k)))] S) P E := by
  have okA := okW_and (b := t) (okW_norm (Int.le_refl 0) hs)
  obtain ⟨nA, mA⟩ := mrg_okW okA
  have mA : ∀ k, inL (mrg (andL s t)) k ↔ inL s k ∧ inL t k := fun k => (mA k).trans inL_and
  have okO : ∀ x ∈ s ++ t, okW x := fun x hx => (List.mem_append.mp hx).elim (okW_norm (Int.le_refl 0) hs x) (okW_norm (Int.le_refl 0) ht x)
  obtain ⟨nO, mO⟩ := mrg_okW okO
  have mO : ∀ k, inL (mrg (s ++ t)) k ↔ inL s k ∨ inL t k := fun k => (mO k).trans inL_app
  have hmul : s.length * t.length < 400 := Nat.lt_of_le_of_lt (Nat.mul_le_mul (Nat.le_of_lt_succ ls) (Nat.le_of_lt_succ lt)) (by omega)
  have lA : (mrg (andL s t)).length < 1000 := by
    have h1 := len_mrg (andL s t)
    have h2 := List.length_filter_le neR' (andP s t)
    rw [len_and] at h2
    unfold andL at h1 ⊢
    omega
  have lO : (mrg (s ++ t)).length < 1000 := by
    have h1 := len_mrg (s ++ t)
    rw [List.length_append] at h1
    omega
  have pA : ∀ k ∈ ns, inB (mrg (andL s t)) k = (p k && q k) := fun k hk => inB_eq (by rw [mA, ← inB_iff, ← inB_iff, hp k hk, hq k hk]; simp)
  have pO : ∀ k ∈ ns, inB (mrg (s ++ t)) k = (p k || q k) := fun k hk => inB_eq (by rw [mO, ← inB_iff, ← inB_iff, hp k hk, hq k hk]; simp)
  have bA := empty_any nA pA fun ⟨k, hk⟩ => by
    obtain ⟨j, h1, h2⟩ := cov_and hs cs ct ⟨k, (mA k).mp hk⟩
    exact ⟨j, h1, (mA j).mpr h2⟩
  have bO := empty_any nO pO fun ⟨k, hk⟩ => by
    rcases (mO k).mp hk with z | z
    · obtain ⟨j, h1, h2⟩ := cov_one hs cs ⟨k, z⟩
      exact ⟨j, h1, (mO j).mpr (.inl h2)⟩
    · obtain ⟨j, h1, h2⟩ := cov_one ht ct ⟨k, z⟩
      exact ⟨j, h1, (mO j).mpr (.inr h2)⟩
  have bs := empty_any hs hp fun hk => cov_one hs cs hk
  have bt := empty_any ht hq fun hk => cov_one ht ct hk
  have hU := sub_all hs nA mA cs ct hp hq
  have hV : decide (mrg (andL s t) = t) = ns.all fun k => (p k && q k) == q k := by
    have := sub_all (s := t) (t := s) (A := mrg (andL s t)) ht nA (fun k => by rw [mA]; exact And.comm) ct cs hq hp
    rw [this]
    congr 1
    funext k
    rw [Bool.and_comm]
  have hE := eq_all hs ht cs ct hp hq
  refine T__law_pair ?_
  simp
  refine ⟨okR_of (by omega) (by omega), ?_⟩
  refine lc_idx (f := fun k => p k && q k) (e1 := fun k => [some (.d (szD s)), some (.d (szD t)), some (.d (.lst (ns.map .int))), some (.d (.lst (ns.map fun k => .bl (p k)))), some (.d (.lst (ns.map fun k => .bl (q k)))), none, none, none, none, none, none, some (.d (.int (k : Nat)))]) hn (fun k => rfl) (fun k hk Q hQ => ?_) ?_
  · have a1 : (ns.map fun k => D.bl (p k))[k]? = some (.bl (p ns[k])) := by simp [hk]
    have a2 : (ns.map fun k => D.bl (q k))[k]? = some (.bl (q ns[k])) := by simp [hk]
    simp [ix_l (atI_nat' a1), ix_l (atI_nat' a2)]
    refine ⟨fun z => ?_, fun z => ?_⟩ <;> simpa [z] using hQ
  simp
  rw [Kseq_]; simp
  refine ⟨okR_of (by omega) (by omega), ?_⟩
  refine lc_idx (f := fun k => p k || q k) (e1 := fun k => [some (.d (szD s)), some (.d (szD t)), some (.d (.lst (ns.map .int))), some (.d (.lst (ns.map fun k => .bl (p k)))), some (.d (.lst (ns.map fun k => .bl (q k)))), some (.d (.lst (ns.map fun k => .bl (p k && q k)))), none, none, none, none, none, some (.d (.int (k : Nat)))]) hn (fun k => rfl) (fun k hk Q hQ => ?_) ?_
  · have a1 : (ns.map fun k => D.bl (p k))[k]? = some (.bl (p ns[k])) := by simp [hk]
    have a2 : (ns.map fun k => D.bl (q k))[k]? = some (.bl (q ns[k])) := by simp [hk]
    simp [ix_l (atI_nat' a1), ix_l (atI_nat' a2)]
    refine ⟨fun z => ?_, fun z => ?_⟩ <;> simpa [z] using hQ
  simp
  rw [Kseq_]; simp
  refine T_ownB rfl rfl rfl (T_mthB rfl rfl rfl (and_ (by omega) ?_))
  simp
  refine agrees nA lA hn pA bA ?_
  simp
  refine T_ownB rfl rfl rfl (T_mthB rfl rfl rfl (or_ (by omega) ?_))
  simp
  refine agrees nO lO hn pO bO ?_
  simp
  rw [Kseq_]; simp [eq_bls]
  rw [Kseq_]; simp [eq_bls]
  generalize (ns.all fun k => (p k && q k) == p k) = U at hU hE ⊢
  generalize (ns.all fun k => (p k && q k) == q k) = V at hV hE ⊢
  have lm : s.length * t.length < 500 := by omega
  have fin : ∀ {d9 d10 : D}, plD 2 d9 = true → plD 2 d10 = true → sm d10 d9 = true → Kseq I__law_pair_7.sem (EnD (List.length S) P E) [some (.d (szD s)), some (.d (szD t)), some (.d (.lst (ns.map .int))), some (.d (.lst (ns.map fun k => .bl (p k)))), some (.d (.lst (ns.map fun k => .bl (q k)))), some (.d (.lst (ns.map fun k => .bl (p k && q k)))),
      some (.d (.lst (ns.map fun k => .bl (p k || q k)))), some (.d (.bl U)), some (.d (.bl V)), some (.d d9), some (.d d10), none] S := by
    intro d9 d10 h1 h2 h3
    rw [Kseq_]; simp
    rw [alT 2 h2 h1]
    simp [h3]
    refine agrees hs (by omega) hn hp bs ?_
    simp
    refine agrees ht (by omega) hn hq bt ?_
    simp [exitR]
    exact h
  cases U <;> cases V <;>
  · rw [Kseq_]; simp
    rw [Kseq_]; simp
    refine T_ownC rfl rfl (T_mthB rfl rfl rfl (le_ lm ?_))
    rw [hU]; simp
    refine T_ownC rfl rfl (T_mthB rfl rfl rfl (lt_ lm ?_))
    rw [hU, hE]; simp
    refine T_ownC rfl rfl (T_mthB rfl rfl rfl (ge_ lm ?_))
    rw [hV]; simp
    refine T_ownC rfl rfl (T_mthB rfl rfl rfl (gt_ lm ?_))
    rw [hV, hE]; simp
    refine T_ownC rfl rfl (T_mthB rfl rfl rfl (eq_ ?_))
    rw [hE]; simp
    refine T_ownN rfl rfl (T_mthB rfl rfl rfl (eq_ ?_))
    rw [hE]; simp
    exact fin rfl rfl rfl

def addN (x : Rg) : List Int := [x.1 - 1, x.1, x.1 + 1] ++ match x.2 with
  | none => []
  | some b => [b - 1, b, b + 1, (x.1 + b) / 2]
theorem addN_len (x : Rg) : (addN x).length ≤ 7 := by
  obtain ⟨a, o⟩ := x
  cases o <;> simp [addN]
theorem num_loop {a b : D} {S : Store} {Z : En} {lo hi : Int} : ∀ (r : List Rg) (ns : List Int) (o : Option D), ns.length + 7 * r.length < 1000 →
    (∀ o : Option D, Z.n [some (.d a), some (.d b), some (.d (.int lo)), some (.d (.int hi)), some (.d (.lst ((ns ++ r.flatMap addN).map .int))), o.map W.d, none, none, none, none, none, none, none, none] S) →
    Dn.TS (forLoop [] (.nm 5) I__law_sets_b1.sem S.length (r.map rgD) [some (.d a), some (.d b), some (.d (.int lo)), some (.d (.int hi)), some (.d (.lst (ns.map .int))), o.map W.d, none, none, none, none, none, none, none, none] S) Z
  | [], ns, o, hl, h => by
    rw [List.map_nil, TS_fnil]
    simpa using h o
  | (x1, x2) :: r, ns, o, hl, h => by
    rw [List.map_cons, TS_fnm]
    simp only [List.length_cons] at hl
    have e1 : addD [.lst (ns.map .int), .lst [.int (x1 - 1), .int x1, .int (x1 + 1)]] = some (.own (.lst ((ns ++ [x1 - 1, x1, x1 + 1]).map .int))) := by
      rw [add_ll (by simp [sizeLine_eq]; omega)]
      simp
    cases x2 with
    | none =>
      simp [rgD, optD, ix_p0, ix_p1]
      rw [e1]
      simp
      rw [Kseq_]
      simp [ix_p1, nonW]
      rw [Kloop_]
      have e := num_loop r (ns ++ [x1 - 1, x1, x1 + 1]) (some (rgD (x1, none))) (by simp; omega) (fun o => by
        have := h o
        simpa [addN] using this)
      simpa [rgD, optD] using e
    | some c =>
      simp [rgD, optD, ix_p0, ix_p1]
      rw [e1]
      simp
      rw [Kseq_]
      simp [ix_p1, ix_p0, nonW]
      have e2 : addD [.lst (ns.map .int ++ [.int (x1 - 1), .int x1, .int (x1 + 1)]), .lst [.int (c - 1), .int c, .int (c + 1), .int ((x1 + c) / 2)]] = some (.own (.lst ((ns ++ addN (x1, some c)).map .int))) := by
        rw [add_ll (by simp [sizeLine_eq]; omega)]
        simp [addN]
      rw [e2]
      simp
      rw [Kloop_]
      have e := num_loop r (ns ++ addN (x1, some c)) (some (rgD (x1, some c))) (by have := addN_len (x1, some c); simp; omega) (fun o => by
        have := h o
        simpa using this)
      simpa [rgD, optD] using e

theorem small_nat : ∀ n < 100, (strI (n : Nat)).length ≤ 3 ∧ Nat.log2 n < 1920 := by decide +kernel
theorem small_i {a : Int} (h : 1 ≤ a ∧ a ≤ 99) : (strI a).length ≤ 3 ∧ a.natAbs.log2 < 1920 := by
  have := small_nat a.natAbs (by omega)
  have e : (a.natAbs : Int) = a := by omega
  rw [e] at this
  exact this
def rtext (a : Int) (o : Option Int) : Str := match o with
  | none => (Str.empty ++ strI a) ++ ("-" : Str)
  | some b => if a = b then strI a else ((Str.empty ++ strI a) ++ ("-" : Str)) ++ strI b
theorem len_e1 {a : Int} (h : (strI a).length ≤ 3) : (Str.empty ++ strI a).length ≤ 3 := by
  rw [Str.length_append, show Str.empty.length = 0 from rfl]; omega
theorem len_e2 {a : Int} (h : (strI a).length ≤ 3) : ((Str.empty ++ strI a) ++ ("-" : Str)).length ≤ 4 := by
  have := len_e1 h
  rw [Str.length_append, show ("-" : Str).length = 1 from rfl]; omega
theorem len_e3 {a b : Int} (h : (strI a).length ≤ 3) (h2 : (strI b).length ≤ 3) : (((Str.empty ++ strI a) ++ ("-" : Str)) ++ strI b).length ≤ 7 := by
  have := len_e2 h
  rw [Str.length_append]; omega
theorem rtext_len {a : Int} {o : Option Int} (ha : 1 ≤ a ∧ a ≤ 99) (hb : ∀ b, o = some b → 1 ≤ b ∧ b ≤ 99) : (rtext a o).length ≤ 7 := by
  cases o with
  | none => have := len_e2 (small_i ha).1; simp only [rtext]; omega
  | some b =>
    simp only [rtext]
    split
    · have := (small_i ha).1; omega
    · exact len_e3 (small_i ha).1 (small_i (hb b rfl)).1
theorem str_one {a : Int} {o : Option Int} {S : Store} {P : WP RW} {E : WE} (ha : 1 ≤ a ∧ a ≤ 99) (hb : ∀ b, o = some b → 1 ≤ b ∧ b ≤ 99) (h : P (.d (.str (rtext a o))) S) : Dn.T (F_range_text.sem [.d (.int a), .d (optD o)] S) P E := by
  obtain ⟨a1, a2⟩ := small_i ha
  have e1 := len_e1 a1
  have e2 := len_e2 a1
  refine T_range_text ?_
  cases o with
  | none =>
    simp [optD, nonW]
    rw [Kfs_i a2]
    refine ⟨by rw [sizeLine_eq]; omega, by rw [sizeLine_eq]; omega, ?_⟩
    rw [T_fsc (by rw [sizeLine_eq]; omega)]
    simp [exitR]
    exact h
  | some b =>
    obtain ⟨b1, b2⟩ := small_i (hb b rfl)
    have e3 := len_e3 a1 b1
    simp only [rtext] at h
    simp [optD, nonW]
    rw [Kseq_]
    simp
    refine ⟨fun z => ?_, fun z => ?_⟩
    · rw [if_pos z] at h
      simp [strD, a2, exitR]
      exact h
    · rw [if_neg z] at h
      rw [Kseq_]
      simp
      rw [Kfs_i a2]
      refine ⟨by rw [sizeLine_eq]; omega, by rw [sizeLine_eq]; omega, ?_⟩
      rw [T_fsc (by rw [sizeLine_eq]; omega)]
      simp
      rw [Kfs_i b2]
      refine ⟨by rw [sizeLine_eq]; omega, by rw [sizeLine_eq]; omega, ?_⟩
      simp [exitR]
      exact h
theorem sum_le : ∀ l : List Str, (∀ s ∈ l, s.length ≤ 7) → (l.map (·.length)).sum ≤ 7 * l.length
  | [], _ => by simp
  | s :: l, h => by
    have := sum_le l fun t ht => h t (by simp [ht])
    have := h s (by simp)
    simp only [List.map_cons, List.sum_cons, List.length_cons]
    omega
theorem str_ {m : List Rg} {S : Store} {P : WP RW} {E : WE} (hl : m.length < 100) (hm : ∀ x ∈ m, (1 ≤ x.1 ∧ x.1 ≤ 99) ∧ ∀ b, x.2 = some b → 1 ≤ b ∧ b ≤ 99) (h : ∀ t : Str, P (.d (.str t)) S) : Dn.T (F_Sizes_____str__.sem [.d (szD m)] S) P E := by
  refine T_Sizes_____str__ ?_
  simp [szD, fldD, Tt, truD, exitR]
  refine ⟨fun z => h _, fun z => ?_⟩
  rw [Kseq_]
  simp [fldD]
  refine ⟨rfl, ?_⟩
  refine lc_pureT (α := Rg) (mk := rgD) (e1 := fun r => [some (.d (szD m)), some (.d (.int r.1)), some (.d (optD r.2))]) (p := fun _ => true) (f := fun r => .str (rtext r.1 r.2)) gOk_nil (by simp [sizeLine_eq]; omega) (fun x hx => rfl) (fun x hx Q hq => by simp; exact hq) (fun x hx _ Q hq => ?_) ?_
  · simp
    exact str_one (hm x hx).1 (hm x hx).2 hq
  · rw [List.nil_append, flt_true, show m.map (fun r => D.str (rtext r.1 r.2)) = (m.map fun r => rtext r.1 r.2).map D.str by rw [List.map_map]; rfl]
    have hs := sum_le (m.map fun r => rtext r.1 r.2) fun s hs => by
      obtain ⟨x, hx, rfl⟩ := List.mem_map.mp hs
      exact rtext_len (hm x hx).1 (hm x hx).2
    have hz : (m.map fun r => rtext r.1 r.2).length = m.length := List.length_map ..
    generalize (m.map fun r => rtext r.1 r.2) = l at hs hz ⊢
    have ej : joinD [.str " ", .lst (l.map D.str)] = some (.d (.str (Str.join " " l))) := by
      unfold joinD
      simp only [asStrs_map, Option.bind_some]
      rw [if_pos (by rw [show (" " : Str).length = 1 from rfl]; omega)]
    simp
    rw [ej]
    simp [exitR]
    exact h _

theorem neg_i {i : Int} : negD [.int i] = some (.d (.int (-i))) := (rfl)
theorem pow_30 : powD [.int 10, .int 30] = some (.d (.int 1000000000000000000000000000000)) := by
  simp [powD]
def numB (low high : Int) : List Int := [0, 1, 99, 100, -5, 1000000000000000000000000000000, low - 1, low, low + 1, high - 1, high, high + 1]
theorem all_okP {xs : List Rg} (h : ∀ x ∈ xs, okG x) : xs.all okP = true := List.all_eq_true.mpr fun x hx => okP_iff.mpr (h x hx)
/-- [f(number) for number in numbers] -/
theorem lc_num {ns : List Int} {f : Int → Bool} {e1 : Int → Dn.Env} {fe : ES} {t : TGt} {env : Dn.Env} {S : Store} {P : WP RW} {E : WE} (hn : ns.length < 1000) (hb : ∀ k, bindT t (.int k) env = some (e1 k))
    (hf : ∀ k, ∀ Q : WP RW, Q (.d (.bl (f k))) S → Dn.T (fe (e1 k) S) Q noE) (h : P (.own (.lst (ns.map fun k => .bl (f k)))) S) : Dn.T (lcLoop [] t yesS fe env (ns.map .int) [] S) P E := by
  refine lc_pureT (α := Int) (mk := D.int) (e1 := e1) (p := fun _ => true) (f := fun k => .bl (f k)) gOk_nil (by simp [sizeLine_eq]; omega) (fun k _ => hb k) (fun k _ Q hq => by simp; exact hq) (fun k hk _ Q hq => hf k Q hq) ?_
  rw [List.nil_append, flt_true]
  exact h
theorem norm_start : ∀ {m : List Rg} {lo : Int}, Norm lo m → ∀ x ∈ m, inL m x.1 ∧ ¬ inL m (x.1 - 1)
  | [], _, _, x, h => by simp at h
  | (a, none) :: r, lo, hN, x, h => by
    obtain ⟨h1, rfl⟩ := hN
    rcases List.mem_cons.mp h with rfl | z
    · refine ⟨⟨_, by simp, Int.le_refl _, leO_n⟩, ?_⟩
      rintro ⟨y, hy, z1, z2⟩
      rcases List.mem_cons.mp hy with rfl | z
      · simp only at z1; omega
      · simp at z
    · simp at z
  | (a, some b) :: r, lo, hN, x, h => by
    obtain ⟨h1, h2, h3⟩ := hN
    rcases List.mem_cons.mp h with rfl | z
    · refine ⟨⟨_, by simp, Int.le_refl _, leO_s.mpr h2⟩, ?_⟩
      intro hh
      rcases inL_cons.mp hh with z | z
      · have := z.1; simp only at this; omega
      · have := norm_lo h3 z; simp only at this; omega
    · obtain ⟨z1, z2⟩ := norm_start h3 x z
      have := norm_lo h3 z1
      refine ⟨inL_cons.mpr (.inr z1), fun hh => ?_⟩
      rcases inL_cons.mp hh with y | y
      · have := leO_s.mp y.2; omega
      · exact z2 y
theorem norm_end : ∀ {m : List Rg} {lo : Int}, Norm lo m → ∀ x ∈ m, ∀ b, x.2 = some b → inL m b ∧ ¬ inL m (b + 1)
  | [], _, _, x, h => by simp at h
  | (a, none) :: r, lo, hN, x, h => by
    obtain ⟨h1, rfl⟩ := hN
    rcases List.mem_cons.mp h with rfl | z
    · intro b e; cases e
    · simp at z
  | (a, some b) :: r, lo, hN, x, h => by
    obtain ⟨h1, h2, h3⟩ := hN
    rcases List.mem_cons.mp h with rfl | z
    · intro c e
      cases e
      refine ⟨⟨(a, some b), by simp, h2, leO_s.mpr (Int.le_refl _)⟩, ?_⟩
      intro hh
      rcases inL_cons.mp hh with z | z
      · have := leO_s.mp z.2; omega
      · have := norm_lo h3 z; omega
    · intro c e
      obtain ⟨z1, z2⟩ := norm_end h3 x z c e
      have := norm_lo h3 z1
      refine ⟨inL_cons.mpr (.inr z1), fun hh => ?_⟩
      rcases inL_cons.mp hh with y | y
      · have := leO_s.mp y.2; omega
      · exact z2 y
theorem mrg_99 {xs : List Rg} (hx : ∀ x ∈ xs, okG x) : ∀ x ∈ mrg xs, (1 ≤ x.1 ∧ x.1 ≤ 99) ∧ ∀ b, x.2 = some b → 1 ≤ b ∧ b ≤ 99 := by
  obtain ⟨hN, hi⟩ := mrg_ok hx
  have c := cov_of (ns := (xs.map (·.1)) ++ (xs.flatMap fun x => match x.2 with | none => [] | some b => [b + 1])) hi (fun x h => List.mem_append_left _ (List.mem_map_of_mem h)) fun x h b e => List.mem_append_right _ (List.mem_flatMap.mpr ⟨x, h, by rw [e]; simp⟩)
  have cs : ∀ k, inL (mrg xs) k → ¬ inL (mrg xs) (k - 1) → k ≤ 99 := fun k h1 h2 => by
    obtain ⟨x, hx1, y1, y2⟩ := (hi k).mp h1
    have hn : ¬ inR x (k - 1) := fun z => h2 ((hi _).mpr ⟨x, hx1, z⟩)
    have o := hx x hx1
    by_cases z : x.1 ≤ k - 1
    · exact absurd ⟨z, leO_mono y2 (by omega)⟩ hn
    · have := o.2.1; omega
  have ce : ∀ k, inL (mrg xs) k → ¬ inL (mrg xs) (k + 1) → k ≤ 99 := fun k h1 h2 => by
    obtain ⟨x, hx1, y1, y2⟩ := (hi k).mp h1
    have hn : ¬ inR x (k + 1) := fun z => h2 ((hi _).mpr ⟨x, hx1, z⟩)
    have o := hx x hx1
    cases e : x.2 with
    | none => exact absurd ⟨by omega, by rw [e]; exact leO_n⟩ hn
    | some b =>
      rw [e, leO_s] at y2
      have := o.2.2.2 b e
      omega
  intro x h
  obtain ⟨a1, a2⟩ := norm_start hN x h
  refine ⟨⟨by have := norm_lo hN a1; omega, cs _ a1 a2⟩, fun b e => ?_⟩
  obtain ⟨b1, b2⟩ := norm_end hN x h b e
  exact ⟨by have := norm_lo hN b1; omega, ce _ b1 b2⟩
theorem right_d {C : Str} {d : D} (h : (tyN d).isSome = true) : rightB C (some d) = true := by
  cases d <;> first | exact h | cases h
theorem things_loop {m : List Rg} {e0 e1 e2 e3 e4 e7 e8 e9 e10 e11 : D} {o5 : Option D} {S : Store} {Z : En} : ∀ (ds : List D) (o : Option D), (∀ d ∈ ds, (tyN d).isSome = true) →
    (∀ o : Option D, Z.n [some (.d e0), some (.d e1), some (.d e2), some (.d e3), some (.d e4), o5.map W.d, some (.d (szD m)), some (.d e7), some (.d e8), some (.d e9), some (.d e10), some (.d e11), o.map W.d, none] S) →
    Dn.TS (forLoop [] (.nm 12) I__law_sets_b2.sem S.length ds [some (.d e0), some (.d e1), some (.d e2), some (.d e3), some (.d e4), o5.map W.d, some (.d (szD m)), some (.d e7), some (.d e8), some (.d e9), some (.d e10), some (.d e11), o.map W.d, none] S) Z
  | [], o, _, h => by
    rw [TS_fnil]
    exact h o
  | d :: ds, o, hd, h => by
    have hd0 := hd d (by simp)
    rw [TS_fnm]
    simp
    refine T_ownC rfl (right_d hd0) (T_mthB rfl rfl rfl (eq_no hd0 ?_))
    simp
    rw [alT 2 rfl rfl]
    simp [sm]
    refine T_ownN rfl (right_d hd0) (T_mthB rfl rfl rfl (eq_no hd0 ?_))
    simp
    rw [alT 2 rfl rfl]
    simp [sm]
    rw [Kloop_]
    have e := things_loop ds (some d) (fun x hx => hd x (by simp [hx])) h
    cases o5 <;> simpa using e
theorem sets {xs ys : List Rg} {low high : Int} {S : Store} {P : WP RW} {E : WE} (hx : ∀ x ∈ xs, okG x) (hy : ∀ x ∈ ys, okG x) (lx : xs.length < 20) (ly : ys.length < 20) (h : P (.d (.bl true)) S) :
    Dn.T (F__law_sets.sem [.d (.lst (xs.map rgD)), .d (.lst (ys.map rgD)), .d (.int low), .d (.int high)] S) P E := by
  refine T__law_sets ?_
  simp [neg_i, pow_30]
  rw [Kseq_]; simp
  rw [add_ll (by simp [sizeLine_eq]; omega)]
  simp
  rw [← List.map_append]
  refine num_loop (xs ++ ys) (numB low high) none (by simp [numB]; omega) fun o => ?_
  obtain ⟨ns, hns⟩ : ∃ ns, ns = numB low high ++ (xs ++ ys).flatMap addN := ⟨_, rfl⟩
  rw [← hns]
  have hn : ns.length < 1000 := by
    have h1 : ∀ l : List Rg, (l.flatMap addN).length ≤ 7 * l.length := by
      intro l
      induction l with
      | nil => simp
      | cons x l ih =>
        have := addN_len x
        simp only [List.flatMap_cons, List.length_append, List.length_cons]
        omega
    have := h1 (xs ++ ys)
    rw [hns]
    simp only [List.length_append, numB, List.length_cons, List.length_nil] at this ⊢
    omega
  have mb : ∀ k ∈ numB low high, k ∈ ns := fun k hk => by rw [hns]; exact List.mem_append_left _ hk
  have mx : ∀ x ∈ xs ++ ys, ∀ k ∈ addN x, k ∈ ns := fun x hx k hk => by rw [hns]; exact List.mem_append_right _ (List.mem_flatMap.mpr ⟨x, hx, hk⟩)
  have m1 : ∀ x ∈ xs ++ ys, x.1 ∈ ns := fun x hx => mx x hx _ (by simp [addN])
  have m2 : ∀ x ∈ xs ++ ys, ∀ b, x.2 = some b → b + 1 ∈ ns := fun x hx b e => mx x hx _ (by obtain ⟨x1, x2⟩ := x; simp only at e; subst e; simp [addN])
  have ml : low ∈ ns := mb _ (by simp [numB])
  have mh : high + 1 ∈ ns := mb _ (by simp [numB])
  clear hns mb mx
  obtain ⟨n1, i1⟩ := mrg_ok hx
  obtain ⟨n2, i2⟩ := mrg_ok hy
  have w1 := okW_norm (Int.le_refl 0) n1
  have w2 := okW_norm (Int.le_refl 0) n2
  obtain ⟨n3, i3⟩ := mrg_okW (okW_lo (n := low) w1)
  obtain ⟨n4, i4⟩ := mrg_okW (okW_hi (n := high) w2)
  have i3 : ∀ k, inL (mrg (cutLo (mrg xs) low)) k ↔ inL (mrg xs) k ∧ low ≤ k := fun k => (i3 k).trans inL_lo
  have i4 : ∀ k, inL (mrg (cutHi (mrg ys) high)) k ↔ inL (mrg ys) k ∧ k ≤ high := fun k => (i4 k).trans inL_hi
  have c1 : Cov (mrg xs) ns := cov_of i1 (fun x hx => m1 x (List.mem_append_left _ hx)) fun x hx => m2 x (List.mem_append_left _ hx)
  have c2 : Cov (mrg ys) ns := cov_of i2 (fun x hx => m1 x (List.mem_append_right _ hx)) fun x hx => m2 x (List.mem_append_right _ hx)
  have c3 : Cov (mrg (cutLo (mrg xs) low)) ns := cov_lo i3 c1 ml
  have c4 : Cov (mrg (cutHi (mrg ys) high)) ns := cov_hi i4 c2 mh
  have l1 := len_mrg xs
  have l2 := len_mrg ys
  have l3 : (mrg (cutLo (mrg xs) low)).length < 20 := by
    have h1 := len_mrg (cutLo (mrg xs) low)
    have h2 := List.length_filter_le neR' ((mrg xs).map fun x => (max x.1 low, x.2))
    rw [List.length_map] at h2
    unfold cutLo at h1 ⊢
    omega
  have l4 : (mrg (cutHi (mrg ys) high)).length < 20 := by
    have h1 := len_mrg (cutHi (mrg ys) high)
    have h2 := List.length_filter_le neR' ((mrg ys).map fun x => (x.1, near x.2 (some high)))
    rw [List.length_map] at h2
    unfold cutHi at h1 ⊢
    omega
  have p1 : ∀ k ∈ ns, inB (mrg xs) k = inB xs k := fun k _ => inB_eq (by rw [i1, inB_iff])
  have p2 : ∀ k ∈ ns, inB (mrg ys) k = inB ys k := fun k _ => inB_eq (by rw [i2, inB_iff])
  have p3 : ∀ k ∈ ns, inB (mrg (cutLo (mrg xs) low)) k = (inB xs k && decide (low ≤ k)) := fun k _ => inB_eq (by rw [i3, i1, ← inB_iff]; simp)
  have p4 : ∀ k ∈ ns, inB (mrg (cutHi (mrg ys) high)) k = (inB ys k && decide (k ≤ high)) := fun k _ => inB_eq (by rw [i4, i2, ← inB_iff]; simp)
  simp
  rw [Kseq_]; simp
  refine made_sizes (xs := xs) isSq_l (by omega) (fun _ => ?_) fun z => by rw [all_okP hx] at z; cases z
  simp [sizD, toD_sz]
  rw [Kseq_]; simp
  refine made_sizes (xs := ys) isSq_l (by omega) (fun _ => ?_) fun z => by rw [all_okP hy] at z; cases z
  simp [sizD, toD_sz]
  rw [Kseq_]; simp
  refine lc_num (f := fun k => inB xs k) hn (fun k => rfl) (fun k Q hQ => ?_) ?_
  · simp
    refine law_in ?_
    exact hQ
  simp
  rw [Kseq_]; simp
  refine lc_num (f := fun k => inB ys k) hn (fun k => rfl) (fun k Q hQ => ?_) ?_
  · simp
    refine law_in ?_
    exact hQ
  simp
  rw [Kseq_]; simp
  refine lc_num (f := fun k => inB xs k && decide (low ≤ k)) hn (fun k => rfl) (fun k Q hQ => ?_) ?_
  · simp
    refine law_in ?_
    simp
    refine ⟨fun z => ?_, fun z => ?_⟩
    · simp [wipeE]
      simpa [z] using hQ
    · simpa [z] using hQ
  simp
  rw [Kseq_]; simp
  refine lc_num (f := fun k => inB ys k && decide (k ≤ high)) hn (fun k => rfl) (fun k Q hQ => ?_) ?_
  · simp
    refine law_in ?_
    simp
    refine ⟨fun z => ?_, fun z => ?_⟩
    · simp [wipeE]
      simpa [z] using hQ
    · simpa [z] using hQ
  simp
  rw [Kseq_]; simp
  refine pair n1 n2 c1 c2 (by omega) (by omega) hn p1 p2 ?_
  simp
  refine T_ownBi rfl rfl (T_mthB rfl rfl rfl (rshift (by omega) ?_))
  simp
  refine T_ownBi rfl rfl (T_mthB rfl rfl rfl (lshift (by omega) ?_))
  simp
  refine pair n3 n4 c3 c4 l3 l4 hn p3 p4 ?_
  simp
  rw [Kseq_]; simp
  refine T_ownBi rfl rfl (T_mthB rfl rfl rfl (rshift (by omega) ?_))
  simp
  refine pair n3 n1 c3 c1 l3 (by omega) hn p3 p1 ?_
  simp
  refine T_ownBi rfl rfl (T_mthB rfl rfl rfl (lshift (by omega) ?_))
  simp
  refine pair n2 n4 c2 c4 (by omega) l4 hn p2 p4 ?_
  simp
  rw [Kseq_]; simp
  refine T_ownStr (T_mthB rfl rfl rfl (str_ (by omega) (mrg_99 hx) fun t => ?_))
  simp [fldD]
  refine things_loop (m := mrg xs) (o5 := o) _ none (fun d hd => ?_) fun o2 => ?_
  · simp only [List.mem_cons, List.not_mem_nil, or_false] at hd
    rcases hd with rfl | rfl | rfl | rfl | rfl | rfl | rfl <;> rfl
  simp
  rw [Kseq_]; simp
  have e1 := mrg_due hx
  have e2 := mrg_due hy
  refine law_merged hx (by omega) ?_
  simp [szD]
  refine is_sizes e1 (by rw [← e1]; omega) (by rw [← e1]; omega) ?_
  simp
  refine law_merged hy (by omega) ?_
  simp
  refine is_sizes e2 (by rw [← e2]; omega) (by rw [← e2]; omega) ?_
  simp [exitR]
  exact h

/-! a list of good ranges is drawn -/
theorem pick {l : List Int} {j : Int} (h0 : 0 ≤ j) (h1 : j < l.length) : ∃ i ∈ l, ixD [.lst (l.map D.int), .int j] = some (.d (.int i)) := by
  obtain ⟨k, rfl⟩ := Int.eq_ofNat_of_zero_le h0
  have hk : k < l.length := by simpa using h1
  refine ⟨l[k], List.getElem_mem hk, ix_l ?_⟩
  exact atI_nat' (xs := l.map D.int) (k := k) (x := .int l[k]) (by rw [List.getElem?_map, List.getElem?_eq_getElem hk]; rfl)
theorem pickR {l : List Rg} {j : Int} (h0 : 0 ≤ j) (h1 : j < l.length) : ∃ r ∈ l, ixD [.lst (l.map rgD), .int j] = some (.d (rgD r)) := by
  obtain ⟨k, rfl⟩ := Int.eq_ofNat_of_zero_le h0
  have hk : k < l.length := by simpa using h1
  refine ⟨l[k], List.getElem_mem hk, ix_l ?_⟩
  exact atI_nat' (xs := l.map rgD) (k := k) (x := rgD l[k]) (by rw [List.getElem?_map, List.getElem?_eq_getElem hk]; rfl)
theorem ll_end {c : Cell} {xs : List Rg} {a : Int} {b : Option Int} {o3 o6 o8 : Option D} {Z : En} (hl : xs.length < 100)
    (h : Z.n [some (.loc 0), some (.d (.int 4)), some (.loc 1), o3.map W.d, none, some (.d (.int a)), o6.map W.d, some (.d (optD b)), o8.map W.d] [c, .lst ((xs ++ [(a, b)]).map rgD)]) :
    Dn.TS (I__law_list_b1_6.sem [some (.loc 0), some (.d (.int 4)), some (.loc 1), o3.map W.d, none, some (.d (.int a)), o6.map W.d, some (.d (optD b)), o8.map W.d] [c, .lst (xs.map rgD)]) Z := by
  have hz := sizeLine_eq
  simp [isTy, MP.T]
  rw [append_at (l := xs.map rgD) (by simp) (by simp; omega)]; simp
  simpa [rgD] using h
theorem ll_tail {c : Cell} {xs : List Rg} {a : Int} {o3 o6 o7 o8 : Option D} {Z : En} (hc : StOk c) (ha : 1 ≤ a) (ha2 : a ≤ 99) (hl : xs.length < 100)
    (h : ∀ (c' : Cell) (b : Option Int), StOk c' → okG (a, b) → Z.n [some (.loc 0), some (.d (.int 4)), some (.loc 1), o3.map W.d, none, some (.d (.int a)), o6.map W.d, some (.d (optD b)), o8.map W.d] [c', .lst ((xs ++ [(a, b)]).map rgD)]) :
    Dn.TS (I__law_list_b1_3.sem [some (.loc 0), some (.d (.int 4)), some (.loc 1), o3.map W.d, none, some (.d (.int a)), o6.map W.d, o7.map W.d, o8.map W.d] [c, .lst (xs.map rgD)]) Z := by
  simp
  refine draw hc (by decide) (by decide) fun j c1 hc1 j0 j1 => ?_
  obtain ⟨i, hi, e⟩ := pick (l := [1, 4, 40, 99]) (j := j) j0 (by simp; omega)
  have e : ixD [.lst [D.int 1, D.int 4, D.int 40, D.int 99], .int j] = some (.d (.int i)) := e
  have hi2 : 1 ≤ i ∧ i ≤ 99 := by simp at hi; omega
  simp [e]
  refine draw hc1 (by omega) (by omega) fun v c2 hc2 v0 v1 => ?_
  simp
  have go : ∀ g : Int, a ≤ g → g ≤ 99 → Kseq I__law_list_b1_5.sem Z [some (.loc 0), some (.d (.int 4)), some (.loc 1), o3.map W.d, none, some (.d (.int a)), o6.map W.d, some (.d (.int g)), o8.map W.d] [c2, .lst (xs.map rgD)] := fun g g0 g1 => by
    rw [Kseq_]; simp
    refine draw hc2 (by decide) (by decide) fun q c3 hc3 q0 q1 => ?_
    simp
    refine ⟨fun _ => ?_, fun _ => ?_⟩
    · rw [Kseq_]
      exact ll_end (b := none) hl (h c3 none hc3 ⟨ha, ha2, leO_n, fun _ z => nomatch z⟩)
    · rw [Kseq_]
      exact ll_end (b := some g) hl (h c3 (some g) hc3 ⟨ha, ha2, leO_s.mpr g0, fun _ z => by cases z; exact g1⟩)
  rw [Kseq_]; simp
  refine ⟨fun z => go 99 ha2 (by omega), fun z => go _ (by omega) (by omega)⟩
theorem cut_map (xs : List Rg) (lo hi : Option Int) : ∃ ys : List Rg, cutD (xs.map rgD) lo hi = ys.map rgD ∧ (∀ y ∈ ys, y ∈ xs) ∧ ys.length ≤ xs.length := by
  unfold cutD
  refine ⟨(xs.drop (HT.sIx (xs.map rgD).length 0 lo)).take (HT.sIx (xs.map rgD).length (xs.map rgD).length hi - HT.sIx (xs.map rgD).length 0 lo), by rw [List.map_take, List.map_drop], fun y hy => List.mem_of_mem_drop (List.mem_of_mem_take hy), ?_⟩
  rw [List.length_take, List.length_drop]
  omega
def LLI (rest : List D) (env : Dn.Env) (S : Store) : Prop := ∃ (c : Cell) (xs : List Rg) (o3 o5 o6 o7 o8 : Option D), S = [c, .lst (xs.map rgD)] ∧ StOk c ∧ (∀ x ∈ xs, okG x) ∧ xs.length + rest.length ≤ 6 ∧
      env = [some (.loc 0), some (.d (.int 4)), some (.loc 1), o3.map W.d, none, o5.map W.d, o6.map W.d, o7.map W.d, o8.map W.d]
theorem law_list {c : Cell} {P : WP RW} {E : WE} (hc : StOk c) (h : ∀ (xs : List Rg) c', StOk c' → (∀ x ∈ xs, okG x) → xs.length ≤ 6 → P (.own (.lst (xs.map rgD))) [c']) : Dn.T (F__law_list.sem [.loc 0, .d (.int 4)] [c]) P E := by
  have hz := sizeLine_eq
  refine T__law_list ?_
  simp
  rw [Kseq_]; simp
  refine draw hc (by decide) (by decide) fun n c1 hc1 n0 n1 => ?_
  simp
  refine ⟨okR_of (by omega) (by omega), ?_⟩
  refine for_rule (I := LLI) ?_ ?_ ⟨c1, [], none, none, none, none, none, rfl, hc1, (fun x hx => by simp at hx), by rw [rngD_len]; simp; omega, rfl⟩
  · rintro x rest env S ⟨c, xs, o3, o5, o6, o7, o8, rfl, hc, hx, hl, rfl⟩
    simp only [List.length_cons] at hl
    refine ⟨_, rfl, ?_⟩
    simp
    refine draw hc (by decide) (by decide) fun j c2 hc2 j0 j1 => ?_
    obtain ⟨i, hi, e⟩ := pick (l := [6, 99, 12, 30]) (j := j) j0 (by simp; omega)
    have e : ixD [.lst [D.int 6, D.int 99, D.int 12, D.int 30], .int j] = some (.d (.int i)) := e
    have hi2 : 1 ≤ i ∧ i ≤ 99 := by simp at hi; omega
    simp [e]
    refine draw hc2 (by omega) (by omega) fun v c3 hc3 v0 v1 => ?_
    simp
    rw [Kseq_]; simp
    refine draw hc3 (by decide) (by decide) fun near c4 hc4 w0 w1 => ?_
    simp
    have go : ∀ (c : Cell) (a : Int) (o8 : Option D), StOk c → 1 ≤ a → a ≤ 99 → Kseq I__law_list_b1_3.sem (En.lp 2 (LLI rest) (En.sq I__law_list_2.sem (EnD 1 P E)))
        [some (.loc 0), some (.d (.int 4)), some (.loc 1), some (.d x), none, some (.d (.int a)), some (.d (.int near)), o7.map W.d, o8.map W.d] [c, .lst (xs.map rgD)] := fun c a o8 hc a0 a1 => by
      rw [Kseq_]
      refine ll_tail (o3 := some x) (o6 := some (.int near)) hc a0 a1 (by omega) fun c' b hc' ok => ?_
      have hx' : ∀ y ∈ xs ++ [(a, b)], okG y := fun y hy => by
        rcases List.mem_append.mp hy with z | z
        · exact hx y z
        · have : y = (a, b) := by simpa using z
          rw [this]; exact ok
      have kp : gcE 2 [some (.loc 0), some (.d (.int 4)), some (.loc 1), some (.d x), none, some (.d (.int a)), some (.d (.int near)), some (.d (optD b)), o8.map W.d] = [some (.loc 0), some (.d (.int 4)), some (.loc 1), some (.d x), none, some (.d (.int a)), some (.d (.int near)), some (.d (optD b)), o8.map W.d] := by
        cases o8 <;> rfl
      exact ⟨c', xs ++ [(a, b)], some x, some (.int a), some (.int near), some (optD b), o8, rfl, hc', hx', by simp only [List.length_append, List.length_cons, List.length_nil]; omega, kp⟩
    rw [Kseq_]; simp
    refine ⟨fun hne => ⟨fun h3 => ?_, fun _ => go c4 (1 + v) o8 hc4 (by omega) (by omega)⟩, fun _ => go c4 (1 + v) o8 hc4 (by omega) (by omega)⟩
    refine draw hc4 (by omega) (by omega) fun q c5 hc5 q0 q1 => ?_
    have lp : 0 < xs.length := by cases xs with
      | nil => simp at hne
      | cons => simp
    obtain ⟨⟨a, b⟩, hr, er⟩ := pickR (l := xs) (j := q) q0 (by omega)
    simp [er, rg_1]
    rw [Kseq_]
    cases b with
    | none =>
      simp [optD_n]
      exact go c5 (1 + v) (some .non) hc5 (by omega) (by omega)
    | some b =>
      have := (hx _ hr).1
      have := (hx _ hr).2.2.1 b rfl
      simp [optD_s]
      refine ⟨fun z => ?_, fun z => go c5 (1 + v) (some (.int b)) hc5 (by omega) (by omega)⟩
      exact go c5 (b + near) (some (.int b)) hc5 (by omega) (by omega)
  · rintro env S ⟨c, xs, o3, o5, o6, o7, o8, rfl, hc, hx, hl, rfl⟩
    simp
    rw [Kseq_]; simp
    refine draw hc (by omega) (by simp at hl; omega) fun at_ c2 hc2 a0 a1 => ?_
    simp
    rw [Kseq_]; simp [slD]
    have hl6 : xs.length ≤ 6 := by simpa using hl
    obtain ⟨y1, e1, m1, l1⟩ := cut_map xs (some at_) none
    obtain ⟨y2, e2, m2, l2⟩ := cut_map xs none (some at_)
    have ln : (y1 ++ y2).length = xs.length := by
      have z1 := congrArg List.length e1
      have z2 := congrArg List.length e2
      obtain ⟨k, rfl⟩ := Int.eq_ofNat_of_zero_le a0
      have g1 : HT.sIx xs.length 0 (some (k : Int)) = min k xs.length := HT.sIx_nat _ _ _
      have g2 : HT.sIx xs.length xs.length (some (k : Int)) = min k xs.length := HT.sIx_nat _ _ _
      have g3 : ∀ d, HT.sIx xs.length d none = d := fun d => rfl
      simp only [cutD, List.length_map, List.length_take, List.length_drop, Int.ofNat_eq_natCast, g1, g2, g3] at z1 z2
      rw [List.length_append]
      omega
    rw [e1, e2, add_ll (by simp; omega), ← List.map_append]; simp
    have hy : ∀ y ∈ y1 ++ y2, okG y := fun y hy => by
      rcases List.mem_append.mp hy with z | z
      · exact hx y (m1 y z)
      · exact hx y (m2 y z)
    obtain ⟨ys, hys⟩ : ∃ ys, ys = y1 ++ y2 := ⟨_, rfl⟩
    rw [← List.map_append, ← hys]
    rw [← hys] at ln hy
    rw [Kseq_]; simp
    refine draw hc2 (by decide) (by decide) fun q c3 hc3 q0 q1 => ?_
    simp
    refine ⟨fun _ => ?_, fun _ => ?_⟩
    · rw [Kseq_]; simp [exitR, Cell.live]
      have := h ys.reverse c3 hc3 (fun y z => hy y (by simpa using z)) (by simp; omega)
      simpa using this
    · rw [Kseq_]; simp [exitR, Cell.live]
      exact h ys c3 hc3 hy (by omega)

theorem pow_20 : powD [.int 10, .int 20] = some (.d (.int 100000000000000000000)) := by
  simp [powD]
theorem integer {c : Cell} {P : WP RW} {E : WE} (hc : StOk c) (h : ∀ (i : Int) c', StOk c' → P (.d (.int i)) [c']) : Dn.T (F__law_integer.sem [.loc 0] [c]) P E := by
  refine T__law_integer ?_
  simp
  refine draw hc (by decide) (by decide) fun k c1 hc1 k0 k1 => ?_
  simp
  rw [Kseq_]; simp
  refine draw hc1 (by decide) (by decide) fun n c2 hc2 n0 n1 => ?_
  simp
  rw [Kseq_]; simp [pow_20, exitR]
  refine ⟨fun z => ?_, fun z => ?_⟩
  · first | exact h _ _ hc2 | (simp [pow_20, exitR]; exact h _ _ hc2)
  · rw [Kseq_]; simp [pow_20, exitR]
    refine ⟨fun z => ?_, fun z => ?_⟩
    · first | exact h _ _ hc2 | (simp [pow_20, exitR]; exact h _ _ hc2)
    · rw [Kseq_]; simp [exitR]
      exact h _ _ hc2
theorem mrg_okG {xs : List Rg} (hx : ∀ x ∈ xs, okG x) : ∀ x ∈ mrg xs, okG x := fun x h => by
  obtain ⟨⟨h1, h2⟩, h3⟩ := mrg_99 hx x h
  exact ⟨h1, h2, (okW_norm (Int.le_refl 0) (mrg_ok hx).1 x h).2, fun b e => (h3 b e).2⟩
theorem law_T (ns : List Int) : Dn.T (F_law.sem [.d (.scr ns)] []) (fun a _ => a = .d (.bl true)) noE := by
  have hz := sizeLine_eq
  refine T_law ?_
  simp
  refine state ?_
  simp
  rw [Kseq_]; simp
  refine law_list (st0 ns) fun xs c1 hc1 hx lx => ?_
  simp
  rw [Kseq_]; simp
  refine law_list hc1 fun ys c2 hc2 hy ly => ?_
  simp
  rw [Kseq_]; simp
  refine draw hc2 (by decide) (by decide) fun q c3 hc3 q0 q1 => ?_
  simp
  have g1 : ∀ x ∈ [((2 : Int), (some 4 : Option Int)), (7, none)], okG x := by
    intro x hx
    simp only [List.mem_cons, List.not_mem_nil, or_false] at hx
    rcases hx with rfl | rfl <;> exact okP_iff.mp rfl
  have g2 : ∀ x ∈ [((8 : Int), (some 8 : Option Int)), (1, some 2), (4, some 6)], okG x := by
    intro x hx
    simp only [List.mem_cons, List.not_mem_nil, or_false] at hx
    rcases hx with rfl | rfl | rfl <;> exact okP_iff.mp rfl
  have fin : ∀ (c : Cell) (ys : List Rg), StOk c → (∀ x ∈ ys, okG x) → ys.length < 20 → Kseq I_law_6.sem (EnD 0 (fun a _ => a = RW.d (.bl true)) noE) [some (.d (.scr ns)), some (.loc 0), some (.d (.lst (xs.map rgD))), some (.d (.lst (ys.map rgD))), some (.d (.int q)), none, none] [c] := by
    intro c ys hc hy ly
    rw [Kseq_]; simp
    refine integer hc fun i c4 hc4 => ?_
    simp
    rw [Kseq_]; simp
    refine integer hc4 fun j c5 hc5 => ?_
    simp
    rw [Kseq_]; simp
    refine sets hx hy (by omega) ly ?_
    simp
    refine sets hy hx ly (by omega) ?_
    simp
    rw [Kseq_]; simp
    refine sets (xs := [(2, some 4), (7, none)]) (ys := [(8, some 8), (1, some 2), (4, some 6)]) g1 g2 (by decide) (by decide) ?_
    simp
    rw [Kseq_]; simp
    refine sets (xs := [(8, some 8), (1, some 2), (4, some 6)]) (ys := [(2, some 4), (7, none)]) g2 g1 (by decide) (by decide) ?_
    simp [exitR]
  rw [Kseq_]; simp
  have fin3 : ∀ (ys : List Rg), (∀ x ∈ ys, okG x) → ys.length < 20 → Kseq I_law_5.sem (EnD 0 (fun a _ => a = RW.d (.bl true)) noE) [some (.d (.scr ns)), some (.loc 0), some (.d (.lst (xs.map rgD))), some (.d (.lst (ys.map rgD))), some (.d (.int q)), none, none] [c3] := by
    intro ys hy ly
    rw [Kseq_]; simp
    refine ⟨fun z => ?_, fun z => ?_⟩
    · refine law_merged hx (by omega) ?_
      simp
      have e := mrg_due hx
      have ho := mrg_okG hx
      have hl := len_mrg xs
      rw [e] at ho hl
      rw [← List.map_reverse]
      exact fin c3 (dueR xs).reverse hc3 (fun x h => ho x (by simpa using h)) (by simp; omega)
    · exact fin c3 ys hc3 hy ly
  refine ⟨fun z => ?_, fun z => ?_⟩
  · rw [add_ll (by simp [sizeLine_eq]; omega)]
    simp
    rw [← List.map_append]
    exact fin3 (ys ++ xs) (fun x h => (List.mem_append.mp h).elim (hy x) (hx x)) (by simp; omega)
  · exact fin3 ys hy (by omega)
theorem plain : ∀ ns : List Int, ns.length ≤ 63 → ∃ S', F_law.sem [.d (.scr ns)] [] = .ok (.d (.bl true)) S' := by
  intro ns _
  have h := law_T ns
  cases e : F_law.sem [.d (.scr ns)] [] with
  | ok a S =>
    rw [e] at h
    have h : a = .d (.bl true) := h
    subst h
    exact ⟨S, rfl⟩
  | err x S => rw [e] at h; exact h.elim
  | stuck => rw [e] at h; exact h.elim

end LawP

set_option maxRecDepth 100000

open PySem PySem.W PySem.Calls PyProof.Rows
theorem PySem.Challenge.cw_samealone_k12_whole_sizes_are_sets_holds : PySem.Challenge.rw_samealone_k12_whole_sizes_are_sets.Holds := by
  w_on; o_law
  refine HandSHeadRun.head_any (r := OpenLaw.row PySem.Challenge.rw_samealone_k12_whole_sizes_are_sets) (q := view (OpenLaw.row PySem.Challenge.rw_samealone_k12_whole_sizes_are_sets).prog [33]) (H := LawP.hk) (ob := LawP.ob) (M := 100000) (loose := LawP.loose) (d := HandSHeadRun.topDef (OpenLaw.row PySem.Challenge.rw_samealone_k12_whole_sizes_are_sets).prog 33) (kwd := []) LawP.ob_eq
    (by kernel_rfl) (fun s => by kernel_rfl) LawP.run (by kernel_rfl) (by kernel_rfl) (by kernel_rfl) (by rfl) (by first | assumption | decide +kernel) (by decide +kernel) ⟨rfl, rfl, rfl, rfl, rfl, by decide +kernel⟩ ?hw ?hc
  case hw => w_witness2
  case hc =>
    refine Dn.walk_dn (l := PySem.Challenge.rw_samealone_k12_whole_sizes_are_sets) (n := 63) (k := 10) (x := "_law_script") (g := LawP.F_law.sem) rfl (by decide) (by kernel_rfl) ⟨rfl, by decide, by decide⟩ LawP.plain ?F
    intro w mg fa h Y G hmg0
    obtain ⟨K, KX, c, e⟩ := Y
    have hmg : mg ("law" : PySem.Str) = some (.ref fa) := by
      have e : (HandSHeadRun.topDef (OpenLaw.row PySem.Challenge.rw_samealone_k12_whole_sizes_are_sets).prog 33).name = ("law" : PySem.Str) := by kernel_rfl
      rw [← e]
      exact hmg0
    obtain ⟨fd, hb, hF⟩ := LawP.ok_law (w := w) KX G c e hmg
    exact ⟨K, fd, Dn.caK K, KX, hb, fun base _ _ => hF base⟩

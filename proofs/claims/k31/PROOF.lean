import PyProof.Rows.All
import Wide.All
import OpenK.AllK
import Wide.FinOn
import HandS.SetFor
import HandS.SetTxt0
import HandS.SetTxtIn
import HandS.Set
import HandS.Strs
import HandS.List
import HandS.SortInts
import HandS.SortKw
import KE.DataMinMax
import KE.KSortTup
import HandS.Sort
import HandS.SortOrd
import KE.GoesMore
import KE.GoesZip
import KE.LtData
import HandS.Zip
import HandS.Dict
import HandS.DictTup
import HandS.DictEq
import KE.KDictSum
import KE.KDictCopyH
import KE.KDictDisplayH
import HandS.ExcOwn
import HandS.ForMost
import HandS.Defaults
import HandS.HeadEnd
import PyProof.ReprRoads
import KE.SortData
import HandS.IsInst
import HandS.Walk
import HandS.TupAny
import HandS.Wide
import HandS.Text
import HandS.TupLe
import HandS.HeadHook2
import HandS.HeadHook4
import HandS.Head2
import HandS.ExcCtx
import HandS.ExcIs
import HandS.HotCalls
import HandS.TryOnly
import HandS.ExcField
import HandS.Iter
import KE.GoesEnum
import HandS.Style
import HandS.NoneIn
import HandS.RaiseMore
import KE.KStateDown
import Lean
import HandS.Exc
import HandS.Head0
import HandS.Head1
import HandS.HeadHook1
import PySem.Challenge.RW_enoughsaid_k31_answers_made
set_option Elab.async false
set_option linter.all false
set_option maxRecDepth 100000
set_option maxHeartbeats 1000000
namespace EV
open PySem PySem.Spec PyProof.Rows L2 PySem.Froz
/-! sets of texts -/
def nubA : List Str → List Str → List Str
  | l, [] => l
  | l, x :: r => nubA (if x ∈ l then l else x :: l) r
def nub (xs : List Str) : List Str := nubA [] xs
structure TxR (P : Program) (w : World) (h : Heap) (a : Addr) (l : List Str) : Prop where
  ex : ∃ D : SD, h.get? a = some (sObj "set" D) ∧ TxOk P w D l ∧ Ris D.2.2.place.toList ∧ (w.params.followText "set-order" = true ∨ D.2.2.led = true)
section
variable {P : Program} {w : World} {A : Around} {E : Value → Shared → Prop} {s : Shared}
theorem TxR.at {h h' : Heap} {a : Addr} {l : List Str} (R : TxR P w h a l) (k : ∀ u, h.get? a = some u → h'.get? a = some u) : TxR P w h' a l := by
  obtain ⟨D, h1, h2⟩ := R.ex
  exact ⟨D, k _ h1, h2⟩
theorem addTx_ris {D : SD} {z : Int} {v : Value} (r : Ris D.2.2.place.toList) : Ris (addTx z v D).2.2.place.toList := by
  obtain ⟨es, ep, t⟩ := D
  have h1 := layNew_ris t es z v r
  unfold addTx tailTx
  dsimp only
  generalize layNew t es z v = Z at h1 ⊢
  obtain ⟨es1, t1, wd, gv⟩ := Z
  dsimp only at h1 ⊢
  split <;> split <;> first | exact relayAll_ris _ _ _ | exact h1
theorem addTx_led {D : SD} {z : Int} {v : Value} : (addTx z v D).2.2.led = D.2.2.led := by
  obtain ⟨es, ep, t⟩ := D
  have h1 := layNew_led t es z v
  unfold addTx tailTx
  dsimp only
  generalize layNew t es z v = Z at h1 ⊢
  obtain ⟨es1, t1, wd, gv⟩ := Z
  dsimp only at h1 ⊢
  split <;> split <;> first | exact (relayAll_led _ _ _).trans h1 | exact h1
theorem add_old {a : Addr} {D : SD} {l : List Str} {k : Str} {u : Tok} {Q : Bool → Shared → Prop} (ho : s.heap.get? a = some (sObj "set" D)) (F : TxOk P w D l) (hk : k ∈ l) (hb : l.length < scanBound) (q : Q false s) :
    wpAny (model P w) A (setAddHashed a (.str k u) (hashStr w k)) Q E s := by
  obtain ⟨es, ep, t⟩ := D
  obtain ⟨e0, he0, hq⟩ := (F.mem k).mp hk
  have hz : es.size = l.length := F.sz
  unfold setAddHashed setAddHashedIn
  refine wpAny_holding (wpAny_bind (wpAny_setState_of ho rfl F.fit ?_))
  dsimp only
  rw [byScan_of (x := Value.str k u) rfl (by rw [hz]; exact hb) F.el]
  simp only [↓reduceIte]
  unfold setAddByScan
  refine wpAny_bind ?_
  refine wpAny_bind (wpAny_rule ?_)
  refine wpAny_bind (wpAny_setScan_of (knd := strKind P w) (k := k) (is_str k u) ho rfl F.fit F.el ?_)
  cases hfi : List.findIdx? (fun e => (strKind P w).is k e.2) es.toList with
  | some j =>
    dsimp only
    exact wpAny_pure (wpAny_pure q)
  | none =>
    have := List.findIdx?_eq_none_iff.mp hfi e0 he0
    rw [hq] at this
    cases this
/-- a text is put in -/
theorem txr_add {a : Addr} {l : List Str} {k : Str} {u : Tok} {Q : Bool → Shared → Prop} (R : TxR P w s.heap a l) (hb : l.length + 1 < scanBound)
    (q : ∀ b h', (∀ c, c ≠ a → h'.get? c = s.heap.get? c) → TxR P w h' a (if k ∈ l then l else k :: l) → Q b { s with heap := h' }) : wpAny (model P w) A (setAddHashed a (.str k u) (hashStr w k)) Q E s := by
  obtain ⟨D, ho, F, r, hl⟩ := id R.ex
  by_cases hk : k ∈ l
  · refine add_old ho F hk (by omega) ?_
    have z := q false s.heap (fun _ _ => rfl)
    rw [if_pos hk] at z
    exact z R
  · refine add_x ho F hk hb ?_
    have z := q true (s.heap.update a fun _ => sObj "set" (addTx (hashStr w k) (.str k u) D)) (fun c hc => Heap.get?_update_other s.heap _ (Ne.symm hc))
    rw [if_neg hk] at z
    exact z ⟨_, get_upd _ ho rfl, add_ok u F, addTx_ris r, hl.imp id fun e => by rw [addTx_led]; exact e⟩
theorem tx_loop {I : Addr} {fp wr : List Addr} {G : Array GenState → Array GenState → Prop} {n : Nat} {Pv : Nat → Value → Prop} {St : Nat → Shared → Prop} {R : Result → Shared → Prop}
    (W : WalksS P w A.in1 I fp wr G n Pv St) (S : Addr) (hSf : S ∉ fp) (xs : List Str) (hn : n = xs.length) (hb : xs.length + 1 < scanBound) (hval : ∀ i v, Pv i v → ∃ k t, xs[i]? = some k ∧ v = .str k t) (L : List Str) :
    ∀ (m i : Nat) (s : Shared), n - i = m → i ≤ n → St i s → (∃ l, l.length ≤ i ∧ nubA l (xs.drop i) = L ∧ TxR P w s.heap S l) →
      (∀ s', Moved (S :: wr) G s s' → TxR P w s'.heap S L → R (.ok (.ret .none)) s') → codeAny (model P w) A (.builtin "set.update.loop" ⟨[.ref S, .ref I], []⟩) R s := by
  have notw : S ∉ wr := fun z => hSf (W.sub _ z)
  have into : ∀ b ∈ wr, b ∈ S :: wr := fun b z => .tail _ z
  intro m
  induction m with
  | zero =>
    intro i s hm hi hst ⟨l, hl, hL, hS⟩ hR
    obtain rfl : i = n := by omega
    rw [List.drop_of_length_le (by omega)] at hL
    obtain rfl : l = L := hL
    refine codeAny_builtin PyProof.Rows.F.entry_set_update_loop ?_
    rw [Around.under_plainId PyProof.Rows.F.plain_set_update_loop ⟨[.ref S, .ref I], []⟩]
    show wpAny _ A.in1 (PySem.pyNext (.ref I) >>= _) _ _ s
    refine wpAny_bind (W.done s _ _ hst fun s2 mv => ?_)
    show wpAny _ A.in1 (PySem.ret Value.none) _ _ s2
    exact wpAny_pure (hR s2 (mv.mono into) (hS.at fun u e => mv.heap S u notw e))
  | succ m ih =>
    intro i s hm hi hst ⟨l, hl, hL, hS⟩ hR
    have lt : i < n := by omega
    refine codeAny_builtin PyProof.Rows.F.entry_set_update_loop ?_
    rw [Around.under_plainId PyProof.Rows.F.plain_set_update_loop ⟨[.ref S, .ref I], []⟩]
    show wpAny _ A.in1 (PySem.pyNext (.ref I) >>= _) _ _ s
    refine wpAny_bind (W.item i s _ _ lt hst fun v s2 hP hst2 mv => ?_)
    obtain ⟨z, t, hz, rfl⟩ := hval i v hP
    have hS2 : TxR P w s2.heap S l := hS.at fun u e => mv.heap S u notw e
    have hd : xs.drop i = z :: xs.drop (i + 1) := by
      obtain ⟨h1, h2⟩ := List.getElem?_eq_some_iff.mp hz
      rw [List.drop_eq_getElem_cons h1, h2]
    rw [hd] at hL
    show wpAny _ A.in1 (PySem.holding [Value.str z t] (setAdd S (.str z t)) >>= _) _ _ s2
    refine wpAny_bind (wpAny_holding ?_)
    unfold setAdd
    refine wpAny_holding ?_
    refine wpAny_bind ((PySem.strKind P w).pyHash (k := z) (is_str z t) ?_)
    refine txr_add (s := { s2 with toks := s2.toks + 1 }) hS2 (by omega) fun b h3 sb hS3 => ?_
    refine wpAny_pure ⟨plainId_quiet PyProof.Rows.F.plain_set_update_loop ⟨[.ref S, .ref I], []⟩, ih (i + 1) _ (by omega) lt (W.frame _ s2 _ _ hst2 (Nat.le_succ _) fun c hc o e => ?_) ⟨_, ?_, hL, hS3⟩ fun s4 mv4 hS4 => ?_⟩
    · rw [sb c fun z : c = S => hSf (z ▸ hc)]; exact e
    · split
      · omega
      · rw [List.length_cons]; omega
    · refine hR s4 (Moved.trans W.gtrans ((mv.mono into).then_heap (Nat.le_succ _) fun c o hc e => ?_) mv4) hS4
      rw [sb c fun z : c = S => hc (z ▸ .head _)]; exact e
set_option maxHeartbeats 3200000 in
theorem new_set {l : Addr} {items : Array Value} (xs : List Str) {Q : Value → Shared → Prop} (hh : A.handled = none) (hl : s.heap.IsList l items) (hit : StrsAre items.toList xs) (hb : xs.length + 1 < scanBound)
    (q : ∀ (h' : Heap) (tk : Nat), TxR P w h' s.heap.objs.size (nub xs) → (∀ b o, s.heap.get? b = some o → h'.get? b = some o) → Q (.ref s.heap.objs.size) { s with heap := h', toks := tk }) :
    wpAny (model P w) A (call (.type "set") [.ref l]) Q E s := by
  have hisz : items.size = xs.length := by rw [← StrsAre.len_eq hit, Array.length_toList]
  obtain ⟨c, tl, hmro⟩ := PySem.F.called_set.mro
  have a1 := PySem.F.called_set.made
  have a2 := PySem.F.called_set.sub
  refine wpAny_call (codeAny_of_tree ?_)
  show wpAny _ _ (PySem.callAny (.type "set") _) _ _ _
  refine wpAny_pure ⟨PySem.Code.quiet_builtin _ (by decide +kernel), codeAny_builtin PySem.F.entry_type_call ?_⟩
  rw [PySem.Around.under_plain (weight_type_call_type "set" [.ref l] []) rfl]
  have a3 := PySem.F.called_set.notType
  have a4 := PySem.F.called_set.canCreate
  have a5 := PySem.F.typeCall_set_1 (.ref l)
  repeat (any_goals (first | assumption | wp_step))
  refine codeAny_mono (L2.code_set_led1 (.ref l) (E := E) (Q₁ := fun obj s₁ => obj = .ref s.heap.objs.size ∧ s₁ = { s with heap := s.heap.push { cls := .type "set", dict := none, data := .set #[] 0 (.fresh 0 0 (!w.params.followText "set-order")) } }) ⟨rfl, rfl⟩) fun r s1 hr => ?_
  cases r with
  | error e => exact hr
  | ok fl =>
    cases fl with
    | ret obj =>
      obtain ⟨rfl, rfl⟩ := hr
      have hS : (s.heap.push { cls := .type "set", dict := none, data := .set #[] 0 (.fresh 0 0 (!w.params.followText "set-order")) }).get? s.heap.objs.size = some { cls := .type "set", dict := none, data := .set #[] 0 (.fresh 0 0 (!w.params.followText "set-order")) } := Heap.get?_push_size _ rfl
      have hT : Shared.TypeIs { s with heap := s.heap.push { cls := .type "set", dict := none, data := .set #[] 0 (.fresh 0 0 (!w.params.followText "set-order")) } } (.ref s.heap.objs.size) "set" := ⟨_, hS, rfl⟩
      have b1 := PySem.F.called_set.init.lookup
      have b2 := PySem.F.called_set.init.bind (.ref s.heap.objs.size)
      repeat (any_goals (first | assumption | wp_step))
      refine codeAny_mono (codeAny_call_builtin (R := wants (fun r s2 => r = .none ∧ ∃ h' tk, s2 = { s with heap := h', toks := tk } ∧ TxR P w h' s.heap.objs.size (nub xs) ∧
          (∀ b o, s.heap.get? b = some o → h'.get? b = some o)) E) PySem.F.called_set.init.plain PySem.F.entry_set_init (check_set_init_1 hT ?_)) fun r2 s2 hr2 => ?_
      · obtain ⟨ol, hol, hcl, nl, hdl⟩ := hl
        obtain ⟨ocls, odict, odata, oslots⟩ := ol
        simp only at hcl hdl
        subst hcl
        subst hdl
        have hol2 : (s.heap.push { cls := .type "set", dict := none, data := .set #[] 0 (.fresh 0 0 (!w.params.followText "set-order")) }).get? l = some { cls := .type "list", dict := odict, data := .seq items nl, slots := oslots } := Heap.get?_push_of_some _ hol
        have d1 := PySem.F.sub_list_set
        have d2 := PySem.F.sub_list_frozenset
        have d3 : (Value.type "list" == Value.type "dict") = false := by decide
        have hl1 : (s.heap.push { cls := .type "set", dict := none, data := .set #[] 0 (.fresh 0 0 (!w.params.followText "set-order")) }).IsList l items := ⟨_, hol2, rfl, nl, rfl⟩
        unfold Builtin.«set.__init__» noKeywords Builtin.Frozenset.updateFrom
        generalize hPI : PySem.pyIter = PI
        wp_walk
        subst hPI
        refine wpAny_pyIter_list hl1 ?_
        refine wpAny_bind (wpAny_runValue ?_)
        have hlS : l < s.heap.objs.size := Heap.lt_size hol
        have hh3 : A.in1.in1.in1.handled = none := by simp [hh]
        have hz1 : (s.heap.push { cls := .type "set", dict := none, data := .set #[] 0 (.fresh 0 0 (!w.params.followText "set-order")) }).objs.size = s.heap.objs.size + 1 := Heap.size_push ..
        have hneI : l ≠ (s.heap.push { cls := .type "set", dict := none, data := .set #[] 0 (.fresh 0 0 (!w.params.followText "set-order")) }).objs.size := by rw [hz1]; exact Nat.ne_of_lt (Nat.lt_succ_of_lt hlS)
        have hSf : s.heap.objs.size ∉ [(s.heap.push { cls := .type "set", dict := none, data := .set #[] 0 (.fresh 0 0 (!w.params.followText "set-order")) }).objs.size, l] := by
          intro z
          rcases List.mem_cons.mp z with z | z
          · rw [hz1] at z; exact absurd z (Nat.ne_of_lt (Nat.lt_succ_self _))
          · exact absurd (List.mem_singleton.mp z) (Nat.ne_of_gt hlS)
        have hval : ∀ (i : Nat) (v : Value), items[i]? = some v → ∃ k t, xs[i]? = some k ∧ v = .str k t := fun i v hv => by
          have hi : i < xs.length := by rw [← hisz]; exact (Array.getElem?_eq_some_iff.mp hv).1
          obtain ⟨t, e⟩ := SS.strs_at hit i v (by rw [Array.getElem?_toList]; exact hv)
          refine ⟨xs[i], t, List.getElem?_eq_getElem hi, ?_⟩
          rw [e, List.getD_eq_getElem?_getD, List.getElem?_eq_getElem hi]
          rfl
        refine tx_loop (Walks.list hh3 _ l hneI items).toS s.heap.objs.size hSf xs hisz hb hval (nub xs) (items.size - 0) 0 _ (by omega) (Nat.zero_le _) ⟨⟨_, Heap.get?_push_size _ rfl, rfl, rfl⟩, hl1.push _⟩ ?c1 ?c2
        case c1 =>
          have hget : ((s.heap.push { cls := .type "set", dict := none, data := .set #[] 0 (.fresh 0 0 (!w.params.followText "set-order")) }).push { cls := .type "list_iterator", data := .fields #[.ref l, .int 0 0] }).get? s.heap.objs.size = some { cls := .type "set", dict := none, data := .set #[] 0 (.fresh 0 0 (!w.params.followText "set-order")) } := Heap.get?_push_of_some _ hS
          refine ⟨[], Nat.le_refl 0, rfl, (#[], 0, .fresh 0 0 (!w.params.followText "set-order")), hget, TxOk.nil (by rfl), List.Pairwise.nil, ?_⟩
          show _ ∨ (!w.params.followText "set-order") = true
          cases w.params.followText "set-order"
          · exact .inr rfl
          · exact .inl rfl
        case c2 =>
          intro s3 mv hS3
          obtain ⟨h3, g3, d3', tk3, os3⟩ := s3
          obtain rfl : g3 = s.gens := mv.gens
          obtain rfl : d3' = s.drawn := mv.drawn
          obtain rfl : os3 = s.os := mv.os
          show wpAny _ _ _ _ _ _
          refine wpAny_pure ?_
          show wpAny _ _ (PySem.ret Value.none) _ _ _
          refine wpAny_pure ⟨rfl, h3, tk3, rfl, hS3, fun b o e => ?_⟩
          have hb0 : b < s.heap.objs.size := Heap.lt_size e
          refine mv.heap b o (fun z => ?_) (Heap.get?_push_of_some _ (Heap.get?_push_of_some _ e))
          rcases List.mem_cons.mp z with z | z
          · exact absurd z (Nat.ne_of_lt hb0)
          · have z := List.mem_singleton.mp z
            rw [hz1] at z
            exact absurd z (Nat.ne_of_lt (Nat.lt_succ_of_lt hb0))
      · cases r2 with
        | error e => exact hr2
        | ok fl2 =>
          cases fl2 with
          | ret r =>
            obtain ⟨rfl, h', tk, rfl, hS', hk'⟩ := hr2
            repeat (any_goals (first | assumption | wp_step))
            exact q _ _ hS' hk'
          | _ => exact hr2.elim
    | _ => exact hr.elim
set_option maxHeartbeats 3200000 in
theorem new_setI {l : Addr} {items : Array Value} (ns : List Int) {Q : Value → Shared → Prop} (hh : A.handled = none) (hl : s.heap.IsList l items) (hit : IntsAre items.toList ns) (hb : ns.length + 1 < scanBound)
    (q : ∀ (h' : Heap) (tk c : Nat), SetR w h' s.heap.objs.size (fun j => decide (j ∈ ns)) c → (∀ b o, s.heap.get? b = some o → h'.get? b = some o) → Q (.ref s.heap.objs.size) { s with heap := h', toks := tk }) :
    wpAny (model P w) A (call (.type "set") [.ref l]) Q E s := by
  have hisz : items.size = ns.length := by rw [← IntsAre.length hit, Array.length_toList]
  obtain ⟨c, tl, hmro⟩ := PySem.F.called_set.mro
  have a1 := PySem.F.called_set.made
  have a2 := PySem.F.called_set.sub
  refine wpAny_call (codeAny_of_tree ?_)
  show wpAny _ _ (PySem.callAny (.type "set") _) _ _ _
  refine wpAny_pure ⟨PySem.Code.quiet_builtin _ (by decide +kernel), codeAny_builtin PySem.F.entry_type_call ?_⟩
  rw [PySem.Around.under_plain (weight_type_call_type "set" [.ref l] []) rfl]
  have a3 := PySem.F.called_set.notType
  have a4 := PySem.F.called_set.canCreate
  have a5 := PySem.F.typeCall_set_1 (.ref l)
  repeat (any_goals (first | assumption | wp_step))
  refine codeAny_mono (L2.code_set_led1 (.ref l) (E := E) (Q₁ := fun obj s₁ => obj = .ref s.heap.objs.size ∧ s₁ = { s with heap := s.heap.push { cls := .type "set", dict := none, data := .set #[] 0 (.fresh 0 0 (!w.params.followText "set-order")) } }) ⟨rfl, rfl⟩) fun r s1 hr => ?_
  cases r with
  | error e => exact hr
  | ok fl =>
    cases fl with
    | ret obj =>
      obtain ⟨rfl, rfl⟩ := hr
      have hS : (s.heap.push { cls := .type "set", dict := none, data := .set #[] 0 (.fresh 0 0 (!w.params.followText "set-order")) }).get? s.heap.objs.size = some { cls := .type "set", dict := none, data := .set #[] 0 (.fresh 0 0 (!w.params.followText "set-order")) } := Heap.get?_push_size _ rfl
      have hT : Shared.TypeIs { s with heap := s.heap.push { cls := .type "set", dict := none, data := .set #[] 0 (.fresh 0 0 (!w.params.followText "set-order")) } } (.ref s.heap.objs.size) "set" := ⟨_, hS, rfl⟩
      have b1 := PySem.F.called_set.init.lookup
      have b2 := PySem.F.called_set.init.bind (.ref s.heap.objs.size)
      repeat (any_goals (first | assumption | wp_step))
      refine codeAny_mono (codeAny_call_builtin (R := wants (fun r s2 => r = .none ∧ ∃ h' tk c, s2 = { s with heap := h', toks := tk } ∧ SetR w h' s.heap.objs.size (fun j => decide (j ∈ ns)) c ∧
          (∀ b o, s.heap.get? b = some o → h'.get? b = some o)) E) PySem.F.called_set.init.plain PySem.F.entry_set_init (check_set_init_1 hT ?_)) fun r2 s2 hr2 => ?_
      · obtain ⟨ol, hol, hcl, nl, hdl⟩ := hl
        obtain ⟨ocls, odict, odata, oslots⟩ := ol
        simp only at hcl hdl
        subst hcl
        subst hdl
        have hol2 : (s.heap.push { cls := .type "set", dict := none, data := .set #[] 0 (.fresh 0 0 (!w.params.followText "set-order")) }).get? l = some { cls := .type "list", dict := odict, data := .seq items nl, slots := oslots } := Heap.get?_push_of_some _ hol
        have d1 := PySem.F.sub_list_set
        have d2 := PySem.F.sub_list_frozenset
        have d3 : (Value.type "list" == Value.type "dict") = false := by decide
        have hl1 : (s.heap.push { cls := .type "set", dict := none, data := .set #[] 0 (.fresh 0 0 (!w.params.followText "set-order")) }).IsList l items := ⟨_, hol2, rfl, nl, rfl⟩
        unfold Builtin.«set.__init__» noKeywords Builtin.Frozenset.updateFrom
        generalize hPI : PySem.pyIter = PI
        wp_walk
        subst hPI
        refine wpAny_pyIter_list hl1 ?_
        refine wpAny_bind (wpAny_runValue ?_)
        have hlS : l < s.heap.objs.size := Heap.lt_size hol
        have hh3 : A.in1.in1.in1.handled = none := by simp [hh]
        have hz1 : (s.heap.push { cls := .type "set", dict := none, data := .set #[] 0 (.fresh 0 0 (!w.params.followText "set-order")) }).objs.size = s.heap.objs.size + 1 := Heap.size_push ..
        have hneI : l ≠ (s.heap.push { cls := .type "set", dict := none, data := .set #[] 0 (.fresh 0 0 (!w.params.followText "set-order")) }).objs.size := by rw [hz1]; exact Nat.ne_of_lt (Nat.lt_succ_of_lt hlS)
        have hSf : s.heap.objs.size ∉ [(s.heap.push { cls := .type "set", dict := none, data := .set #[] 0 (.fresh 0 0 (!w.params.followText "set-order")) }).objs.size, l] := by
          intro z
          rcases List.mem_cons.mp z with z | z
          · rw [hz1] at z; exact absurd z (Nat.ne_of_lt (Nat.lt_succ_self _))
          · exact absurd (List.mem_singleton.mp z) (Nat.ne_of_gt hlS)
        have hval : ∀ (i : Nat) (v : Value), items[i]? = some v → ∃ k t, ns[i]? = some k ∧ v = .int k t := fun i v hv => by
          have hi : i < ns.length := by rw [← hisz]; exact (Array.getElem?_eq_some_iff.mp hv).1
          obtain ⟨t, e⟩ := PyProof.Rows.IntsAre.int_at hit i v (by rw [Array.getElem?_toList]; exact hv)
          refine ⟨ns[i], t, List.getElem?_eq_getElem hi, ?_⟩
          rw [e, List.getD_eq_getElem?_getD, List.getElem?_eq_getElem hi]
          rfl
        refine L2.set_update_ints (Walks.list hh3 _ l hneI items).toS s.heap.objs.size hSf ns hisz hb hval (items.size - 0) 0 _ (by omega) (Nat.zero_le _) ⟨⟨_, Heap.get?_push_size _ rfl, rfl, rfl⟩, hl1.push _⟩ ?c1 ?c2
        case c1 =>
          have hget : ((s.heap.push { cls := .type "set", dict := none, data := .set #[] 0 (.fresh 0 0 (!w.params.followText "set-order")) }).push { cls := .type "list_iterator", data := .fields #[.ref l, .int 0 0] }).get? s.heap.objs.size = some { cls := .type "set", dict := none, data := .set #[] 0 (.fresh 0 0 (!w.params.followText "set-order")) } := Heap.get?_push_of_some _ hS
          exact ⟨0, Nat.le_refl 0, L2.setR_new_at hget⟩
        case c2 =>
          intro s3 c mv _ hS3
          obtain ⟨h3, g3, d3', tk3, os3⟩ := s3
          obtain rfl : g3 = s.gens := mv.gens
          obtain rfl : d3' = s.drawn := mv.drawn
          obtain rfl : os3 = s.os := mv.os
          show wpAny _ _ _ _ _ _
          refine wpAny_pure ?_
          show wpAny _ _ (PySem.ret Value.none) _ _ _
          refine wpAny_pure ⟨rfl, h3, tk3, c, rfl, hS3, fun b o e => ?_⟩
          have hb0 : b < s.heap.objs.size := Heap.lt_size e
          refine mv.heap b o (fun z => ?_) (Heap.get?_push_of_some _ (Heap.get?_push_of_some _ e))
          rcases List.mem_cons.mp z with z | z
          · exact absurd z (Nat.ne_of_lt hb0)
          · have z := List.mem_singleton.mp z
            rw [hz1] at z
            exact absurd z (Nat.ne_of_lt (Nat.lt_succ_of_lt hb0))
      · cases r2 with
        | error e => exact hr2
        | ok fl2 =>
          cases fl2 with
          | ret r =>
            obtain ⟨rfl, h', tk, c, rfl, hS', hk'⟩ := hr2
            repeat (any_goals (first | assumption | wp_step))
            exact q _ _ _ hS' hk'
          | _ => exact hr2.elim
    | _ => exact hr.elim
def nubI : List Int → List Int
  | [] => []
  | n :: r => if n ∈ nubI r then nubI r else n :: nubI r
theorem nubI_mem {k : Int} : ∀ {l : List Int}, k ∈ nubI l ↔ k ∈ l
  | [] => Iff.rfl
  | n :: r => by
    have ih := nubI_mem (k := k) (l := r)
    unfold nubI
    by_cases h : n ∈ nubI r
    · rw [if_pos h, ih, List.mem_cons]
      exact ⟨.inr, fun z => z.elim (fun e => e ▸ nubI_mem.mp h) id⟩
    · rw [if_neg h, List.mem_cons, List.mem_cons, ih]
theorem nubI_nd : ∀ {l : List Int}, (nubI l).Nodup
  | [] => List.nodup_nil
  | n :: r => by
    unfold nubI
    by_cases h : n ∈ nubI r
    · rw [if_pos h]; exact nubI_nd
    · rw [if_neg h]; exact List.nodup_cons.mpr ⟨h, nubI_nd⟩
theorem setR_len {h : Heap} {a : Addr} {ns : List Int} {c : Nat} (R : SetR w h a (fun j => decide (j ∈ ns)) c) : c = (nubI ns).length := by
  obtain ⟨o, es, ep, t, _, _, _, _, nd, hm, _, _, hc, _, _⟩ := R
  have p : (es.toList.map L2.keyOf).Perm (nubI ns) := (List.perm_ext_iff_of_nodup nd nubI_nd).mpr fun k => by
    rw [nubI_mem, ← hm k, decide_eq_true_eq]
  have := p.length_eq
  rw [List.length_map, Array.length_toList] at this
  omega
end
end EV

set_option Elab.async false
set_option linter.all false
set_option maxRecDepth 100000
set_option maxHeartbeats 1000000
namespace EV
open PySem PySem.Spec PyProof.Rows L2 PySem.Froz
/-! sorting, in plain lists -/
section
variable {α : Type}
def insB (lt : α → α → Bool) (x : α) : List α → List α
  | [] => [x]
  | y :: r => if lt y x = true then y :: insB lt x r else x :: y :: r
def srtB (lt : α → α → Bool) : List α → List α
  | [] => []
  | x :: r => insB lt x (srtB lt r)
structure LinB (lt : α → α → Bool) : Prop where
  tr : ∀ a b c, lt b a = false → lt c b = false → lt c a = false
  anti : ∀ a b, lt a b = false → lt b a = false → a = b
  tot : ∀ a b, lt a b = true → lt b a = false
variable {lt : α → α → Bool}
theorem insB_perm (x : α) : ∀ l, (insB lt x l).Perm (x :: l)
  | [] => .refl _
  | y :: r => by
    unfold insB
    split
    · exact ((insB_perm x r).cons y).trans (List.Perm.swap x y r)
    · exact .refl _
theorem srtB_perm : ∀ l : List α, (srtB lt l).Perm l
  | [] => .refl _
  | x :: r => (insB_perm x (srtB lt r)).trans ((srtB_perm r).cons x)
def OrdL (lt : α → α → Bool) (l : List α) : Prop := l.Pairwise fun a b => lt b a = false
theorem insB_ord (o : LinB lt) (x : α) : ∀ l, OrdL lt l → OrdL lt (insB lt x l)
  | [], _ => List.pairwise_singleton _ _
  | y :: r, h => by
    obtain ⟨h1, h2⟩ := List.pairwise_cons.mp h
    unfold insB
    split
    · rename_i c
      refine List.pairwise_cons.mpr ⟨fun z hz => ?_, insB_ord o x r h2⟩
      rcases List.mem_cons.mp ((insB_perm x r).mem_iff.mp hz) with e | e
      · subst e; exact o.tot _ _ c
      · exact h1 z e
    · rename_i c
      have c : lt y x = false := by simpa using c
      refine List.pairwise_cons.mpr ⟨fun z hz => ?_, h⟩
      rcases List.mem_cons.mp hz with e | e
      · subst e; exact c
      · exact o.tr _ _ _ c (h1 z e)
theorem srtB_ord (o : LinB lt) : ∀ l, OrdL lt (srtB lt l)
  | [] => List.Pairwise.nil
  | x :: r => insB_ord o x _ (srtB_ord o r)
theorem ord_unique (o : LinB lt) : ∀ {l m : List α}, l.Perm m → OrdL lt l → OrdL lt m → l = m
  | [], m, p, _, _ => (List.nil_perm.mp p).symm
  | a :: l, [], p, _, _ => absurd p.length_eq (by simp)
  | a :: l, b :: m, p, h1, h2 => by
    obtain ⟨u1, u2⟩ := List.pairwise_cons.mp h1
    obtain ⟨w1, w2⟩ := List.pairwise_cons.mp h2
    have refl : ∀ z, lt z z = false := fun z => by
      cases q : lt z z with
      | false => rfl
      | true => rw [o.tot z z q] at q; cases q
    have e : a = b := by
      refine o.anti _ _ ?_ ?_
      · rcases List.mem_cons.mp (p.mem_iff.mp (List.mem_cons_self (a := a))) with e | e
        · rw [e]; exact refl b
        · exact w1 a e
      · rcases List.mem_cons.mp (p.mem_iff.mpr (List.mem_cons_self (a := b))) with e | e
        · rw [e]; exact refl a
        · exact u1 b e
    subst e
    rw [ord_unique o ((List.perm_cons a).mp p) u2 w2]
theorem srt_is (o : LinB lt) {l m : List α} (p : m.Perm l) (h : OrdL lt m) : m = srtB lt l := ord_unique o (p.trans (srtB_perm l).symm) h (srtB_ord o l)
end
def ltS (a b : Str) : Bool := ltCps a.cps.toList b.cps.toList
def ltI (a b : Int) : Bool := decide (a < b)
def ltBl (a b : Bool) : Bool := !a && b
theorem lin_I : LinB ltI := ⟨fun a b c h1 h2 => by simp only [ltI, decide_eq_false_iff_not] at *; omega, fun a b h1 h2 => by simp only [ltI, decide_eq_false_iff_not] at *; omega, fun a b h => by simp only [ltI, decide_eq_false_iff_not, decide_eq_true_eq] at *; omega⟩
theorem lin_B : LinB ltBl := ⟨by decide, by decide, by decide⟩
theorem lin_S : LinB ltS := by
  refine ⟨fun a b c h1 h2 => ?_, fun a b h1 h2 => ?_, fun a b h => ?_⟩
  · simp only [ltS, ltCps_eq, decide_eq_false_iff_not] at *
    exact List.le_trans (α := Nat) h1 h2
  · simp only [ltS, ltCps_eq, decide_eq_false_iff_not] at *
    have : a.cps.toList = b.cps.toList := List.le_antisymm (α := Nat) h2 h1
    cases a; cases b
    simp only at this
    rw [Array.toList_inj] at this
    rw [this]
  · simp only [ltS, ltCps_eq, decide_eq_false_iff_not, decide_eq_true_eq] at *
    exact fun q => List.lt_asymm (α := Nat) h q
theorem ord_rising : ∀ {l : List Str} {p : Str}, risingS p l = true → OrdL ltS (p :: l)
  | [], p, _ => List.pairwise_singleton _ _
  | x :: r, p, h => by
    have h : (!ltCps x.cps.toList p.cps.toList && risingS x r) = true := h
    rw [Bool.and_eq_true] at h
    have ih := ord_rising h.2
    have c : ltS x p = false := by unfold ltS; simpa using h.1
    refine List.pairwise_cons.mpr ⟨fun z hz => ?_, ih⟩
    rcases List.mem_cons.mp hz with e | e
    · subst e; exact c
    · exact lin_S.tr _ _ _ c ((List.pairwise_cons.mp ih).1 z e)
theorem ord_sortedS : ∀ {l : List Str}, sortedS l = true → OrdL ltS l
  | [], _ => List.Pairwise.nil
  | _ :: _, h => ord_rising h
theorem ord_ints {l : List Int} (h : l.Pairwise (· ≤ ·)) : OrdL ltI l := h.imp fun {a b} q => by simp only [ltI, decide_eq_false_iff_not]; omega
/-! each once -/
theorem nubA_mem (x : Str) : ∀ (xs l : List Str), x ∈ nubA l xs ↔ x ∈ l ∨ x ∈ xs
  | [], l => by simp [nubA]
  | y :: r, l => by
    unfold nubA
    rw [nubA_mem x r]
    split
    · rename_i h
      constructor
      · rintro (h1 | h1)
        · exact .inl h1
        · exact .inr (.tail _ h1)
      · rintro (h1 | h1)
        · exact .inl h1
        · rcases List.mem_cons.mp h1 with e | e
          · subst e; exact .inl h
          · exact .inr e
    · rw [List.mem_cons, List.mem_cons]
      constructor
      · rintro ((h1 | h1) | h1)
        · exact .inr (.inl h1)
        · exact .inl h1
        · exact .inr (.inr h1)
      · rintro (h1 | h1 | h1)
        · exact .inl (.inr h1)
        · exact .inl (.inl h1)
        · exact .inr h1
theorem nubA_nd : ∀ (xs l : List Str), l.Nodup → (nubA l xs).Nodup
  | [], l, h => h
  | y :: r, l, h => by
    unfold nubA
    refine nubA_nd r _ ?_
    split
    · exact h
    · rename_i q
      exact List.nodup_cons.mpr ⟨q, h⟩
theorem nub_mem {x : Str} {xs : List Str} : x ∈ nub xs ↔ x ∈ xs := by unfold nub; rw [nubA_mem]; simp
theorem nub_nd (xs : List Str) : (nub xs).Nodup := nubA_nd xs [] List.nodup_nil
theorem nubA_len : ∀ (xs l : List Str), (nubA l xs).length ≤ l.length + xs.length
  | [], l => Nat.le_add_right _ _
  | y :: r, l => by
    unfold nubA
    refine Nat.le_trans (nubA_len r _) ?_
    rw [List.length_cons]
    split
    · omega
    · rw [List.length_cons]; omega
theorem nub_len (xs : List Str) : (nub xs).length ≤ xs.length := by have := nubA_len xs []; simpa [nub] using this
theorem perm_of_sub : ∀ {l ks : List Str}, l.Nodup → (∀ x ∈ l, x ∈ ks) → ks.length = l.length → ks.Perm l
  | [], ks, _, _, hl => by rw [List.length_eq_zero_iff.mp hl]
  | x :: l, ks, nd, hs, hl => by
    obtain ⟨n1, n2⟩ := List.nodup_cons.mp nd
    have hx := hs x (.head _)
    refine (List.perm_cons_erase hx).trans (List.Perm.cons x (perm_of_sub n2 (fun y hy => ?_) ?_))
    · exact (List.mem_erase_of_ne (a := y) (b := x) fun e => n1 (e ▸ hy)).mpr (hs y (.tail _ hy))
    · rw [List.length_erase_of_mem hx, hl]; rfl
/-! the set of texts by name -/
def TxO (P : Program) (w : World) (a : Addr) (l : List Str) : HO := .ext fun h => TxR P w h a l
theorem txO_new {w : World} {P : Program} {H : Hp} {h : Heap} {a : Addr} {l : List Str} (R : TxR P w h a l) : ObjOk P w H h a (TxO P w a l) := by
  obtain ⟨D, ho, _⟩ := id R.ex
  exact ⟨R, ⟨_, ho⟩, fun h1 h2 p k => TxR.at p k⟩
section
variable {X : Cx}
def rSetTx (K : PySem.W.Frag) (P : Program) (w : World) : List V → Hp → VK → Prop := fun vs H Q => ∃ (a : Addr) (xs : List Str), vs = [V.ref a] ∧ SqL K H a (xs.map V.str) ∧ xs.length + 1 < scanBound ∧ ∀ p, H p = none → Q (.ref p) (upd H p (TxO P w p (nub xs)))
theorem cr_setTx (hc : X.calm = true) : CallR X (.type "set") (rSetTx X.K X.prog X.w) := by
  intro pins s σ H vs us Q I r h
  obtain ⟨a, xs, rfl, hs, hb, q⟩ := h
  obtain ⟨its, rv, pl, hz⟩ := I.list hs
  rw [Vals.ref1 r]
  refine new_set xs (I.ok.hd hc) pl.isList (by simpa using rv.strs) hb fun h' tk R k => ?_
  exact ⟨.ref _, upd H s.heap.objs.size (TxO X.prog X.w s.heap.objs.size (nub xs)), I.laid (t' := tk) k (Nat.le_refl _) (txO_new R), rfl, q _ (I.hok.fresh (Nat.le_refl _))⟩
/-- set(xs), xs a list of ints -/
def rSetI (K : PySem.W.Frag) (w : World) : List V → Hp → VK → Prop := fun vs H Q => ∃ (a : Addr) (ns : List Int), vs = [V.ref a] ∧ SqL K H a (ns.map V.int) ∧ ns.length + 1 < scanBound ∧ ∀ p, H p = none → Q (.ref p) (upd H p (SetO w p (fun j => decide (j ∈ ns)) (nubI ns).length))
theorem cr_setI (hc : X.calm = true) : CallR X (.type "set") (rSetI X.K X.w) := by
  intro pins s σ H vs us Q I r h
  obtain ⟨a, ns, rfl, hs, hb, q⟩ := h
  obtain ⟨its, rv, pl, hz⟩ := I.list hs
  rw [Vals.ref1 r]
  refine new_setI ns (I.ok.hd hc) pl.isList (by simpa using ints_of_vals rv) hb fun h' tk c R k => ?_
  rw [setR_len R] at R
  exact ⟨.ref _, upd H s.heap.objs.size (SetO X.w s.heap.objs.size (fun j => decide (j ∈ ns)) (nubI ns).length), I.laid (t' := tk) k (Nat.le_refl _) (setO_new R), rfl, q _ (I.hok.fresh (Nat.le_refl _))⟩
def rLenTx (P : Program) (w : World) : List V → Hp → VK → Prop := fun vs H Q => ∃ (a : Addr) (l : List Str), vs = [V.ref a] ∧ H a = some (TxO P w a l) ∧ l.length < scanBound ∧ Q (.int (l.length : Nat)) H
theorem cr_lenTx : CallR X (.builtin "len") (rLenTx X.prog X.w) := by
  intro pins s σ H vs us Q I r h
  obtain ⟨a, l, rfl, ha, hb, q⟩ := h
  rw [Vals.ref1 r]
  have R : TxR X.prog X.w s.heap a l := (I.hok a _ ha).1
  obtain ⟨D, ho, F, _, _⟩ := R.ex
  have hz := F.sz
  refine call_len_set (o := sObj "set" D) ho ⟨rfl, rfl, rfl⟩ rfl F.fit (by rw [hz]; unfold scanBound at hb; omega) ⟨.int (l.length : Nat), H, I.tok _, ⟨_, by rw [hz]⟩, q⟩
theorem sorted_tx {P : Program} {w : World} {A : Around} {E : Value → Shared → Prop} {s : Shared} {a : Addr} {l : List Str} {Q : Value → Shared → Prop} (R : TxR P w s.heap a l) (nd : l.Nodup) (hh : A.handled = none) (h64 : l.length < 64)
    (q : ∀ s' p (out : Array Value) (c : Nat) (ys : List Str), (∀ b o, s.heap.get? b = some o → s'.heap.get? b = some o) → s'.gens = s.gens → s'.os = s.os → s.heap.objs.size ≤ p →
      s'.heap.get? p = some (seqObj "list" out c) → StrsAre out.toList ys → ys.Perm l → sortedS ys = true → Q (.ref p) s') : wpAny (model P w) A (call (.builtin "sorted") [.ref a]) Q E s := by
  obtain ⟨⟨es, ep, t⟩, ho, F, r, hl⟩ := R.ex
  have hz : es.size = l.length := F.sz
  refine Calls.call_function_entry kind_sorted plain_sorted entry_sorted (args_sorted1 (.ref a)) ?_
  unfold Builtin.«sorted»
  refine wpAny_bind (m := checkCount "sorted" 1 1 _)
    (wpAny_pure ?_)
  refine wpAny_bind (collect_set (A := A.in1) (es := es) (ep := ep) (t := t) hh ⟨_, ho, rfl, rfl⟩ F.fit (by rw [hz]; unfold scanBound; omega) r hl fun s1 vs k1 z1 g1 o1 pm => ?_)
  have hvl : vs.length = l.length := by rw [pm.length_eq, List.length_map, Array.length_toList, hz]
  have hI : StrsAre vs (vs.map strOf) := strsAre_map vs fun v hv => by
    obtain ⟨e, he, e2⟩ := List.mem_map.mp (pm.mem_iff.mp hv)
    obtain ⟨⟨k, hk, _⟩, _⟩ := F.el e he
    obtain ⟨t, ht⟩ := Value.isStrOf_shape (x := k) (v := e.2) hk
    exact ⟨k, t, e2 ▸ ht⟩
  have pl : (vs.map strOf).Perm l := by
    refine (pm.map strOf).trans (perm_of_sub nd (fun x hx => ?_) (by rw [List.length_map, List.length_map, Array.length_toList, hz]))
    obtain ⟨e, he, hk⟩ := (F.mem x).mp hx
    obtain ⟨t, ht⟩ := Value.isStrOf_shape (x := x) (v := e.2) hk
    exact List.mem_map.mpr ⟨e.2, List.mem_map.mpr ⟨e, he, rfl⟩, by rw [ht]; rfl⟩
  refine wpAny_bind (wpAny_newList ?_ (by rw [hvl, sizeLine_eq]; omega))
  have oL : (s1.heap.push (seqObj "list" vs.toArray 0)).get? s1.heap.objs.size = some (seqObj "list" vs.toArray 0) := Heap.get?_push_size _ rfl
  refine wpAny_bind (wpAny_holding (wpAny_call_entry slot_list_sort ⟨_, oL, rfl⟩ entry_list_sort (list_sort_treeK strKind_oneLt oL hI.keysOf (fun v1 v2 rest e => keyKind_strs (by rw [← e]; exact hI)) (by rw [hvl]; exact h64) fun st' b1 b2 => ⟨_, rfl, ?_⟩) (args_list_sort _)))
  obtain ⟨ys, c1, c2, c3⟩ := sorted_out_str hI b1 b2
  obtain ⟨c, hc⟩ := sortedHeap_at (vs := vs) (out := (arrOf st').map (·.2)) oL
  refine wpAny_pure ⟨_, rfl, q _ s1.heap.objs.size _ c ys (fun b u e => ?_) g1 o1 z1 hc c1 (c2.trans pl) c3⟩
  have e1 := k1 b u e
  have lt := Heap.lt_size e1
  show (sortedHeap (s1.heap.push (seqObj "list" vs.toArray 0)) s1.heap.objs.size vs ((arrOf st').map (·.2))).get? b = some u
  rw [sortedHeap_old (Nat.ne_of_lt lt) (by rw [size_push']; exact Nat.lt_succ_of_lt lt)]
  exact Heap.get?_push_of_some _ e1
def rSrtTx (P : Program) (w : World) : List V → Hp → VK → Prop := fun vs H Q => ∃ (a : Addr) (l : List Str), vs = [V.ref a] ∧ H a = some (TxO P w a l) ∧ l.Nodup ∧ l.length < 64 ∧ ∀ p, H p = none → Q (.ref p) (upd H p (.lst ((srtB ltS l).map V.str)))
theorem cr_srtTx (hc : X.calm = true) : CallR X (.builtin "sorted") (rSrtTx X.prog X.w) := by
  intro pins s σ H vs us Q I r h
  obtain ⟨a, l, rfl, ha, nd, h64, q⟩ := h
  rw [Vals.ref1 r]
  refine sorted_tx (I.hok a _ ha).1 nd (I.ok.hd hc) h64 fun s' p out c ys k g o hp hg hi hm hs => ?_
  obtain rfl := srt_is lin_S hm (ord_sortedS hs)
  have hlen : ((srtB ltS l).map V.str).length ≤ sizeLine := by rw [List.length_map, hm.length_eq, sizeLine_eq]; omega
  have hn : H p = none := I.hok.fresh hp
  have J : Inv X pins σ (upd H p (.lst ((srtB ltS l).map V.str))) { s with heap := s'.heap, gens := s'.gens, drawn := s'.drawn, toks := s'.toks } :=
    I.call (ch := []) (Un.laid k hp hn) (I.hok.laid k hp ⟨hlen, out.toList, c, vals_of_strs hi, hg⟩) (by rw [g]; exact I.bare) (fun _ z => nomatch z)
  have es : s' = { s with heap := s'.heap, gens := s'.gens, drawn := s'.drawn, toks := s'.toks } := by
    cases s'
    cases s
    cases o
    rfl
  rw [es]
  exact ⟨.ref p, _, J, rfl, q p hn⟩
end
end EV

set_option Elab.async false
set_option linter.all false
set_option maxRecDepth 100000
set_option maxHeartbeats 1000000
namespace EV
open PySem PySem.Spec PyProof.Rows L2 PySem.Froz
section
variable {prog : Program} {w : World} {A : Around} {E : Value → Shared → Prop} {s : Shared}
theorem collect_tup {l : Addr} {vs : List Value} {Q : List Value → Shared → Prop} (hl : IsTup s.heap l vs.toArray) (hz : vs.length ≤ sizeLine)
    (q : Q vs { s with heap := (s.heap.push (seqObj "list" #[] 0)).update s.heap.objs.size (Obj.mapSeq (· ++ vs.toArray)) }) : wpAny (model prog w) A (collect (.ref l)) Q E s := by
  obtain ⟨o, ho, hc, n, hd⟩ := id hl
  unfold collect
  refine wpAny_bind (wpAny_runValue (codeAny_builtin PyProof.Rows.entry_proto_collect' ?_))
  show wpAny _ _ (do again (.builtin "list.__iadd__" ⟨[← PySem.newList [], .ref l], []⟩)) _ _ s
  refine wpAny_bind (wpAny_newList (wpAny_pure ⟨PySem.Code.quiet_builtin _ (by decide +kernel), codeAny_builtin PyProof.Rows.entry_list_iadd' ?_⟩))
  show wpAny _ _ (Builtin.List.listExtendWith (.ref s.heap.objs.size) (.ref l) (.ref s.heap.objs.size)) _ _ { s with heap := s.heap.push (seqObj "list" #[] 0) }
  unfold Builtin.List.listExtendWith
  have h2 : (s.heap.push (seqObj "list" #[] 0)).get? l = some o := Heap.get?_push_of_some _ ho
  refine wpAny_bind (wpAny_typeOf (T := "tuple") ⟨o, h2, hc⟩ ?_)
  rw [if_pos (by rw [show (Value.type "tuple" == Value.type "tuple") = true from rfl]; simp)]
  refine wpAny_bind (listItems_at h2 hd ?_)
  refine wpAny_bind (listItems_at (xs := #[]) (n := 0) (Heap.get?_push_size _ rfl) rfl ?_)
  rw [if_neg (by simp)]
  refine wpAny_bind (listUpdate_at (xs := #[]) (n := 0) (Heap.get?_push_size _ rfl) rfl ?_ (Nat.zero_le _) (by show (#[] ++ vs.toArray).size ≤ sizeLine + 1; simp only [Array.size_append, List.size_toArray, List.length_nil]; omega))
  refine wpAny_pure ?_
  show wpAny (model prog w) A (do
      let o ← PySem.load s.heap.objs.size
      match o.data with
      | .seq xs _ => pure xs.toList
      | _ => PySem.unsupported "internal:collect") Q E { s with heap := (s.heap.push (seqObj "list" #[] 0)).update s.heap.objs.size (Obj.mapSeq (· ++ vs.toArray)) }
  refine wpAny_bind (wpAny_load (get?_update_seq (Heap.get?_push_size _ rfl) _) ?_)
  show wpAny _ _ (pure ((#[] : Array Value) ++ vs.toArray).toList) Q E _
  rw [show ((#[] : Array Value) ++ vs.toArray).toList = vs by simp]
  exact wpAny_pure q
theorem sorted_tup {l : Addr} {vs : List Value} {ss : List Str} {Q : Value → Shared → Prop} (hl : IsTup s.heap l vs.toArray) (hS : StrsAre vs ss) (h64 : vs.length < 64)
    (q : ∀ (out : Array Value) (ys : List Str), StrsAre out.toList ys → ys.Perm ss → sortedS ys = true → Q (.ref (s.heap.objs.size + 1)) { s with heap := sortedAll s.heap vs out }) :
    wpAny (model prog w) A (call (.builtin "sorted") [.ref l]) Q E s := by
  refine Calls.call_function_entry kind_sorted plain_sorted entry_sorted (args_sorted1 (.ref l)) ?_
  unfold Builtin.«sorted»
  refine wpAny_bind (m := checkCount "sorted" 1 1 _)
    (wpAny_pure ?_)
  refine wpAny_bind (collect_tup hl (by rw [sizeLine_eq]; omega) ?_)
  refine wpAny_bind (wpAny_newList ?_ (by rw [sizeLine_eq]; omega))
  have hsz : ((s.heap.push (seqObj "list" #[] 0)).update s.heap.objs.size (Obj.mapSeq (· ++ vs.toArray))).objs.size = s.heap.objs.size + 1 := by rw [Heap.size_update, size_push']
  have oL : (((s.heap.push (seqObj "list" #[] 0)).update s.heap.objs.size (Obj.mapSeq (· ++ vs.toArray))).push (seqObj "list" vs.toArray 0)).get? (s.heap.objs.size + 1) = some (seqObj "list" vs.toArray 0) := by
    rw [← hsz]
    exact Heap.get?_push_size _ rfl
  show wpAny _ _ _ _ _ { s with heap := ((s.heap.push (seqObj "list" #[] 0)).update s.heap.objs.size (Obj.mapSeq (· ++ vs.toArray))).push (seqObj "list" vs.toArray 0) }
  rw [hsz]
  refine wpAny_bind (wpAny_holding (wpAny_call_entry slot_list_sort ⟨_, oL, rfl⟩ entry_list_sort (list_sort_treeK strKind_oneLt oL hS.keysOf (fun v1 v2 rest e => keyKind_strs (by rw [← e]; exact hS)) h64 fun st' b1 b2 => ⟨_, rfl, ?_⟩) (args_list_sort _)))
  obtain ⟨ys, c1, c2, c3⟩ := sorted_out_str hS b1 b2
  exact wpAny_pure ⟨_, rfl, q _ ys c1 c2 c3⟩
theorem ext_any (l : Addr) (items : Array Value) (n : Nat) (b : Addr) (items2 : Array Value) (n2 : Nat) (sl : Array (Option Value)) (hz : items.size + items2.size ≤ sizeLine) :
    Meets (Builtin.«list.extend» ⟨[.ref l, .ref b], []⟩) (fun _ R s => s.heap.get? l = some { cls := .type "list", dict := none, data := .seq items n, slots := #[] } ∧ s.heap.get? b = some { cls := .type "list", dict := none, data := .seq items2 n2, slots := sl } ∧
      R (.ok (.ret Value.none)) { s with heap := s.heap.update l (Obj.mapSeq fun x => x ++ items2), toks := s.toks }) :=
  .of_wp fun prog w A R s h => by
    obtain ⟨hp, g, d, tk, os⟩ := s
    obtain ⟨hl, hb, h⟩ := h
    have f1 := AutoSeq1.idx_int
    have f2 := AutoSeq1.sub_tuple_tuple
    have f3 := AutoSeq1.sub_list_list
    have f4 := AutoSeq1.sub_tuple_list
    have f5 := AutoSeq1.sub_list_tuple
    have h1 : items.size ≤ sizeLine := by omega
    have h2 : (items ++ items2).size ≤ sizeLine + 1 := by rw [Array.size_append]; omega
    have h3 : ¬(!items.isEmpty && Builtin.List.listTooLong (items.size + items2.size)) = true := by
      rw [show Builtin.List.listTooLong (items.size + items2.size) = false from notLongL hz, Bool.and_false]
      exact Bool.false_ne_true
    wp_walk using (wpAny_updateSeq hl rfl (hz := h1) (_hz' := h2)), AutoSeq1.wpAny_loadPart' hl, AutoSeq1.wpAny_loadPart' hb
    exact ⟨_, rfl, h⟩
end
section
variable {X : Cx}
def rExtQ (K : PySem.W.Frag) : V → List V → Hp → VK → Prop := fun x vs H Q => ∃ l b xs zs, x = .ref l ∧ vs = [.ref b] ∧ H l = some (.lst xs) ∧ SqL K H b zs ∧ xs.length + zs.length ≤ sizeLine ∧ Q .non (upd H l (.lst (xs ++ zs)))
theorem mt_extQ : MtR X "list.extend" (rExtQ X.K) := by
  intro pins s σ H x vs v us Q I rx rv h
  obtain ⟨l, b, xs, zs, rfl, rfl, hH, hB, hz, q⟩ := h
  cases rx
  obtain ⟨u, rfl, ru⟩ := rv.one
  cases ru
  obtain ⟨z, its, n, r, hl, e⟩ := I.lstM hH
  obtain ⟨its2, r2, ⟨⟨cls, dd, data, sl⟩, n2, ho, hc, hdn, hd⟩, hz2⟩ := I.list hB
  simp only at hc hd hdn
  subst hc hd hdn
  have hl2 := r2.length
  refine call_meets PySem.F.slot_list_extend ⟨_, e, rfl⟩ PySem.F.entry_list_extend (PySem.F.args_list_extend_2 _ _) (ext_any l its.toArray n b its2.toArray n2 sl (by rw [List.size_toArray, List.size_toArray]; omega)) ⟨e, ho, ?_⟩
  refine ⟨.non, _, I.lset (its' := its ++ its2) hH e (by simp) (r.append r2) ?_, rfl, q⟩
  rw [List.length_append]
  omega
def rSrtL (K : PySem.W.Frag) : List V → Hp → VK → Prop := fun vs H Q => ∃ (a : Addr), vs = [V.ref a] ∧ ((∃ ss : List Str, (SqL K H a (ss.map V.str) ∨ SqT K H a (ss.map V.str)) ∧ ss.length < 64 ∧ ∀ p, H p = none → Q (.ref p) (upd H p (.lst ((srtB ltS ss).map V.str)))) ∨
  (∃ ns : List Int, SqL K H a (ns.map V.int) ∧ ∀ p, H p = none → Q (.ref p) (upd H p (.lst ((srtB ltI ns).map V.int)))))
theorem cr_srtL : CallR X (.builtin "sorted") (rSrtL X.K) := by
  intro pins s σ H vs us Q I r h
  obtain ⟨a, rfl, ⟨ss, hs | hs, h64, q⟩ | ⟨ns, hs, q⟩⟩ := h
  · exact cr_sortedS pins s σ H _ us Q I r ⟨a, ss, rfl, hs, h64, fun ys p h1 h2 hp => by rw [srt_is lin_S h1 (ord_sortedS h2)]; exact q p hp⟩
  · obtain ⟨its, rv, hl, _⟩ := I.tuple hs
    rw [Vals.ref1 r]
    have hlen0 := rv.length
    rw [List.length_map] at hlen0
    refine sorted_tup hl rv.strs (by rw [← hlen0]; exact h64) fun out ys h1 h2 h3 => ?_
    obtain rfl := srt_is lin_S h2 (ord_sortedS h3)
    obtain ⟨ep, he⟩ := PyProof.Rows.sortedAll_at s.heap its out
    have hlen : ((srtB ltS ss).map V.str).length ≤ sizeLine := by rw [List.length_map, h2.length_eq, sizeLine_eq]; omega
    exact ⟨.ref _, upd H (s.heap.objs.size + 1) (.lst ((srtB ltS ss).map V.str)), I.laid (t' := s.toks) (fun _ _ => PyProof.Rows.sortedAll_old) (Nat.le_succ _) ⟨hlen, out.toList, ep, vals_of_strs h1, he⟩, rfl, q _ (I.hok.fresh (Nat.le_succ _))⟩
  · exact cr_sortedI pins s σ H _ us Q I r ⟨a, ns, rfl, hs, fun ys p h1 h2 hp => by rw [srt_is lin_I h1 (ord_ints h2)]; exact q p hp⟩
/-- max(xs, default=d) of ints -/
def maxDf (d : Int) : List Int → Int
  | [] => d
  | n :: r => r.foldl max n
def rMaxD (K : PySem.W.Frag) : List V → List V → Hp → VK → Prop := fun vs zs H Q => ∃ (a : Addr) (ns : List Int) (d : Int), vs = [V.ref a] ∧ zs = [V.int d] ∧ SqL K H a (ns.map V.int) ∧ Q (.int (maxDf d ns)) H
theorem reads_ints {h : Heap} : ∀ {vs : List Value} {ns : List Int}, IntsAre vs ns → ∃ as, ReadsAll h vs (ns.map PyData.int) as
  | _, _, .nil => ⟨_, .nil⟩
  | _, _, .cons n t r => by
    obtain ⟨as, q⟩ := reads_ints (h := h) r
    exact ⟨_, .cons (.int n t) q⟩
theorem depth_ints : ∀ ns : List Int, PyData.depthAll (ns.map PyData.int) ≤ 1
  | [] => by decide
  | n :: r => by
    have e : PyData.depthAll ((n :: r).map PyData.int) = max (PyData.depth (PyData.int n)) (PyData.depthAll (r.map PyData.int)) := rfl
    have := depth_ints r
    have e2 : PyData.depth (PyData.int n) ≤ 1 := by simp [PyData.depth]
    rw [e]
    omega
theorem cr_maxD (hc : X.calm = true) (hu : X.A.units + 64 < cLine) : CallRK X (.builtin "max") [Str.ofString "default"] (rMaxD X.K) := by
  intro pins s σ H vs zs us ws Q I r rz h
  obtain ⟨a, ns, d, rfl, rfl, hs, q⟩ := h
  obtain ⟨its, rv, pl, hz⟩ := I.list hs
  obtain rfl := Vals.ref1 r
  obtain ⟨w1, rfl, ⟨t, rfl⟩⟩ := vals1 rz
  obtain ⟨as, ra⟩ := reads_ints (h := s.heap) rv.ints
  refine PySem.W.max_list_default (vs := its.toArray) (xs := ns.map PyData.int) (as := as) (I.ok.hd hc) pl.isList (by simpa using ra) ⟨fun x hx y hy => ?_, fun x hx => ?_⟩ (by have := depth_ints ns; omega) (fun hn h' tk k => ?_) fun y ys i v h' tk bs e hv rd k => ?_
  · obtain ⟨n, _, rfl⟩ := List.mem_map.mp hx
    obtain ⟨m, _, rfl⟩ := List.mem_map.mp hy
    rfl
  · obtain ⟨n, _, rfl⟩ := List.mem_map.mp hx
    exact fun z => nomatch z
  · cases ns with
    | nil => exact ⟨.int d, H, I.kept k, ⟨_, rfl⟩, q⟩
    | cons _ _ => cases hn
  · cases ns with
    | nil => cases e
    | cons n r =>
      cases e
      rw [PySem.W.maxD_ints] at rd
      cases rd
      exact ⟨.int _, H, I.kept k, ⟨_, rfl⟩, q⟩
end
end EV

set_option Elab.async false
set_option linter.all false
set_option maxRecDepth 100000
set_option maxHeartbeats 1000000
namespace EV
open PySem PySem.Spec PyProof.Rows L2 PySem.Froz
/-! sorted of a list of bools -/
section
variable {prog : Program} {w : World} {A : Around} {E : Value → Shared → Prop} {s : Shared}
def vBl : Value → Bool
  | .bool b => b
  | _ => false
def ltVB (v u : Value) : Bool := ltBl (vBl v) (vBl u)
theorem swo_vb : SrtO.Swo ltVB := by
  refine ⟨fun x y h => ?_, fun x y z h1 h2 => ?_⟩
  · unfold ltVB ltBl at *
    revert h
    cases vBl x <;> cases vBl y <;> decide
  · unfold ltVB ltBl at *
    revert h1 h2
    cases vBl x <;> cases vBl y <;> cases vBl z <;> decide
theorem first_vb : ∀ bs : List Bool, (bs.map Value.bool).mapM firstOfTuple' = pure (bs.map fun _ => none)
  | [] => by simp
  | b :: r => by
    have e : firstOfTuple' (.bool b) = pure none := rfl
    rw [List.map_cons, List.mapM_cons, e, first_vb r]
    simp
theorem type_vb : ∀ bs : List Bool, (bs.map Value.bool).mapM typeOf = pure (bs.map fun _ => Value.type "bool")
  | [] => by simp
  | b :: r => by
    have e : typeOf (.bool b) = pure (Value.type "bool") := rfl
    rw [List.map_cons, List.mapM_cons, e, type_vb r]
    simp
theorem kind_vb (b1 b2 : Bool) (bs : List Bool) : keyKind' ((b1 :: b2 :: bs).map Value.bool).toArray = pure oneType' := by
  rw [keyKind'_eq, List.mapM_toArray, first_vb]
  simp only [map_pure, pure_bind]
  rw [if_neg (by simp), if_neg (by simp), oneTypeOnly'_eq, List.mapM_toArray, type_vb]
  simp only [map_pure, pure_bind]
  have ha : ((List.map (fun _ => Value.type "bool") (b1 :: b2 :: bs)).toArray.all fun x => x == Value.type "bool") = true := by
    simp only [List.all_toArray, List.all_map, List.all_eq_true]
    exact fun _ _ => rfl
  have hz : (List.map (fun _ => Value.type "bool") (b1 :: b2 :: bs)).toArray[0]? = some (Value.type "bool") := by simp
  rw [hz]
  simp only [ha, if_true, pure_bind, Option.isSome_some]
theorem cmp_vb {bs : List Bool} : SrtO.Cmp prog w A s oneType' (fun p => p.1 ∈ bs.map Value.bool) (SrtO.lt2 ltVB) := by
  intro p q hp hq
  obtain ⟨a, _, ea⟩ := List.mem_map.mp hp
  obtain ⟨b, _, eb⟩ := List.mem_map.mp hq
  show wpAny (model prog w) A (keyLt' oneType' p.1 q.1) (fun r s' => s' = s ∧ r = ltVB p.1 q.1) (fun _ _ => False) s
  rw [← ea, ← eb, keyLt'_oneType]
  refine PySem.W.oneLt_bool ⟨rfl, ?_⟩
  cases a <;> cases b <;> decide
theorem sortable_vb {a : Addr} {bs : List Bool} (h2 : 2 ≤ bs.length) : SrtO.SortableO prog w A s a (bs.map Value.bool) ltVB := fun h' _ => by
  refine ⟨oneType', fun Q E hq => ?_, cmp_vb⟩
  match bs, h2 with
  | b1 :: b2 :: r, _ =>
    rw [kind_vb]
    exact wpAny_pure hq
theorem un_vb : ∀ {out : List Value}, (∀ v ∈ out, ∃ b, v = Value.bool b) → (out.map vBl).map Value.bool = out
  | [], _ => rfl
  | v :: r, h => by
    obtain ⟨b, rfl⟩ := h v (.head _)
    rw [List.map_cons, List.map_cons, un_vb fun u hu => h u (.tail _ hu)]
    rfl
theorem vals_vb : ∀ bs : List Bool, Vals (bs.map V.bl) (bs.map Value.bool)
  | [] => .nil
  | b :: r => .cons rfl (vals_vb r)
end
section
variable {X : Cx}
def rSrtB (K : PySem.W.Frag) : List V → Hp → VK → Prop := fun vs H Q => ∃ (a : Addr) (bs : List Bool), vs = [V.ref a] ∧ SqL K H a (bs.map V.bl) ∧ ∀ p, H p = none → Q (.ref p) (upd H p (.lst ((srtB ltBl bs).map V.bl)))
theorem cr_srtVB : CallR X (.builtin "sorted") (rSrtB X.K) := by
  intro pins s σ H vs us Q I r h
  obtain ⟨a, bs, rfl, hs, q⟩ := h
  obtain ⟨its, rv, hl, hz⟩ := I.list hs
  rw [Vals.ref1 r]
  obtain rfl := rv.bls
  refine SrtO.sorted_ord swo_vb hl.isList (by rw [← rv.length]; exact hz) (fun h2 h₁ a' _ _ => sortable_vb (by simpa using h2)) fun out h1 h2 => ?_
  have hm : ∀ v ∈ out, ∃ b, v = Value.bool b := fun v hv => by
    obtain ⟨b, _, e⟩ := List.mem_map.mp (h2.perm.mem_iff.mp hv)
    exact ⟨b, e.symm⟩
  have ho := un_vb hm
  have hp : (out.map vBl).Perm bs := by
    have z := h2.perm.map vBl
    rw [List.map_map, show (vBl ∘ Value.bool) = id from rfl, List.map_id] at z
    exact z
  have hs : OrdL ltBl (out.map vBl) := List.pairwise_map.mpr (h1.imp fun {x y} z => z)
  obtain rfl' := srt_is lin_B hp hs
  obtain ⟨ep, he⟩ := PyProof.Rows.sortedAll_at s.heap (bs.map Value.bool) out.toArray
  have hlen : ((srtB ltBl bs).map V.bl).length ≤ sizeLine := by
    rw [List.length_map] at hz
    rw [List.length_map, ← rfl', hp.length_eq]
    exact hz
  refine ⟨.ref _, upd H (s.heap.objs.size + 1) (.lst ((srtB ltBl bs).map V.bl)), I.laid (t' := s.toks) (fun _ _ => PyProof.Rows.sortedAll_old) (Nat.le_succ _) ⟨hlen, out, ep, ?_, he⟩, rfl, q _ (I.hok.fresh (Nat.le_succ _))⟩
  rw [← rfl', ← ho]
  have z := vals_vb (out.map vBl)
  rw [ho] at z ⊢
  exact z
end
section
variable {X : Cx}
def rSrtA (K : PySem.W.Frag) : List V → Hp → VK → Prop := fun vs H Q => ∃ (a : Addr), vs = [V.ref a] ∧ ((∃ ss : List Str, (SqL K H a (ss.map V.str) ∨ SqT K H a (ss.map V.str)) ∧ ss.length < 64 ∧ ∀ p, H p = none → Q (.ref p) (upd H p (.lst ((srtB ltS ss).map V.str)))) ∨
  (∃ ns : List Int, SqL K H a (ns.map V.int) ∧ ∀ p, H p = none → Q (.ref p) (upd H p (.lst ((srtB ltI ns).map V.int)))) ∨
  (∃ bs : List Bool, SqL K H a (bs.map V.bl) ∧ ∀ p, H p = none → Q (.ref p) (upd H p (.lst ((srtB ltBl bs).map V.bl)))))
theorem cr_srtA : CallR X (.builtin "sorted") (rSrtA X.K) := by
  intro pins s σ H vs us Q I r h
  obtain ⟨a, rfl, h | h | ⟨bs, hs, q⟩⟩ := h
  · exact cr_srtL pins s σ H _ us Q I r ⟨a, rfl, .inl h⟩
  · exact cr_srtL pins s σ H _ us Q I r ⟨a, rfl, .inr h⟩
  · exact cr_srtVB pins s σ H _ us Q I r ⟨a, bs, rfl, hs, q⟩
end
/-! zip(list, tuple) -/
/-- the list at a and the tuple at b as they stand at each turn -/
def ItzM (K : PySem.W.Frag) (a b : Addr) : L2.It where
  go := fun i H => ∃ (xs ys : List V) (x y : V), (SqL K H a xs ∧ SqT K H b ys) ∧ xs[i]? = some x ∧ ys[i]? = some y
  yld := fun i H v H' => ∃ (T : Addr) (x y : V), (v = .ref T ∧ H T = none ∧ H' = upd H T (.tup [x, y])) ∧ (∀ xs, SqL K H a xs → xs[i]? = some x) ∧ (∀ ys, SqT K H b ys → ys[i]? = some y)
  stop := fun i H => ∃ xs ys : List V, (SqL K H a xs ∧ SqT K H b ys) ∧ (i = xs.length ∨ i = ys.length) ∧ i ≤ xs.length ∧ i ≤ ys.length
structure ZipFar (z TI TO i1 i2 a b : Addr) : Prop where
  TIz : TI ≠ z
  TOz : TO ≠ z
  TITO : TI ≠ TO
  TIi1 : TI ≠ i1
  TIi2 : TI ≠ i2
  TOi1 : TO ≠ i1
  TOi2 : TO ≠ i2
  i1z : i1 ≠ z
  i2z : i2 ≠ z
  i12 : i1 ≠ i2
  az : a ≠ z
  aTO : a ≠ TO
  ai1 : a ≠ i1
  ai2 : a ≠ i2
  bz : b ≠ z
  bTO : b ≠ TO
  bi1 : b ≠ i1
  bi2 : b ≠ i2
theorem ZipFar.sep {z TI TO i1 i2 a b : Addr} (D : ZipFar z TI TO i1 i2 a b) : ZipSep2 z TI TO i1 i2 [i1, a] [i2, b] where
  TIz := D.TIz
  TOz := D.TOz
  TITO := D.TITO
  TIi1 := D.TIi1
  mem1 := by simp
  zf1 := by simp [D.i1z.symm, D.az.symm]
  Tf1 := by simp [D.TOi1, D.aTO.symm]
  TIi2 := D.TIi2
  mem2 := by simp
  zf2 := by simp [D.i2z.symm, D.bz.symm]
  Tf2 := by simp [D.TOi2, D.bTO.symm]
  sep1_2 := by simp [D.i12, D.bi1.symm]
  sep2_1 := by simp [D.i12.symm, D.ai2.symm]
theorem turn_zipM {P : Program} {w : World} {K : PySem.W.Frag} {elts : List Expr} {kk : Nat} {tpos : Pos} {a b z TI TO i1 i2 : Addr} (D : ZipFar z TI TO i1 i2 a b) :
    Turn P w K (.Tuple elts kk tpos) (ItzM K a b) [z, TI, TO, i1, i2] z (fun i h => IsZip h z TI TO .none ∧ IsTupOf2 h TI (.ref i1) (.ref i2) ∧ (∃ x y, IsTupOf2 h TO x y) ∧ h.IsListIter i1 a i ∧ h.IsTupleIter i2 b i) where
  mem := by simp
  obj := fun i h st c hc => by
    obtain ⟨q1, q2, ⟨x, y, q3⟩, ⟨o1, e1, _, d1⟩, ⟨o2, e2, _, d2⟩⟩ := st
    rcases (by simpa using hc : c = z ∨ c = TI ∨ c = TO ∨ c = i1 ∨ c = i2) with rfl | rfl | rfl | rfl | rfl
    · exact ⟨_, q1, nofun⟩
    · exact ⟨_, q2, nofun⟩
    · exact ⟨_, q3, nofun⟩
    · exact ⟨o1, e1, fun v q => by rw [d1] at q; cases q⟩
    · exact ⟨o2, e2, fun v q => by rw [d2] at q; cases q⟩
  keep := fun i h h' st k => by
    obtain ⟨q1, q2, ⟨x, y, q3⟩, q4, q5⟩ := st
    exact ⟨k z (by simp) _ q1, k TI (by simp) _ q2, ⟨x, y, k TO (by simp) _ q3⟩, q4.at fun o => k i1 (by simp) o, q5.at fun o => k i2 (by simp) o⟩
  item := by
    intro X hP hw hK hc i pins s σ H E I hf st hg
    subst hP hw hK
    obtain ⟨q1, q2, ⟨x0, y0, q3⟩, q4, q5⟩ := st
    obtain ⟨xs, ys, x, y, ⟨hx, hy⟩, gx, gy⟩ := hg
    obtain ⟨us, rx, px, _⟩ := I.list hx
    obtain ⟨vs, ry, py, _⟩ := I.tuple hy
    have py' : s.heap.IsTuple b vs.toArray := py
    obtain ⟨u, hu, ru⟩ := rx.get gx
    obtain ⟨v, hv, rv⟩ := ry.get gy
    have hzl : z < s.heap.objs.size := Heap.lt_size q1
    have hh := I.ok.hd hc
    refine wpAny_pyNext_zipD2_item (A := X.A) D.sep (Draws.list (A := X.A.in1) hh i1 a D.ai1 us.toArray) (Draws.tuple (A := X.A.in1) hh i2 b D.bi2 vs.toArray) q1 q2 q3 ⟨q4, px.isList⟩ ⟨q5, py'⟩
      (by have := (List.getElem?_eq_some_iff.mp hu).1; simpa using this) (by have := (List.getElem?_eq_some_iff.mp hv).1; simpa using this) fun u' v' h' tk e1 e2 z' TO' s1 s2 hT hsz hk => ?_
    have e1 : u' = u := by
      have : us.toArray[i]? = some u' := e1
      rw [List.getElem?_toArray, hu] at this
      exact (Option.some.inj this).symm
    have e2 : v' = v := by
      have : vs.toArray[i]? = some v' := e2
      rw [List.getElem?_toArray, hv] at this
      exact (Option.some.inj this).symm
    subst e1 e2
    refine ⟨_, rfl, wpAny_letOwnedTupleGo_zip (s := { s with heap := h', toks := tk }) z' fun h2 z2 sb => ?_⟩
    have hT2 : h2.get? s.heap.objs.size = some { cls := .type "tuple", data := .seq #[u', v'] } := (sb.2 _ (Nat.ne_of_gt hzl)).trans hT
    have new : ObjOk X.prog X.w (upd H s.heap.objs.size (.tup [x, y])) h2 s.heap.objs.size (.tup [x, y]) :=
      ⟨by show 2 ≤ sizeLine; decide, [u', v'], .cons ru (.cons rv .nil), ⟨_, hT2, rfl, _, rfl⟩⟩
    have I1 : Inv X pins σ (upd H s.heap.objs.size (.tup [x, y])) { s with heap := h2, toks := tk } :=
      I.turnedNew (t' := tk) (ch := [z, TI, TO, i1, i2]) (fun c o hb q => (sb.2 c (fun q' => hb (by simp [q']))).trans (hk c o (fun q' => hb (by simp [q'])) (fun q' => hb (by simp [q'])) (fun q' => hb (by simp [q'])) (fun q' => hb (by simp [q'])) q)) hf (Nat.le_refl _) new
    refine ⟨.ref s.heap.objs.size, _, I1, rfl, ⟨_, x, y, ⟨rfl, I.hok.fresh (Nat.le_refl _), rfl⟩, fun l hl => ?_, fun l hl => ?_⟩, ⟨z2, ?_, ⟨u', v', ?_⟩, ?_, ?_⟩, fun c hcm => ?_⟩
    · rw [I.list_inj hl hx]; exact gx
    · rw [I.tuple_inj hl hy]; exact gy
    · exact (sb.2 _ D.TIz).trans (hk _ _ D.TIz D.TITO D.TIi1 D.TIi2 q2)
    · exact (sb.2 _ D.TOz).trans TO'
    · exact s1.1.at fun o q => (sb.2 _ D.i1z).trans q
    · exact s2.1.at fun o q => (sb.2 _ D.i2z).trans q
    · have hlt : c < s.heap.objs.size := by
        rcases (by simpa using hcm : c = z ∨ c = TI ∨ c = TO ∨ c = i1 ∨ c = i2) with rfl | rfl | rfl | rfl | rfl
        · exact hzl
        · exact Heap.lt_size q2
        · exact Heap.lt_size q3
        · obtain ⟨_, e, _⟩ := q4; exact Heap.lt_size e
        · obtain ⟨_, e, _⟩ := q5; exact Heap.lt_size e
      rw [upd_ne (Nat.ne_of_lt hlt)]
      exact (hf c hcm).1
  done := by
    intro X hP hw hK hc i pins s σ H E I hf st hg
    subst hP hw hK
    obtain ⟨q1, q2, ⟨x0, y0, q3⟩, q4, q5⟩ := st
    obtain ⟨xs, ys, ⟨hx, hy⟩, hend, le1, le2⟩ := hg
    obtain ⟨us, rx, px, _⟩ := I.list hx
    obtain ⟨vs, ry, py, _⟩ := I.tuple hy
    have py' : s.heap.IsTuple b vs.toArray := py
    have l1 : us.toArray.size = xs.length := by rw [List.size_toArray, rx.length]
    have l2 : vs.toArray.size = ys.length := by rw [List.size_toArray, ry.length]
    have hh := I.ok.hd hc
    exact wpAny_pyNext_zipD2_end (A := X.A) D.sep (Draws.list (A := X.A.in1) hh i1 a D.ai1 us.toArray) (Draws.tuple (A := X.A.in1) hh i2 b D.bi2 vs.toArray) q1 q2 q3 ⟨q4, px.isList⟩ ⟨q5, py'⟩ (by omega) (by omega) (by omega) fun h' tk hk => ⟨rfl, I.turnedL (t' := tk) (ch := [z, TI, TO, i1, i2]) (fun c o hb q =>
      hk c o (fun q' => hb (by simp [q'])) (fun q' => hb (by simp [q'])) (fun q' => hb (by simp [q'])) (fun q' => hb (by simp [q'])) q) hf⟩
  self := fun A i s Q E st h => wpAny_pyIter_zip st.1 h
/-- zip of a list and of a list or a tuple -/
def iZipX (K : PySem.W.Frag) (ta : TA) : TI := fun σ H R => ta σ H fun vs H1 => ∃ (a b : Addr) (xs ys : List V), vs = [.ref a, .ref b] ∧ SqL K H1 a xs ∧ ((SqL K H1 b ys ∧ R (Itz K a b) H1) ∨ (SqT K H1 b ys ∧ R (ItzM K a b) H1))
theorem five {n c : Addr} (h : c ∈ [n + 4, n + 2, n + 3, n, n + 1]) : n ≤ c := by
  rcases (by simpa using h : c = n + 4 ∨ c = n + 2 ∨ c = n + 3 ∨ c = n ∨ c = n + 1) with e | e | e | e | e <;> rw [e] <;> first | exact Nat.le_add_right _ _ | exact Nat.le_refl _
theorem far_new {n a b : Nat} (ha : a < n) (hb : b < n) : ZipFar (n + 4) (n + 2) (n + 3) n (n + 1) a b := by
  constructor <;> (refine PySem.W.neN ?_; omega)
theorem pi_zipX {X : Cx} {e e2 : Expr} {ta : TA} {p pos tpos : Pos} {elts : List Expr} {kk : Nat} (hg : Gl X "zip") (hm : X.mg "zip" = none) (ha : PA X [e, e2] ta)
    (hs : starEach [e, e2] X.env = (false, eval e X.env) :: starEach [e2] X.env := by rfl) (hpl : (backTo pos (starEach [e2] X.env)).any (·.1) = false := by rfl) :
    PI X (.Tuple elts kk tpos) (.Call (.Name "zip" p) [e, e2] [] pos) (iZipX X.K ta) := ⟨fun pins s σ H R I h => by
  refine Call_ (ld_blt I hg hm PyProof.Rows.boot_zip (PyProof.Rows.callWith_type1 (thn (ha.run pos pins s σ H _ I h) fun us s1 ⟨vs, H1, I1, r1, q1⟩ => ?_) hs hpl))
  obtain ⟨a, b, xs, ys, rfl, hx, q⟩ := q1
  obtain ⟨u1, u2, rfl, ra, rb⟩ := vals2 r1
  cases ra
  cases rb
  obtain ⟨us, rx, px, _⟩ := I1.list hx
  have fr : ∀ c ∈ [s1.heap.objs.size + 4, s1.heap.objs.size + 2, s1.heap.objs.size + 3, s1.heap.objs.size, s1.heap.objs.size + 1], FpOk X pins H1 c := fun c hc => I1.fpOk (five hc) (I1.hok.fresh (five hc))
  rcases q with ⟨hy, q⟩ | ⟨hy, q⟩
  · obtain ⟨vs, ry, py, _⟩ := I1.list hy
    refine call_zip_2 px.isList py.isList fun h' z1 z2 z3 z4 z5 _ hk => wpAny_pyIter_zip z1 ?_
    exact ⟨_, _, _, _, H1, rfl, I1.kept (t' := s1.toks) hk, turn_zip (PySem.W.ktu_apart s1.heap.objs.size a b px.lt py.lt), ⟨z1, z2, ⟨_, _, z3⟩, z4, z5⟩, fr, q⟩
  · obtain ⟨vs, ry, py, _⟩ := I1.tuple hy
    have py' : s1.heap.IsTuple b vs.toArray := py
    obtain ⟨ob, hb, _⟩ := id py
    refine zip_begins2 (begins_list a us.toArray) (begins_tuple b vs.toArray) px.isList py' fun h' z1 z2 z3 z4 z5 _ hk => wpAny_pyIter_zip z1 ?_
    exact ⟨_, _, _, _, H1, rfl, I1.kept (t' := s1.toks) hk, turn_zipM (far_new px.lt (Heap.lt_size hb)), ⟨z1, z2, ⟨_, _, z3⟩, ⟨_, z4, rfl, rfl⟩, ⟨_, z5, rfl, rfl⟩⟩, fr, q⟩⟩
end EV

set_option Elab.async false
set_option linter.all false
set_option maxRecDepth 100000
set_option maxHeartbeats 1000000
namespace EV
open PySem PySem.Spec PyProof.Rows L2 PySem.Froz
/-! dicts: what the kit lacks -/
section
variable {prog : Program} {w : World} {A : Around} {E : Value → Shared → Prop} {s : Shared}
theorem same_empty {nm : String} {a b : Addr} {es : Array DictEntry} {ep ep' : Nat} {Q : Bool → Shared → Prop} (ha : (a == sysModules) = false) (hb : (b == sysModules) = false)
    (ra : DT.Raw s.heap a es ep) (rb : DT.Raw s.heap b #[] ep') (h : Q (decide (es.size = 0)) s) : wpAny (model prog w) A (Builtin.Dict.samePairs nm a b) Q E s := by
  obtain ⟨oa, hoa, _, hda⟩ := ra
  obtain ⟨ob, hob, _, hdb⟩ := rb
  unfold Builtin.Dict.samePairs Builtin.Dict.showsAll
  rw [if_neg (by rw [ha]; exact Bool.false_ne_true), if_neg (by rw [hb]; exact Bool.false_ne_true)]
  refine wpAny_bind (wpAny_pure (wpAny_bind (wpAny_pure (wpAny_bind (wpAny_dictEntries hoa hda ?_)))))
  dsimp only
  refine wpAny_bind (wpAny_dictEntries hob hdb ?_)
  by_cases hz : es.size = 0
  · rw [decide_eq_true hz] at h
    rw [if_neg (by rw [hz]; simp)]
    refine wpAny_bind (wpAny_dictEpoch hoa hda (wpAny_bind ?_))
    rw [Std.Legacy.Range.forIn_eq_forIn_range']
    simp only [Std.Legacy.Range.size, Nat.sub_zero, Nat.add_sub_cancel, Nat.div_one, hz]
    exact wpAny_pure (wpAny_pure h)
  · rw [decide_eq_false hz] at h
    rw [if_pos (by simpa using hz)]
    exact wpAny_bind (wpAny_rule (wpAny_pure h))
theorem ne_empty {a b : Addr} {es : Array DictEntry} {ep ep' : Nat} {Q : Value → Shared → Prop} (ha : (a == sysModules) = false) (hb : (b == sysModules) = false)
    (ra : DT.Raw s.heap a es ep) (rb : DT.Raw s.heap b #[] ep') (hu : A.units < cLine) (h : Q (.bool (!decide (es.size = 0))) s) :
    wpAny (model prog w) A (compareOp .NotEq (.ref a) (.ref b)) Q E s := by
  refine wpAny_richCompare_same_room (op := .NotEq) ra.typeIs rb.typeIs PySem.F.slot_dict_ne (wpAny_call_entry PySem.F.slot_dict_ne ra.typeIs PySem.F.entry_dict_ne ?_ (PySem.F.args_dict_ne_2 _ _)) hu
  show wpAny _ _ (Builtin.Dict.dictSlotArgs "__ne__" ⟨[.ref a, .ref b], []⟩ >>= _) _ _ s
  refine wpAny_bind ?_
  unfold Builtin.Dict.dictSlotArgs
  refine wpAny_bind (wpAny_notOrdered_dict ra.typeIs ?_)
  show wpAny _ _ (pure (Value.ref a, Value.ref b)) _ _ s
  refine wpAny_pure ?_
  refine wpAny_bind (wpAny_isInstance (T := "dict") rb.typeIs PySem.F.sub_dict_dict ?_)
  simp only [Bool.not_true, Bool.false_eq_true, if_false]
  refine wpAny_bind (wpAny_pure (wpAny_bind (wpAny_pure (wpAny_bind (same_empty ha hb ra rb (wpAny_pure ⟨_, rfl, nofun, ?_⟩))))))
  simpa using h
end
section
variable {X : Cx} {pins : List (Addr × Obj)} {σ : L2.St} {H : Hp} {s : Shared} {a : Addr}
theorem rawT {kvs : List (List Key × V)} (I : Inv X pins σ H s) (h : Rd H a (.dT kvs)) : ∃ es ep, DT.Raw s.heap a es ep ∧ es.size = kvs.length ∧ (a == sysModules) = false := by
  obtain ⟨_, hs, xs, pr, o, es, ep, ho, hx, hd, he, _⟩ := dt_rd I.hok h
  have l1 : es.size = xs.length := size_of_entries he
  have l2 : kvs.length = xs.length := Paired.length pr
  exact ⟨es, ep, ⟨o, ho, hx, hd⟩, by omega, hs⟩
theorem rawK {kvs : List (Key × V)} (I : Inv X pins σ H s) (h : Rd H a (.dK kvs)) : ∃ es ep, DT.Raw s.heap a es ep ∧ es.size = kvs.length ∧ (a == sysModules) = false := by
  obtain ⟨_, hs, vs, rel, o, es, ep, ho, hx, hd, hk, hp, _⟩ := dk_rd I.hok h
  have l1 : es.size = vs.length := by rw [← hp.length]; exact Array.length_toList.symm
  have l2 : kvs.length = vs.length := Paired.length rel
  exact ⟨es, ep, ⟨o, ho, hx, hd⟩, by omega, hs⟩
end
section
variable {X : Cx}
theorem hu_lt (h : X.A.units + 1 < cLine) : X.A.units < cLine := Nat.lt_of_succ_lt h
/-- d != {} -/
def tNeE (ta : TE) : TE := fun σ H Q => ta σ H fun x H1 => ∃ a, x = .ref a ∧ ((∃ kvs, Rd H1 a (.dT kvs) ∧ Q (.bl (!decide (kvs.length = 0))) H1) ∨ ∃ kvs, Rd H1 a (.dK kvs) ∧ Q (.bl (!decide (kvs.length = 0))) H1)
theorem pc_neE {e : Expr} {ta : TE} {pos : Pos} (hu : X.A.units + 1 < cLine) (ha : PE X e ta) : PC X .NotEq e (.Dict [] [] pos) (tNeE ta) := by
  refine ⟨fun pins s σ H Q I h => ?_⟩
  refine thn (ha.run pins s σ H _ I h) fun v s1 ⟨x, H1, I1, rx, a, ex, q⟩ => ?_
  subst ex
  obtain rfl : v = Value.ref a := rx
  refine wpAny_Dict_empty ?_
  have I2 : Inv X pins σ H1 { s1 with heap := s1.heap.push { cls := .type "dict", data := .dict #[] } } := I1.kept (t' := s1.toks) fun _ _ q => Heap.get?_push_of_some _ q
  have rb : DT.Raw (s1.heap.push { cls := .type "dict", data := .dict #[] }) s1.heap.objs.size #[] 0 := ⟨_, Heap.get?_push_size _ rfl, ⟨rfl, rfl, rfl⟩, rfl⟩
  have hb : (s1.heap.objs.size == sysModules) = false := beq_eq_false_iff_ne.mpr (Ne.symm (Nat.ne_of_lt I1.big))
  rcases q with ⟨kvs, hr, q⟩ | ⟨kvs, hr, q⟩
  · obtain ⟨es, ep, ra, hz, hs⟩ := rawT I2 hr
    refine ne_empty hs hb ra rb (hu_lt hu) ⟨.bl _, H1, I2, ?_, q⟩
    rw [hz]; rfl
  · obtain ⟨es, ep, ra, hz, hs⟩ := rawK I2 hr
    refine ne_empty hs hb ra rb (hu_lt hu) ⟨.bl _, H1, I2, ?_, q⟩
    rw [hz]; rfl
/-- one pair of the dict u, in the i-th place -/
def PairAt (H : Hp) (u : HO) (i : Nat) (k v : V) : Prop := (∃ kvs kk, u = .dK kvs ∧ kvs[i]? = some (kk, v) ∧ k = kV kk) ∨ ∃ kvs kk q, u = .dT kvs ∧ kvs[i]? = some (kk, v) ∧ k = .ref q ∧ H q = some (.tup (kk.map kV))
def sizeD : HO → Nat
  | .dK kvs => kvs.length
  | .dT kvs => kvs.length
  | _ => 0
def isDct : HO → Bool
  | .dK _ => true
  | .dT _ => true
  | _ => false
/-- the pairs of a locked dict, each a new tuple -/
def ItA (d : Addr) (o : Obj) (u : HO) : L2.It where
  go := fun i H => H d = some (.frz o u) ∧ i < sizeD u
  yld := fun i H x H' => ∃ (T : Addr) (k v : V), (x = .ref T ∧ H T = none ∧ H' = upd H T (.tup [k, v])) ∧ PairAt H u i k v
  stop := fun i H => H d = some (.frz o u) ∧ i = sizeD u
theorem frzD {pins : List (Addr × Obj)} {σ : L2.St} {H : Hp} {s : Shared} {d : Addr} {o : Obj} {u : HO} (I : Inv X pins σ H s) (h : H d = some (.frz o u)) (hu : isDct u = true) :
    (d == sysModules) = false ∧ ∃ (es : Array DictEntry) (ep : Nat), DT.Raw s.heap d es ep ∧ o.data = .dict es ep ∧ es.size = sizeD u ∧
      ∀ i, i < sizeD u → ∃ (en : DictEntry) (k v : V), es[i]? = some en ∧ PairAt H u i k v ∧ RelV k en.key ∧ RelV v en.val := by
  obtain ⟨hd, x⟩ := I.hok d _ h
  cases u with
  | dT kvs =>
    obtain ⟨z, hs, xs, pr, o', es, ep, ho, hx, hdt, he, _⟩ := x
    rw [hd] at ho
    cases ho
    have l1 : es.size = xs.length := size_of_entries he
    have l2 : kvs.length = xs.length := Paired.length pr
    refine ⟨hs, es, ep, ⟨o, hd, hx, hdt⟩, hdt, by show es.size = kvs.length; omega, fun i hi => ?_⟩
    obtain ⟨⟨k, v⟩, hkv⟩ : ∃ p, kvs[i]? = some p := ⟨_, List.getElem?_eq_getElem hi⟩
    obtain ⟨b, hb, e1, e2, e3⟩ := paired_get pr hkv
    have q := entry_at he i
    rw [hb] at q
    exact ⟨_, .ref b.2.1, v, q, .inr ⟨kvs, k, b.2.1, rfl, hkv, rfl, e2⟩, rfl, e3⟩
  | dK kvs =>
    obtain ⟨z, hs, vs, kv, o', es, ep, ho, hx, hdt, hk, hp, _⟩ := x
    rw [hd] at ho
    cases ho
    have l1 : es.size = vs.length := by rw [← hp.length]; exact Array.length_toList.symm
    have l2 : kvs.length = vs.length := Paired.length kv
    refine ⟨hs, es, ep, ⟨o, hd, hx, hdt⟩, hdt, by show es.size = kvs.length; omega, fun i hi => ?_⟩
    obtain ⟨⟨k, v⟩, hkv⟩ : ∃ p, kvs[i]? = some p := ⟨_, List.getElem?_eq_getElem hi⟩
    obtain ⟨u, hu, ru⟩ := kv_get kv hkv
    have hi2 : i < kvs.length := hi
    have hes : es[i]? = some es[i] := Array.getElem?_eq_getElem (by omega)
    obtain ⟨q1, q2⟩ := hp.get? (by rw [Array.getElem?_toList]; exact hes) hu
    exact ⟨_, kV k, v, hes, .inl ⟨kvs, k, rfl, hkv, rfl⟩, relV_key (show keyIs k _ = true from q1), by rw [q2]; exact ru⟩
  | _ => cases hu
theorem turn_itemsA {P : Program} {w : World} {K : PySem.W.Frag} {elts : List Expr} {kk : Nat} {tpos : Pos} {d : Addr} {o : Obj} {u : HO} {es : Array DictEntry} {ep : Nat} (it : Addr) (hu : isDct u = true) (hod : o.data = .dict es ep) :
    Turn P w K (.Tuple elts kk tpos) (ItA d o u) [it] it (fun i h => ∃ ok ov, IsItemIter h it d i (sizeD u) ep ok ov) where
  mem := by simp
  obj := fun i h ⟨ok, ov, e⟩ b hb => by
    obtain rfl : b = it := by simpa using hb
    exact ⟨_, e, nofun⟩
  keep := fun i h h' ⟨ok, ov, e⟩ k => ⟨ok, ov, k it (by simp) _ e⟩
  item := by
    intro X hP hw hK hc i pins s σ H E I hf ⟨ok, ov, st⟩ hg
    subst hP hw hK
    obtain ⟨hd, hi⟩ := hg
    obtain ⟨hs, es', ep', raw, hod', hz, at'⟩ := frzD I hd hu
    obtain ⟨rfl, rfl⟩ := dict_ep hod hod'
    obtain ⟨en, k, v, hen, hp, rk, rv⟩ := at' i hi
    obtain ⟨hlt2, hee⟩ := Array.getElem?_eq_some_iff.mp hen
    rw [← hz] at st
    have hlt : it < s.heap.objs.size := Heap.lt_size st
    refine DT.nextI st raw hlt2 fun h' out hT hsz hk => ?_
    rw [hee] at hT out
    refine ⟨_, rfl, wpAny_letOwnedTupleGo_items (s := { s with heap := h' }) out fun h2 st2 sb => ?_⟩
    have hT2 : h2.get? s.heap.objs.size = some { cls := .type "tuple", data := .seq #[en.key, en.val] } := (sb.2 _ (Nat.ne_of_gt hlt)).trans hT
    have new : ObjOk X.prog X.w (upd H s.heap.objs.size (.tup [k, v])) h2 s.heap.objs.size (.tup [k, v]) := ⟨by show 2 ≤ sizeLine; decide, [en.key, en.val], .cons rk (.cons rv .nil), ⟨_, hT2, rfl, _, rfl⟩⟩
    have I1 : Inv X pins σ (upd H s.heap.objs.size (.tup [k, v])) { s with heap := h2 } :=
      I.turnedNew (t' := s.toks) (ch := [it]) (fun b ob hb e => (sb.2 b (by simpa using hb)).trans (hk b ob (by simpa using hb) e)) hf (Nat.le_refl _) new
    refine ⟨.ref s.heap.objs.size, _, I1, rfl, ⟨_, k, v, ⟨rfl, I.hok.fresh (Nat.le_refl _), rfl⟩, hp⟩, ⟨_, _, by rw [← hz]; exact st2⟩, fun b hb => ?_⟩
    obtain rfl : b = it := by simpa using hb
    rw [upd_ne (Nat.ne_of_lt hlt)]
    exact (hf _ (by simp)).1
  done := by
    intro X hP hw hK hc i pins s σ H E I hf ⟨ok, ov, st⟩ hg
    subst hP hw hK
    obtain ⟨hd, hi⟩ := hg
    obtain ⟨f0, f1, f2, f3, f4, f5⟩ := hf it (by simp)
    obtain ⟨hs, es', ep', raw, hod', hz, at'⟩ := frzD I hd hu
    obtain ⟨rfl, rfl⟩ := dict_ep hod hod'
    rw [← hz] at st
    exact DT.endI (I.ok.hd hc) st raw (by omega) fun h' eb => ⟨rfl, I.turned (t' := s.toks) (fun b ob hb e => eb b ob hb e) f0 f1 f3 f4 f5⟩
  self := fun A i s Q E ⟨_, _, e⟩ h => PySem.W.kcp_self e h
theorem go_items {elts : List Expr} {kk : Nat} {tpos : Pos} {pins : List (Addr × Obj)} {s : Shared} {σ : L2.St} {H : Hp} {R : L2.It → Hp → Prop} {d : Addr} {o : Obj} {u : HO} {cpos : Pos} (I : Inv X pins σ H s) (h : H d = some (.frz o u)) (hu : isDct u = true) (q : R (ItA d o u) H) :
    wpAny (model X.prog X.w) X.A (call (.builtin "dict.items") [.ref d]) (fun v s1 => wpAny (model X.prog X.w) X.A (pyIter v) (PIE X pins σ (.Tuple elts kk tpos) R) X.xe s1) X.xe s := by
  obtain ⟨hs, es, ep, raw, hod, hz, _⟩ := frzD I h hu
  refine DT.callItems hs raw ?_
  have I2 : Inv X pins σ H { s with heap := s.heap.push { cls := .type "dict_items", data := .fields #[.ref d] } } := I.kept (t' := s.toks) fun b ob q => Heap.get?_push_of_some _ q
  refine DT.iterI (d := d) ⟨_, Heap.get?_push_size _ rfl, rfl, rfl⟩ (raw.push _) (pi_one (tk := s.toks) I2 _ (turn_itemsA _ hu hod) ⟨.none, .none, ?_⟩ q)
  rw [← hz]
  exact Heap.get?_push_size _ rfl
/-- d.items() of a locked dict, or of one that is locked here -/
def iItA (td : TE) : TI := fun σ H R => td σ H fun x H1 => ∃ (d : Addr) (u : HO), x = .ref d ∧ isDct u = true ∧ ((∃ o, H1 d = some (.frz o u) ∧ R (ItA d o u) H1) ∨ (H1 d = some u ∧ ∀ o, R (ItA d o u) (upd H1 d (.frz o u))))
theorem pi_itA {e : Expr} {td : TE} {apos cpos : Pos} {elts : List Expr} {kk : Nat} {tpos : Pos} (he : PE X e td) (hbase : attributeBase e "items" X.env (eval e X.env) = eval e X.env := by rfl) (hline : (apos.endLine == cpos.line) = true := by rfl) :
    PI X (.Tuple elts kk tpos) (.Call (.Attribute e "items" apos) [] [] cpos) (iItA td) := by
  refine ⟨fun pins s σ H R I h => ?_⟩
  refine wpAny_Call_method (T := "dict") (id := "dict.items") hbase rfl hline F.plainAttrs_dict F.slot_dict_items F.type_dict_items (thn (he.run pins s σ H _ I h) fun v s1 ⟨x, H1, I1, rx, d, u, ex, hu, q⟩ => ?_)
  subst ex
  obtain rfl : v = Value.ref d := rx
  have fin : ∀ {H2 : Hp} {o : Obj}, Inv X pins σ H2 s1 → H2 d = some (.frz o u) → R (ItA d o u) H2 → s1.TypeIs (.ref d) "dict" ∧ (∀ b, Value.ref d = .ref b → ∃ ob, s1.heap.get? b = some ob ∧ ob.dict = none) ∧ wpAny (model X.prog X.w) X.A (callWith cpos (.builtin "dict.items") [.ref d] [] []) (fun v s1 => wpAny (model X.prog X.w) X.A (pyIter v) (PIE X pins σ (.Tuple elts kk tpos) R) X.xe s1) X.xe s1 := fun {H2 o} I2 hd q => by
    obtain ⟨hs, es, ep, raw, hod, hz, _⟩ := frzD I2 hd hu
    obtain ⟨ob, ho, hx, _⟩ := id raw
    refine ⟨raw.typeIs, fun b e => ?_, ?_⟩
    · cases e
      exact ⟨ob, ho, hx.2.1⟩
    · exact Calls.callWith_builtin rfl (PySem.evalArgs_none (go_items (cpos := cpos) I2 hd hu q))
  rcases q with ⟨o, hd, q⟩ | ⟨hd, q⟩
  · exact fin I1 hd q
  · obtain ⟨od, I2⟩ := I1.lock hd (by cases u <;> first | trivial | cases hu)
    exact fin I2 upd_same (q od)
/-- sorted(d), the keys texts, fewer than 64 -/
def rSrtD : List V → Hp → VK → Prop := fun vs H Q => ∃ (a : Addr) (kvs : List (Key × V)) (ss : List Str), vs = [V.ref a] ∧ Rd H a (.dK kvs) ∧ kvs.map (·.1) = ss.map Sum.inr ∧ ss.length < 64 ∧ ∀ p, H p = none → Q (.ref p) (upd H p (.lst ((srtB ltS ss).map V.str)))
theorem strs_of_at : ∀ {vs : List Value} {ss : List Str}, vs.length = ss.length → (∀ (i : Nat) (v : Value), vs[i]? = some v → ∃ (x : Str) (t : Tok), ss[i]? = some x ∧ v = .str x t) → StrsAre vs ss
  | [], [], _, _ => .nil
  | [], _ :: _, h, _ => by simp at h
  | _ :: _, [], h, _ => by simp at h
  | v :: vs, x :: ss, h, k => by
    obtain ⟨y, t, e, rfl⟩ := k 0 v rfl
    have e : x = y := by simpa using e
    subst e
    exact .cons x t (strs_of_at (by simpa using h) fun i v hv => by simpa using k (i + 1) v (by simpa using hv))
theorem collect_d {prog : Program} {w : World} {A : Around} {E : Value → Shared → Prop} {s : Shared} {a : Addr} {es : Array DictEntry} {ep : Nat} {R : List Value → Shared → Prop} (lo : (a == sysModules) = false) (hh : A.handled = none) (raw : s.heap.DictRaw a es ep) (hn : es.size ≤ sizeLine)
    (h : ∀ (h' : Heap) (tk : Nat) (acc : Array Value), (∀ b o, s.heap.get? b = some o → h'.get? b = some o) → s.heap.objs.size < h'.objs.size → ItemsOf (fun i v => ∃ hi : i < es.size, v = es[i].key) acc es.size → R acc.toList { s with heap := h', toks := tk }) :
    wpAny (model prog w) A (collect (.ref a)) R E s := by
  have K : PySem.W.KdlSrc prog w "dict" a a es.size (fun i v => ∃ hi : i < es.size, v = es[i].key) (fun h => h.DictRaw a es ep) := PySem.KdlSrc.rawDict lo
  have ha := raw.lt_size
  have raw2 : (s.heap.push (seqObj "list" #[] 0)).DictRaw a es ep := raw.push _
  unfold collect
  refine wpAny_bind (wpAny_runValue (codeAny_builtin PyProof.Rows.entry_proto_collect' ?_))
  show wpAny _ _ (do again (.builtin "list.__iadd__" ⟨[← PySem.newList [], .ref a], []⟩)) _ _ s
  refine wpAny_bind (wpAny_newList (wpAny_pure ⟨PySem.Code.quiet_builtin _ (by decide +kernel), codeAny_builtin PyProof.Rows.entry_list_iadd' ?_⟩))
  show wpAny _ A.in1 (Builtin.List.listExtendWith (.ref s.heap.objs.size) (.ref a) (.ref s.heap.objs.size)) _ _ { s with heap := s.heap.push (seqObj "list" #[] 0) }
  have body : ∀ (h' : Heap) (tk : Nat) (acc : Array Value) (c : Nat), (∀ b o, b ≠ s.heap.objs.size → (s.heap.push (seqObj "list" #[] 0)).get? b = some o → h'.get? b = some o) → h'.get? s.heap.objs.size = some { cls := .type "list", dict := none, data := .seq acc c, slots := #[] } → ItemsOf (fun i v => ∃ hi : i < es.size, v = es[i].key) acc es.size →
      wpAny (model prog w) A (do
        let o ← PySem.load s.heap.objs.size
        match o.data with
        | .seq xs _ => pure xs.toList
        | _ => PySem.unsupported "internal:collect") R E { s with heap := h', toks := tk } := fun h' tk acc c k1 k2 k3 => by
    refine wpAny_bind (wpAny_load k2 ?_)
    exact wpAny_pure (h h' tk acc (fun b o e => k1 b o (Nat.ne_of_lt (Heap.lt_size e)) (Heap.get?_push_of_some _ e)) (Heap.lt_size k2) k3)
  refine wpAny_mono (PySem.W.kdl_extend (A := A) (s := { s with heap := s.heap.push (seqObj "list" #[] 0) })
    (R := fun (q : Result) (s' : Shared) => q = .ok (.ret (.ref s.heap.objs.size)) ∧ ∃ (h' : Heap) (tk : Nat) (acc : Array Value) (c : Nat), s' = { s with heap := h', toks := tk } ∧ (∀ b o, b ≠ s.heap.objs.size → (s.heap.push (seqObj "list" #[] 0)).get? b = some o → h'.get? b = some o) ∧ h'.get? s.heap.objs.size = some { cls := .type "list", dict := none, data := .seq acc c, slots := #[] } ∧ ItemsOf (fun i v => ∃ hi : i < es.size, v = es[i].key) acc es.size)
    K hh raw2 s.heap.objs.size (Nat.ne_of_gt ha) (Nat.ne_of_gt ha) (.ref s.heap.objs.size) 0 (Heap.get?_push_size _ rfl)
    (fun h' tk acc c k1 k2 k3 => ⟨rfl, h', tk, acc, c, rfl, k1, k2, k3⟩) hn) (fun fin s' x => ?_) fun e s' x => ?_
  · cases fin with
    | done f =>
      obtain ⟨e, h', tk, acc, c, rfl, k1, k2, k3⟩ := x
      cases e
      exact body h' tk acc c k1 k2 k3
    | again c1 =>
      refine ⟨x.1, codeAny_mono x.2 fun q s2 y => ?_⟩
      obtain ⟨rfl, h', tk, acc, c, rfl, k1, k2, k3⟩ := y
      exact body h' tk acc c k1 k2 k3
  · cases x.1
theorem cr_srtD (hc : X.calm = true) : CallR X (.builtin "sorted") rSrtD := by
  intro pins s σ H vs us Q I r h
  obtain ⟨a, kvs, ss, rfl, hr, hk, h64, q⟩ := h
  rw [Vals.ref1 r]
  have hh := I.ok.hd hc
  obtain ⟨_, hs, vs, rel, o, es, ep, ho, hx, hd, hko, hp, _⟩ := dk_rd I.hok hr
  have raw : s.heap.DictRaw a es ep := ⟨o, ho, hx, hd⟩
  have l1 : es.size = vs.length := by rw [← hp.length]; exact Array.length_toList.symm
  have l2 : kvs.length = vs.length := Paired.length rel
  have l3 : kvs.length = ss.length := by have := congrArg List.length hk; simpa using this
  refine Calls.call_function_entry kind_sorted plain_sorted entry_sorted (args_sorted1 (.ref a)) ?_
  unfold Builtin.«sorted»
  refine wpAny_bind (m := checkCount "sorted" 1 1 _) (wpAny_pure ?_)
  refine wpAny_bind (collect_d hs hh raw (by rw [sizeLine_eq]; omega) fun h' tk acc keep hlt it => ?_)
  obtain ⟨i1, i2⟩ := it
  have hS : StrsAre acc.toList ss := by
    refine strs_of_at (by rw [Array.length_toList]; omega) fun i v hv => ?_
    obtain ⟨hi, e⟩ := i2 i v (by rw [← Array.getElem?_toList]; exact hv)
    obtain ⟨⟨k, x⟩, hkv⟩ : ∃ p, kvs[i]? = some p := ⟨_, List.getElem?_eq_getElem (by omega)⟩
    obtain ⟨u, hu, ru⟩ := kv_get rel hkv
    obtain ⟨q1, q2⟩ := hp.get? (by rw [Array.getElem?_toList]; exact Array.getElem?_eq_getElem hi) hu
    have hki : (ss.map Sum.inr)[i]? = some k := by rw [← hk, List.getElem?_map, hkv]; rfl
    rw [List.getElem?_map] at hki
    cases hsi : ss[i]? with
    | none => rw [hsi] at hki; cases hki
    | some z =>
      rw [hsi] at hki
      cases hki
      obtain ⟨t, et⟩ := (show ∃ t, es[i].key = Value.str z t from relV_key (show keyIs (.inr z) _ = true from q1))
      exact ⟨z, t, rfl, by rw [e, et]⟩
  have la : acc.toList.length = ss.length := by rw [Array.length_toList]; omega
  refine wpAny_bind (wpAny_newList ?_ (by rw [sizeLine_eq]; omega))
  have hsz : s.heap.objs.size ≤ h'.objs.size := Nat.le_of_lt hlt
  have oL : (h'.push (seqObj "list" acc.toList.toArray 0)).get? h'.objs.size = some (seqObj "list" acc.toList.toArray 0) := Heap.get?_push_size _ rfl
  show wpAny _ _ _ _ _ { s with heap := h'.push (seqObj "list" acc.toList.toArray 0), toks := tk }
  refine wpAny_bind (wpAny_holding (wpAny_call_entry slot_list_sort ⟨_, oL, rfl⟩ entry_list_sort (list_sort_treeK strKind_oneLt oL hS.keysOf (fun v1 v2 rest e => keyKind_strs (by rw [← e]; exact hS)) (by omega) fun st' b1 b2 => ⟨_, rfl, ?_⟩) (args_list_sort _)))
  obtain ⟨ys, c1, c2, c3⟩ := sorted_out_str hS b1 b2
  obtain rfl := srt_is lin_S c2 (ord_sortedS c3)
  obtain ⟨ep2, he⟩ := PyProof.Rows.sortedHeap_at (vs := acc.toList) (out := (arrOf st').map (·.2)) oL
  have hlen : ((srtB ltS ss).map V.str).length ≤ sizeLine := by rw [List.length_map, c2.length_eq, sizeLine_eq]; omega
  refine wpAny_pure ⟨_, rfl, ?_⟩
  exact ⟨.ref _, upd H h'.objs.size (.lst ((srtB ltS ss).map V.str)), I.laid (t' := tk) (fun b ob e => by
    rw [PyProof.Rows.sortedHeap_old (Nat.ne_of_lt (Nat.lt_of_lt_of_le (Heap.lt_size e) hsz)) (by rw [Heap.size_push]; exact Nat.lt_succ_of_lt (Nat.lt_of_lt_of_le (Heap.lt_size e) hsz))]
    exact Heap.get?_push_of_some _ (keep b ob e)) hsz ⟨hlen, _, ep2, vals_of_strs c1, he⟩, rfl, q _ (I.hok.fresh hsz)⟩
/-- {k: v}, the key a tuple -/
def tDisp1 (tk tv : TE) : TE := fun σ H Q => ∀ p, H p = none → tk σ (upd H p (.dT [])) fun y H1 => tv σ H1 fun z H2 => ∃ (b : Addr) (kk : List Key), y = .ref b ∧ H2 b = some (.tup (kk.map kV)) ∧ H2 p = some (.dT []) ∧ Q (.ref p) (upd H2 p (.dT [(kk, z)]))
theorem hu_room {X : Cx} (hu : X.A.units + 1 < cLine) : (tupleKind (mixKind X.prog X.w)).room X.A := hu_lt hu
theorem pe_disp1T {k v : Expr} {tk tv : TE} {pos : Pos} (hu : X.A.units + 1 < cLine) (hk : PE X k tk) (hv : PE X v tv) : PE X (.Dict [some k] [v] pos) (tDisp1 tk tv) := by
  refine ⟨fun pins s σ H Q I h => ?_⟩
  have hn := I.hok.fresh (Nat.le_refl s.heap.objs.size)
  have I1 := I.laid (a := s.heap.objs.size) (o := .dT []) (h' := s.heap.push { cls := .type "dict", data := .dict #[] }) (t' := s.toks) (fun _ _ q => Heap.get?_push_of_some _ q) (Nat.le_refl _) (dt_empty s.heap I.big)
  have hz := zip_pairTrees [some k] [v] X.env pos rfl rfl
  rw [arm_eval_Dict, hz, dictDisplay_pairs (pairTrees [some k] [v] X.env pos) (by simp [pairTrees]) (by simp [pairTrees])]
  refine wpAny_bind (wpAny_standAt (wpAny_bind (wpAny_subDictH (knd := tupleKind (mixKind X.prog X.w)) (Q := fun d s' => wpAny (model X.prog X.w) X.A (pure (Value.ref d)) (EP X pins σ Q) X.xe s') (hu_room hu) (by simp [pairTrees]) ?_)))
  refine pairTrees_cons_walk (thn (hk.run pins _ σ _ _ I1 (h _ hn)) fun u s1 ⟨y, H1, I2, ry, q1⟩ => thn (hv.run pins s1 σ H1 _ I2 q1) fun u2 s2 ⟨z, H2, I3, rz, b, kk, ey, hb, hp, q2⟩ => pairTrees_nil_walk ?_)
  subst ey
  obtain rfl : u = Value.ref b := ry
  obtain ⟨_, hs, xs, rel, dd⟩ := dt_of I3.hok hp
  cases rel
  refine ⟨[(kk, b, u2)], ⟨rfl, rfl, key_of I3.hok hb, trivial⟩, dd, fun h' tk dd' sb => wpAny_pure ⟨.ref s.heap.objs.size, _, ?_, rfl, q2⟩⟩
  obtain ⟨o, es, ep, g1, g2, g3, g4, _, g5⟩ := dd'
  refine d_write I3 (by rw [hp]; exact True.intro) sb ⟨o, g1⟩ ⟨by show 1 ≤ sizeLine; decide, hs, [(kk, b, u2)], .cons ⟨rfl, ?_, rz⟩ .nil, o, es, ep, g1, g2, g3, g4, g5⟩
  rw [upd_ne (ne_of hb hp (fun z => nomatch z))]
  exact hb
/-- what comes may be locked -/
def tLk (t : TE) : TE := fun σ H Q => t σ H fun v H1 => Q v H1 ∨ ∃ a u, v = .ref a ∧ H1 a = some u ∧ isDct u = true ∧ ∀ od, Q v (upd H1 a (.frz od u))
theorem pe_lk {e : Expr} {t : TE} (h : PE X e t) : PE X e (tLk t) := ⟨fun pins s σ H Q I hw => thn (h.run pins s σ H _ I hw) fun u s1 ⟨v, H1, I1, rv, q⟩ => by
  rcases q with q | ⟨a, o, rfl, ha, hd, q⟩
  · exact ⟨v, H1, I1, rv, q⟩
  · obtain ⟨od, I2⟩ := I1.lock ha (by cases o <;> first | trivial | cases hd)
    exact ⟨_, _, I2, rv, q od⟩⟩
def tLkS (t : TS) : TS := fun D σ H => t D σ H ∨ ∃ a u, H a = some u ∧ isDct u = true ∧ ∀ od, t D σ (upd H a (.frz od u))
theorem pss_lk {st : List Stmt} {t : TS} (h : PSs X st t) : PSs X st (tLkS t) := ⟨fun pins s σ H D I hw => by
  rcases hw with hw | ⟨a, o, ha, hd, q⟩
  · exact h.run pins s σ H D I hw
  · obtain ⟨od, I2⟩ := I.lock ha (by cases o <;> first | trivial | cases hd)
    exact h.run pins s σ _ D I2 (q od)⟩
end
end EV

set_option Elab.async false
set_option linter.all false
set_option maxRecDepth 100000
set_option maxHeartbeats 1000000
namespace EV
open PySem PySem.Spec PyProof.Rows L2
/-! defs called where no repr is under way -/
def Calm (A : Around) : Prop := A.guards = some []
theorem Calm.deep {A : Around} (h : Calm A) (env : PySem.Env) : Calm (A.deeper env) := h
theorem Calm.mk {A : Around} (h : Calm A) (C : Addr) (us : List Value) (kw : List (Str × Value)) : Calm (A.under (.builtin "type.__call__" ⟨.ref C :: us, kw⟩)) := by
  have e : (Code.builtin "type.__call__" ⟨.ref C :: us, kw⟩).guards = [] := by
    unfold Code.guards
    rw [if_neg (by show ¬ (guardIds.contains "type.__call__" = true); decide +kernel)]
  unfold Calm Around.under
  simp only
  rw [e, show A.guards = some [] from h]
  rfl
/-- a def's promise, made where all is calm -/
structure FnG (P : Program) (w : World) (K : PySem.W.Frag) (mg : Str → Option Value) (base : Heap) (CX : CXT) (k : Nat) (f : Addr) (fd : FuncData) (ps : List Str) (sp : Sp) : Prop where
  ar : ∀ vs H Q E, sp vs H Q E → vs.length = ps.length
  go : ∀ (A : Around) (outer : List PySem.Env) (s : Shared) (H : Hp) (args : Args) (us : List Value) (vs : List V) (Q : VK) (E : XK), Calm A → Room k A → Env0 P w K mg base A outer s H → BindsTo s fd args (ps.zip us) → Vals vs us → sp vs H Q E →
    codeAny (model P w) A (.call (.ref f) args) (CR CX outer P w H s Q E) s
section
variable {X : Cx} {CX : CXT} {k : Nat} {f C : Addr} {fd : FuncData} {ps : List Str} {sp : Sp} {dvs : List V} {ds : List Value} {E : XK} {x m : Str} {p pos apos : Pos} {e o : Expr} {es : List Expr} {ta : TE} {t : TA}
def Back (X : Cx) (pins : List (Addr × Obj)) (σ : L2.St) (Q : VK) : Result → Shared → Prop
  | .ok (.ret u), s' => EP X pins σ Q u s'
  | .ok _, _ => False
  | .error z, s' => X.xe z s'
theorem back_any {pins : List (Addr × Obj)} {σ : L2.St} {H : Hp} {s : Shared} {Q : VK} (hx : PassesAt CX X σ E) (I : Inv X pins σ H s) {r : Result} {s' : Shared} (hq : CR CX X.stack X.prog X.w H s Q E r s') : Back X pins σ Q r s' := by
  cases r with
  | error z => exact hx pins H s z s' I hq
  | ok fl => cases fl <;> first | exact Inv.after I hq | exact False.elim hq
theorem atP (hx : Passes CX X E) {σ : L2.St} : PassesAt CX X σ E := fun p H s e s' => hx p σ H s e s'
theorem go_fn {pins : List (Addr × Obj)} {σ : L2.St} {H : Hp} {s : Shared} {Q : VK} {us : List Value} {vs : List V} (F : FnG X.prog X.w X.K X.mg X.base CX k f fd ps sp) (hg : Calm X.A) (hr : Room k X.A) (hb : Binds X.K fd ps ds) (hd : Vals dvs ds) (hx : PassesAt CX X σ E)
    (I : Inv X pins σ H s) (r : Vals vs us) (h : sp (vs ++ dvs) H Q E) : wpAny (model X.prog X.w) X.A (call (.ref f) us) (EP X pins σ Q) X.xe s := by
  have all : Vals (vs ++ dvs) (us ++ ds) := Vals.append r hd
  have many : (us ++ ds).length = ps.length := (all.length).symm.trans (F.ar _ _ _ _ h)
  have run := F.go X.A X.stack s H ⟨us, []⟩ (us ++ ds) (vs ++ dvs) Q E hg hr (Inv.env0 I) (hb s us (Inv.kIn I) many) all h
  refine wpAny_call (codeAny_mono run fun r1 s1 h1 => ?_)
  have z := back_any hx I h1
  rcases r1 with u | fl
  · exact z
  · cases fl <;> first | exact z | exact False.elim z
theorem pe_fn (F : FnG X.prog X.w X.K X.mg X.base CX k f fd ps sp) (hc : Calm X.A) (hr : Room k X.A) (hg : Gl X x) (hm : X.mg x = some (.ref f)) (hk : PySem.W.keepIn X.K (.ref f) = true) (hb : Binds X.K fd ps ds) (hd : Vals dvs ds) (hx : Passes CX X E)
    (ha : PA X (e :: es) t) (hdb : (x == ("__debug__" : Str)) = false) (he : starEach (e :: es) X.env = (false, eval e X.env) :: starEach es X.env) (hpl : (backTo pos (starEach es X.env)).any (·.1) = false) :
    PE X (.Call (.Name x p) (e :: es) [] pos) (tCall sp dvs E t) :=
  ⟨fun pins s σ H Q I h => wpAny_Call_Name_kw (ld_glob I hg hm (PySem.W.callWith_K (h₀ := X.base) I.ok.mod.kin hk (thn (ha.run pos pins s σ H _ I h) fun us s1 ⟨vs, H1, I1, r, q⟩ => ⟨I1.kIn, go_fn F hc hr hb hd (atP hx) I1 r q⟩) he hpl) hdb)⟩
theorem pe_fn0 (F : FnG X.prog X.w X.K X.mg X.base CX k f fd ps sp) (hc : Calm X.A) (hr : Room k X.A) (hg : Gl X x) (hm : X.mg x = some (.ref f)) (hk : PySem.W.keepIn X.K (.ref f) = true) (hb : Binds X.K fd ps ds) (hd : Vals dvs ds) (hx : Passes CX X E)
    (hdb : (x == ("__debug__" : Str)) = false) : PE X (.Call (.Name x p) [] [] pos) (tCall sp dvs E tNil) :=
  ⟨fun pins s σ H Q I h => wpAny_Call_Name_kw (ld_glob I hg hm (PySem.W.callWith_K0 I.kIn hk (go_fn (us := []) F hc hr hb hd (atP hx) I .nil h)) hdb)⟩
/-- a call of what a slot holds -/
def tVar (X : Cx) (CX : CXT) (k i : Nat) (E : XK) (t : TA) : TE := fun σ H Q => ∃ (f : Addr) (fd : FuncData) (ps : List Str) (sp : Sp), σ[i]? = some (some (.ref f)) ∧ FnG X.prog X.w X.K X.mg X.base CX k f fd ps sp ∧ PySem.W.keepIn X.K (.ref f) = true ∧ Binds X.K fd ps [] ∧ t σ H fun vs H1 => sp vs H1 Q E
theorem pe_fnv {i : Nat} (hc : Calm X.A) (hr : Room k X.A) (hN : X.N[i]? = some x) (hv : Vis X.env.scope x) (hx : Passes CX X E) (ha : PA X (e :: es) t) (hdb : (x == ("__debug__" : Str)) = false) (hcd : (x == ("__classdict__" : Str)) = false)
    (he : starEach (e :: es) X.env = (false, eval e X.env) :: starEach es X.env) (hpl : (backTo pos (starEach es X.env)).any (·.1) = false) : PE X (.Call (.Name x p) (e :: es) [] pos) (tVar X CX k i E t) := by
  refine ⟨fun pins s σ H Q I ⟨f, fd, ps, sp, hs, F, hk, hb, ht⟩ => wpAny_Call_Name_kw (thn ((pe_var (pos := p) hN hv hdb hcd).run pins s σ H (fun v H1 => v = .ref f ∧ H1 = H) I ⟨.ref f, hs, rfl, rfl⟩) fun u s1 ⟨v, H1, I1, r1, q1⟩ => ?_)⟩
  obtain ⟨e1, e2⟩ := q1
  subst e1; subst e2
  cases r1
  exact PySem.W.callWith_K (h₀ := X.base) I.ok.mod.kin hk (thn (ha.run pos pins s1 σ _ _ I1 ht) fun us s2 ⟨vs, H2, I2, r, q⟩ => ⟨I2.kIn, go_fn (dvs := []) F hc hr hb .nil (atP hx) I2 r (by rw [List.append_nil]; exact q)⟩) he hpl
theorem go_make {pins : List (Addr × Obj)} {σ : L2.St} {H : Hp} {s : Shared} {Q : VK} {us : List Value} {vs : List V} (M : Mk X.K C f) (F : FnG X.prog X.w X.K X.mg X.base CX k f fd ps sp) (hc : Calm X.A) (hr : Room (k + 1) X.A) (hb : Binds X.K fd ps ds) (hd : Vals dvs ds)
    (hx : PassesAt CX X σ E) (I : Inv X pins σ H s) (r : Vals vs us)
    (h : ∀ x dx, H x = none → H dx = none → dx ≠ x → sp (.ref x :: (vs ++ dvs)) (upd (upd H dx (.own x)) x (.ins C dx [])) (fun v H2 => v = .non ∧ Q (.ref x) H2) E) :
    wpAny (model X.prog X.w) X.A (call (.ref C) us) (EP X pins σ Q) X.xe s := by
  have hz := h (s.heap.objs.size + 1) s.heap.objs.size (I.hok.fresh (Nat.le_succ _)) (I.hok.fresh (Nat.le_refl _)) (Nat.ne_of_lt (Nat.lt_add_one _))
  have J := Inv.made (C := C) I
  have all : Vals (V.ref (s.heap.objs.size + 1) :: (vs ++ dvs)) (Value.ref (s.heap.objs.size + 1) :: (us ++ ds)) := .cons rfl (Vals.append r hd)
  have many : (Value.ref (s.heap.objs.size + 1) :: us ++ ds).length = ps.length := (all.length).symm.trans (F.ar _ _ _ _ hz)
  have run := F.go _ X.stack _ _ ⟨Value.ref (s.heap.objs.size + 1) :: us, []⟩ (Value.ref (s.heap.objs.size + 1) :: (us ++ ds)) _ _ E (hc.mk C us []) (hr.make C us []) ((Inv.env0 J).make C us []) (hb _ (Value.ref (s.heap.objs.size + 1) :: us) (Inv.kIn J) many) all hz
  refine wpAny_call (make_map (f := f) (Inv.kIn I) M.makes M.init (eq_of_beq M.fn) (codeAny_mono run fun r1 s1 h1 => ?_))
  have z := back_any hx J h1
  rcases r1 with u | fl
  · exact z
  · cases fl <;> first | exact False.elim z | skip
    obtain ⟨v, H', I3, rv, ev, q3⟩ := z
    cases ev
    exact ⟨rv, V.ref (s.heap.objs.size + 1), H', I3, rfl, q3⟩
theorem pe_mkg (M : Mk X.K C f) (F : FnG X.prog X.w X.K X.mg X.base CX k f fd ps sp) (hc : Calm X.A) (hr : Room (k + 1) X.A) (hg : Gl X x) (hm : X.mg x = some (.ref C)) (hb : Binds X.K fd ps ds) (hd : Vals dvs ds) (hx : Passes CX X E)
    (ha : PA X (e :: es) t) (hdb : (x == ("__debug__" : Str)) = false) (he : starEach (e :: es) X.env = (false, eval e X.env) :: starEach es X.env) (hpl : (backTo pos (starEach es X.env)).any (·.1) = false) :
    PE X (.Call (.Name x p) (e :: es) [] pos) (tMake C sp dvs E t) :=
  ⟨fun pins s σ H Q I h => wpAny_Call_Name_kw (ld_glob I hg hm (PySem.W.callWith_K (h₀ := X.base) I.ok.mod.kin M.kp (thn (ha.run pos pins s σ H _ I h) fun us s1 ⟨vs, H1, I1, r, q⟩ => ⟨I1.kIn, go_make M F hc hr hb hd (atP hx) I1 r q⟩) he hpl) hdb)⟩
theorem pe_mkg0 (M : Mk X.K C f) (F : FnG X.prog X.w X.K X.mg X.base CX k f fd ps sp) (hc : Calm X.A) (hr : Room (k + 1) X.A) (hg : Gl X x) (hm : X.mg x = some (.ref C)) (hb : Binds X.K fd ps ds) (hd : Vals dvs ds) (hx : Passes CX X E)
    (hdb : (x == ("__debug__" : Str)) = false) : PE X (.Call (.Name x p) [] [] pos) (tMake C sp dvs E tNil) :=
  ⟨fun pins s σ H Q I h => wpAny_Call_Name_kw (ld_glob I hg hm (PySem.W.callWith_K0 I.kIn M.kp (go_make (us := []) M F hc hr hb hd (atP hx) I .nil h)) hdb)⟩
end
/-- xs.remove(s), texts, s among them -/
def eqT (k : Str) (v : Value) : Bool := match v with
  | .str z _ => z.cps.toList == k.cps.toList
  | _ => false
theorem eqT_iff {k z : Str} {t : Tok} : eqT k (.str z t) = decide (z = k) := by
  show (z.cps.toList == k.cps.toList) = _
  by_cases h : z = k
  · rw [h, decide_eq_true rfl]; exact beq_self_eq_true _
  · rw [decide_eq_false h]
    refine beq_eq_false_iff_ne.mpr fun e => h ?_
    cases z; cases k
    congr 1
    exact Array.toList_inj.mp e
theorem strs_vals : ∀ {us : List Value} {ss : List Str}, Vals (ss.map V.str) us → us.length = ss.length ∧ ∀ (m : Nat) (s : Str), ss[m]? = some s → ∃ t, us[m]? = some (.str s t)
  | _, [], r => by cases r; exact ⟨rfl, fun m s h => by simp at h⟩
  | _, s :: ss, r => by
    cases r with
    | cons h t =>
      obtain ⟨i1, i2⟩ := strs_vals t
      obtain ⟨tk, rfl⟩ := h
      refine ⟨congrArg Nat.succ i1, fun m z e => ?_⟩
      cases m with
      | zero => have e : s = z := by simpa using e
                subst e; exact ⟨tk, rfl⟩
      | succ m => exact i2 m z (by simpa using e)
def rRemS : V → List V → Hp → VK → Prop := fun x xs H Q => ∃ (l : Addr) (ss : List Str) (k : Str) (j : Nat), x = .ref l ∧ xs = [.str k] ∧ H l = some (.lst (ss.map V.str)) ∧ ss[j]? = some k ∧ (∀ m : Nat, m < j → ss[m]? ≠ some k) ∧ Q .non (upd H l (.lst ((ss.map V.str).eraseIdx j)))
theorem mt_removeS {X : Cx} : MtM X "list.remove" rRemS := by
  intro pins s σ H x xs v us Q I rx rxs h
  obtain ⟨l, ss, k, j, rfl, rfl, hH, hj, hno, q⟩ := h
  cases rx
  obtain ⟨u, rfl, ru⟩ := rxs.one
  obtain ⟨t, rfl⟩ := ru
  obtain ⟨z, its, n, r, hl, e⟩ := I.lstM hH
  obtain ⟨q1, q2⟩ := strs_vals r
  have zz : ss.length ≤ sizeLine := by rw [List.length_map] at z; exact z
  have hjn : j < ss.length := (List.getElem?_eq_some_iff.mp hj).1
  have hjl : j < its.toArray.size := by rw [List.size_toArray]; omega
  have give : ∀ y ∈ its.toArray, MeetsSeq.EqGives y (.str k t) (eqT k y) := fun y hy => by
    obtain ⟨i, hi⟩ := List.mem_iff_getElem?.mp (show y ∈ its by simpa using hy)
    have hil := (List.getElem?_eq_some_iff.mp hi).1
    obtain ⟨tm, hm⟩ := q2 i _ (List.getElem?_eq_getElem (show i < ss.length by omega))
    rw [hi] at hm
    rw [Option.some.inj hm]
    exact SeqRoads2.EqGives.str _ k tm t
  refine call_meets PySem.F.slot_list_remove ⟨_, e, rfl⟩ PySem.F.entry_list_remove (PySem.F.args_list_remove_2 _ _)
    (MeetsSeq.list_remove l its.toArray n (.str k t) (eqT k) give j hjl ?_ ?_ (by rw [List.size_toArray]; omega)) ⟨e, ?_⟩
  · obtain ⟨tj, hjt⟩ := q2 j k hj
    have e1 : its.toArray[j] = .str k tj := by simpa using (List.getElem?_eq_some_iff.mp hjt).2
    rw [e1, eqT_iff]
    exact decide_eq_true rfl
  · intro m hm hmj
    have hmn : m < ss.length := by omega
    obtain ⟨tm, hmt⟩ := q2 m _ (List.getElem?_eq_getElem hmn)
    have e1 : its.toArray[m] = .str ss[m] tm := by simpa using (List.getElem?_eq_some_iff.mp hmt).2
    rw [e1, eqT_iff]
    exact decide_eq_false fun e2 => hno m hmj (by rw [List.getElem?_eq_getElem hmn, e2])
  · have rr := r.eraseIdx j
    refine ⟨.non, _, I.lset (its' := its.eraseIdx j) (t' := s.toks) hH e ?_ rr ?_, rfl, q⟩
    · show its.toArray.eraseIdxIfInBounds j = (its.eraseIdx j).toArray
      rw [List.eraseIdxIfInBounds_toArray]
    · rw [List.length_eraseIdx, List.length_map]
      split <;> omega
def rCntS (K : PySem.W.Frag) : V → List V → Hp → VK → Prop := fun x xs H Q => ∃ (p : Addr) (ss : List Str) (k : Str), x = .ref p ∧ xs = [.str k] ∧ SqL K H p (ss.map V.str) ∧ Q (.int (ss.count k : Nat)) H
theorem cnt_strs {k : Str} : ∀ {us : List Value} {ss : List Str}, Vals (ss.map V.str) us → us.countP (eqT k) = ss.count k
  | _, [], r => by cases r; rfl
  | _, s :: ss, r => by
    cases r with
    | cons h t =>
      obtain ⟨tk, rfl⟩ := h
      rw [List.countP_cons, List.count_cons, cnt_strs t, eqT_iff]
      by_cases e : s = k
      · rw [if_pos (by simpa using e), if_pos (by simpa using e)]
      · rw [if_neg (by simpa using e), if_neg (by simpa using e)]
theorem mt_lcountS {X : Cx} : MtR X "list.count" (rCntS X.K) := by
  intro pins s σ H x xs v us Q I rx rxs h
  obtain ⟨p, ss, k, rfl, rfl, hs, q⟩ := h
  cases rx
  obtain ⟨u, rfl, ru⟩ := rxs.one
  obtain ⟨t, rfl⟩ := ru
  obtain ⟨its, rv, ⟨⟨cls, dd, data, sl⟩, n, ho, hc, hdn, hd⟩, hlen⟩ := I.list hs
  simp only at hc hd
  subst hc hd
  obtain ⟨q1, q2⟩ := strs_vals rv
  have give : ∀ y ∈ its.toArray, MeetsSeq.EqGives y (.str k t) (eqT k y) := fun y hy => by
    obtain ⟨i, hi⟩ := List.mem_iff_getElem?.mp (show y ∈ its by simpa using hy)
    have hil := (List.getElem?_eq_some_iff.mp hi).1
    obtain ⟨tm, hm⟩ := q2 i _ (List.getElem?_eq_getElem (show i < ss.length by omega))
    rw [hi] at hm
    rw [Option.some.inj hm]
    exact SeqRoads2.EqGives.str _ k tm t
  refine call_meets PySem.F.slot_list_count ⟨_, ho, rfl⟩ PySem.F.entry_list_count (PySem.F.args_list_count_2 _ _)
    (SeqAt.list_countAt p its.toArray n dd sl (.str k t) (eqT k)) ⟨ho, fun y hy => (give y hy).at _ _, ?_⟩
  have ec : its.toArray.toList.countP (eqT k) = ss.count k := cnt_strs rv
  refine ⟨.int (ss.count k : Nat), H, I.tok _, ⟨s.toks, ?_⟩, q⟩
  show Value.int ((its.toArray.toList.countP (eqT k) : Nat) : Int) s.toks = Value.int ((ss.count k : Nat) : Int) s.toks
  rw [ec]
theorem erase_at {s : Str} : ∀ {ss : List Str}, s ∈ ss → ∃ j, ss[j]? = some s ∧ (∀ m : Nat, m < j → ss[m]? ≠ some s) ∧ ss.erase s = ss.eraseIdx j
  | [], h => by cases h
  | z :: ss, h => by
    by_cases e : z = s
    · subst e
      exact ⟨0, rfl, fun m hm => absurd hm (Nat.not_lt_zero m), by rw [List.erase_cons_head]; rfl⟩
    · obtain ⟨j, h1, h2, h3⟩ := erase_at ((List.mem_cons.mp h).elim (fun q => absurd q.symm e) id)
      refine ⟨j + 1, by simpa using h1, fun m hm => ?_, by rw [List.erase_cons_tail (by simpa using e), h3]; rfl⟩
      cases m with
      | zero => simpa using e
      | succ m => have := h2 m (by omega); simpa using this
/-- the greatest of a dict's values -/
def tTopVals (td : TE) : TE := fun σ H Q => td σ H fun x H1 => ∃ a kvs is, x = V.ref a ∧ H1 a = some (.dK kvs) ∧ kvs.map (·.2) = is.map V.int ∧ is ≠ [] ∧ ∀ m, m ∈ is → (∀ j ∈ is, j ≤ m) → Q (.int m) H1
theorem pe_topVals {X : Cx} {o : Expr} {p pos apos mpos : Pos} {td : TE} (hc : X.calm = true) (hg : Gl X "max") (hm : X.mg "max" = none) (hd : PE X o td) (hbase : attributeBase o "values" X.env (eval o X.env) = eval o X.env) (hline : (apos.endLine == mpos.line) = true)
    (hse : starEach [Expr.Call (.Attribute o "values" apos) [] [] mpos] X.env = [(false, eval (Expr.Call (.Attribute o "values" apos) [] [] mpos) X.env)] := by rfl) :
    PE X (.Call (.Name "max" p) [.Call (.Attribute o "values" apos) [] [] mpos] [] pos) (tTopVals td) := by
  refine ⟨fun pins s σ H Q I h => ?_⟩
  refine wpAny_Call_Name_kw (ld_blt I hg hm (u := .builtin "max") (by first | rfl | decide +kernel) ?_ (by first | decide +kernel | decide) (by first | decide +kernel | decide))
  rw [hse]
  refine PySem.callWith_builtin1 (wpAny_Call_method0_late hbase hline (thn (hd.run pins s σ H _ I h) fun v s1 ⟨x, H1, I1, r1, a, kvs, is, ex, ha, hv, hne, q⟩ => ?_))
  subst ex
  obtain rfl : v = Value.ref a := r1
  obtain ⟨_, hsys, vs, rel, dof⟩ := dk_of I1.hok ha
  obtain ⟨ep, dat⟩ := dof.dictAt
  obtain ⟨ob, es, ho, ex, _⟩ := id dat
  refine ⟨"dict", "dict.values", F.plainAttrs_dict, F.slot_dict_values, F.type_dict_values, ⟨ob, ho, ex.1⟩, fun b e => ?_, Calls.callWith_builtin rfl (PySem.evalArgs_none ?_)⟩
  · cases e
    exact ⟨ob, ho, ex.2.1⟩
  refine call_meetsIn F.slot_dict_values ⟨ob, ho, ex.1⟩ F.entry_dict_values (F.args_dict_values_1 _) (meets_dict_values (mixKind X.prog X.w) a hsys) ⟨⟨vs, dof⟩, ?_⟩
  generalize hh : s1.heap.push { cls := .type "dict_values", data := .fields #[.ref a] } = h2
  have view : h2.get? s1.heap.objs.size = some { cls := .type "dict_values", data := .fields #[.ref a] } := by rw [← hh]; exact Heap.get?_push_size _ rfl
  have size : h2.objs.size = s1.heap.objs.size + 1 := by rw [← hh]; exact Heap.size_push _ _
  have old : ∀ b u, s1.heap.get? b = some u → h2.get? b = some u := fun b u e => by rw [← hh]; exact Heap.get?_push_of_some _ e
  have all : vs.length = is.length := by
    have e1 := congrArg List.length hv
    rw [List.length_map, List.length_map] at e1
    rw [← e1]
    exact (KV.length rel).symm
  have some_ : 0 < is.length := List.length_pos_iff.mpr hne
  have hval : ∀ (i : Nat) (v : Value), (∃ k, vs[i]? = some (k, v)) → ∃ t, v = Value.int (is.getD i 0) t := fun i v ⟨k, hk⟩ => by
    obtain ⟨x, h1, h2⟩ := KV.at' rel hk
    have e1 : (is.map V.int)[i]? = some x := by rw [← hv, List.getElem?_map, h1]; rfl
    rw [List.getElem?_map] at e1
    obtain ⟨j, hj, rfl⟩ := Option.map_eq_some_iff.mp e1
    obtain ⟨t, e3⟩ := h2
    exact ⟨t, by rw [e3, List.getD_eq_getElem?_getD, hj]; rfl⟩
  have below : a < s1.heap.objs.size := Heap.lt_size ho
  refine call_max_walk (wpAny_pyIter_values (v := s1.heap.objs.size) (d := a) ⟨_, view, rfl, rfl⟩ (dat.keep old) ?_)
  refine ⟨_, _, _, _, _, _, _, rfl, Walks.dictValues (knd := mixKind X.prog X.w) (A := X.A.in1) (I1.ok.hd hc) h2.objs.size a (Nat.ne_of_lt (Nat.lt_of_lt_of_eq (Nat.lt_succ_of_lt below) size.symm)) vs ep,
    ⟨⟨_, Heap.get?_push_size _ rfl, rfl, rfl⟩, (dat.keep old).keep fun b u e => Heap.get?_push_of_some _ e⟩, fun b hb => ?_, all ▸ some_, CmpOf.ints_gt (fun i => is.getD i 0) hval, fun v h' tk hP hk => ?_⟩
  · show b < (h2.push _).objs.size
    rw [Heap.size_push]
    rcases List.mem_cons.mp hb with e | hb
    · rw [e]; exact Nat.lt_succ_self _
    · rw [List.mem_singleton.mp hb]
      exact Nat.lt_succ_of_lt (Nat.lt_of_lt_of_eq (Nat.lt_succ_of_lt below) size.symm)
  · obtain ⟨t, rfl⟩ := hval _ v hP
    obtain ⟨b1, b2⟩ := argBest_gt (fun i => is.getD i 0) (vs.length - 1)
    refine ⟨.int _, H1, I1.kept (t' := tk) fun b u e => hk b u (fun hmem => ?_) (Heap.get?_push_of_some _ (old b u e)), ⟨t, rfl⟩, q _ ?_ fun j hj => ?_⟩
    · have e2 := Heap.lt_size e
      rw [List.mem_singleton.mp hmem, size] at e2
      exact Nat.lt_irrefl _ (Nat.lt_of_succ_lt e2)
    · have hb : argBest (fun i j => decide (is.getD i 0 > is.getD j 0)) (vs.length - 1) < is.length := by omega
      rw [List.getD_eq_getElem?_getD, List.getElem?_eq_getElem hb]
      exact List.getElem_mem hb
    · obtain ⟨i, hi, e⟩ := List.mem_iff_getElem.mp hj
      have e2 : is.getD i 0 = j := by rw [List.getD_eq_getElem?_getD, List.getElem?_eq_getElem hi, ← e]; rfl
      rw [← e2]
      exact b2 i (by omega)
/-- a def, by its body -/
theorem fng_of {CX : CXT} {P : Program} {w : World} {K : PySem.W.Frag} {mg : Str → Option Value} {base : Heap} {k : Nat} {f : Addr} {name qual : Str} {params : Arguments} {body : List Stmt} {scope : Scope} {fd : FuncData} {dvs : List V} {kws : List (Str × V)}
    {N ps : List Str} {sp : Sp} (D : FunD K name qual params body scope dvs kws f fd) (S : FnScope N ps scope) (len : ∀ vs H Q E, sp vs H Q E → vs.length = ps.length)
    (hbody : ∀ (cdv : Value) (A : Around) (outer : List PySem.Env) (s : Shared) (H : Hp) (vs : List V) (Q : VK) (E : XK), Calm A → Room k (A.deeper (envOfC qual scope s.heap.objs.size f cdv)) → sp vs H Q E →
      ∃ t, PSs (cxOf CX P w K mg base N qual scope f cdv A outer s H E) body t ∧ t { nx := fun _ H' => Q .non H', rt := Q } (L2.start N vs) H) :
    FnG P w K mg base CX (k + 1) f fd ps sp := by
  obtain ⟨oc, od, dV, kV, doc, pm, an, cdv, ct, osl, rfl, lk, hcd, _, _⟩ := D.ex
  refine ⟨len, fun A outer s H args us vs Q E hc hr e0 hb r hsp => ?_⟩
  have inS : K.In s.heap := PySem.W.Frag.In.keeps e0.mod.kin fun b o e => (e0.bs b o e).1
  have noL : s.heap.NoLimit := Heap.NoLimit.keeps e0.mod.nolimit fun b o e => (e0.bs b o e).1
  have kinds : ∀ y ∈ ps.zip us, scope.names.lookup y.1 = some .local ∨ (scope.names.lookup y.1 = some .cell ∧ ((cellsFrom (s.heap.objs.size + 1) scope.names []).lookup y.1).isSome = true) := by
    rintro ⟨n, v⟩ hy
    exact (S.par n (List.of_mem_zip hy).1).imp id fun q => ⟨q, PySem.W.cellsFrom_some _ _ _ (.inl q)⟩
  refine codeAny_call_function hr.depth (inS _ _ lk) rfl S.co S.gen rfl (PySem.W.codeRec_of inS hcd) (hb _ _ _ _ (wpAny_newFunctionEnv_cells S.kind kinds fun env he s1 x => ?_))
  subst he
  obtain ⟨t, ht, hq⟩ := hbody cdv A outer s H vs Q E hc (hr.deeper _) hsp
  have I := inv_start (CX := CX) (f := f) (qual := qual) (cd := cdv) (E := E) S hr.hd e0 (len _ _ _ _ hsp) r x
  refine ⟨Heap.NoLimit.keeps noL x.toInCall.keep, codeAny_func (wpAny_mono (ht.run [] s1 (L2.start N vs) H _ I hq) (fun fl s' hs => ?_) fun e s' hs => hs)⟩
  match fl, hs with
  | .ret u, ⟨v, σ', H', J, rv, q⟩ => exact ⟨v, H', J.os, J.bare, J.base, J.hok, rv, q⟩
  | .next, ⟨σ', H', J, q⟩ => exact ⟨V.non, H', J.os, J.bare, J.base, J.hok, rfl, q⟩
  | .brk, ⟨_, _, _, q⟩ => exact q.elim
  | .cont, ⟨_, _, _, q⟩ => exact q.elim
/-! the law's call -/
section
variable {P : Program} {w : World} {K : PySem.W.Frag} {mg mb : Str → Option Value} {s₁ : Shared} {a : Addr} {vs : List Value} {ns : List Int}
theorem list_no_dict {b : Addr} {o : Obj} {es : Array DictEntry} {ep : Nat} {H : Hp} (ha : s₁.heap.get? a = some { cls := .type "list", data := .seq vs.toArray }) (hA : ∀ b, H b ≠ none → b = a) (e : s₁.heap.get? b = some o) (d : o.data = .dict es ep) : H b = none := by
  by_cases q : H b = none
  · exact q
  · obtain rfl := hA b q
    rw [ha] at e
    cases e
    cases d
theorem call_core {CX : CXT} {k : Nat} {fa : Addr} {fd : FuncData} {x : Str} {sp : Sp} {H : Hp}
    (KX : K.In s₁.heap) (hns : s₁.heap.Ns mainGlobals mg) (hb : s₁.heap.Ns builtinsNs mb) (hbb : ∀ x : Str, x ≠ "__name__" → mb x = bootBuiltins x) (hlim : s₁.heap.NoLimit) (hg : s₁.gens = #[])
    (ha : s₁.heap.get? a = some { cls := .type "list", data := .seq vs.toArray }) (hr : Room k callerA)
    (F : ∀ base : Heap, K.In base → base.Ns mainGlobals mg → FnG P w K mg base CX k fa fd [x] sp) (hbind : ∀ (s : Shared) (u : Value), BindsTo s fd ⟨[u], []⟩ [(x, u)])
    (hO : Only H) (hok : HOk P w H s₁.heap) (hA : ∀ b, H b ≠ none → b = a) (hK : H a ≠ none → K.lookup a = none)
    (hsp : sp [.ref a] H (fun v _ => v = .bl true) fun _ _ _ => False) (hCX : ∀ e s', CX [] H s₁ (fun _ _ _ => False) e s' → False) :
    codeAny (model P w) callerA (.call (.ref fa) ⟨[.ref a], []⟩) (fun r s' => r = .ok (.ret (.bool true)) ∧ OldK s₁.heap s'.heap ∧ s'.os = s₁.os ∧ AllBare s'.gens) s₁ := by
  have see : ∀ {b : Addr} {m : Str → Option Value}, s₁.heap.Ns b m → (hidT s₁.heap H).Ns b m := fun ⟨o, es, ep, e, d, r⟩ => ⟨o, es, ep, hidT_get e (list_no_dict ha hA e d), d, r⟩
  have part : K.In (hidT s₁.heap H) := fun b o e => hidT_get (KX b o e) (by
    by_cases q : H b = none
    · exact q
    · obtain rfl := hA b q
      rw [hK q] at e
      cases e)
  obtain ⟨mc, lim1, lim2⟩ := hlim
  have env : Env0 P w K mg (hidT s₁.heap H) callerA [] s₁ H := { frames := rfl, mod := ⟨part, see hns, ⟨mb, see hb, hbb⟩, mc, see lim1, lim2⟩, bs := fun b o e => of_hidT e, bsz := Nat.le_of_eq (hidT_size _ _), funs := trivial, frf := fun b hb => (nomatch hb), hok := hok, bare := .of_eq hg }
  have calm : Calm callerA := rfl
  refine codeAny_mono ((F _ part (see hns)).go callerA [] s₁ H ⟨[.ref a], []⟩ [.ref a] [.ref a] _ _ calm hr env (hbind s₁ (.ref a)) (.cons rfl .nil) hsp) fun r s' h => ?_
  match r, h with
  | .error e, h => exact (hCX e s' h).elim
  | .ok (.ret u), ⟨v, H', os, bare, un, hok', r', q⟩ =>
    have q : v = .bl true := q
    cases q
    have r' : u = Value.bool true := r'
    cases r'
    refine ⟨rfl, OldK.of_keep fun b o e => ?_, os, bare⟩
    by_cases q : H b = none
    · exact un.keep b o e q (fun z => nomatch z) fun z => nomatch z
    · rcases hO b with z | ⟨ob, xs, z⟩
      · exact absurd z q
      · have e1 := (hok b _ z).1
        rw [e] at e1
        cases e1
        exact (hok' b _ (un.frzs b _ _ z)).1
theorem call_law {CX : CXT} {k : Nat} {fa : Addr} {fd : FuncData} {x : Str} {sp : Sp}
    (KX : K.In s₁.heap) (hns : s₁.heap.Ns mainGlobals mg) (hb : s₁.heap.Ns builtinsNs mb) (hbb : ∀ x : Str, x ≠ "__name__" → mb x = bootBuiltins x) (hlim : s₁.heap.NoLimit) (hg : s₁.gens = #[])
    (ha : s₁.heap.get? a = some { cls := .type "list", data := .seq vs.toArray }) (hi : IntsAre vs ns) (hl : ns.length ≤ sizeLine) (hr : Room k callerA)
    (F : ∀ base : Heap, K.In base → base.Ns mainGlobals mg → FnG P w K mg base CX k fa fd [x] sp) (hbind : ∀ (s : Shared) (u : Value), BindsTo s fd ⟨[u], []⟩ [(x, u)])
    (hsp : ∀ H : Hp, Only H → SqL K H a (ns.map V.int) → sp [.ref a] H (fun v _ => v = .bl true) fun _ _ _ => False)
    (hCX : ∀ H e s', CX [] H s₁ (fun _ _ _ => False) e s' → False) :
    codeAny (model P w) callerA (.call (.ref fa) ⟨[.ref a], []⟩) (fun r s' => r = .ok (.ret (.bool true)) ∧ OldK s₁.heap s'.heap ∧ s'.os = s₁.os ∧ AllBare s'.gens) s₁ := by
  have iv := vals_ints hi
  have many := hi.length
  cases hk : K.lookup a with
  | some o =>
    have e := (KX a o hk).symm.trans ha
    cases e
    have hO : Only fun _ => none := fun _ => .inl rfl
    exact call_core KX hns hb hbb hlim hg ha hr F hbind hO (fun b u z => nomatch z) (fun b z => absurd rfl z) (fun z => absurd rfl z)
      (hsp _ hO (.inr ⟨_, vs.toArray, _, hk, rfl, rfl, rfl, by rw [List.size_toArray, many]; exact hl, by simpa using iv⟩)) (hCX _)
  | none =>
    have H1 : ∀ b, b ≠ a → (fun b => if b = a then some (HO.frz { cls := .type "list", data := .seq vs.toArray } (.lst (ns.map V.int))) else none) b = none := fun b h => if_neg h
    have H2 : (fun b => if b = a then some (HO.frz { cls := .type "list", data := .seq vs.toArray } (.lst (ns.map V.int))) else none) a = some (HO.frz { cls := .type "list", data := .seq vs.toArray } (.lst (ns.map V.int))) := if_pos rfl
    generalize (fun b => if b = a then some (HO.frz { cls := .type "list", data := .seq vs.toArray } (.lst (ns.map V.int))) else none) = H at H1 H2
    have hO : Only H := fun b => by
      by_cases h : b = a
      · subst h; exact .inr ⟨_, _, H2⟩
      · exact .inl (H1 b h)
    refine call_core KX hns hb hbb hlim hg ha hr F hbind hO (fun b u z => ?_) (fun b z => ?_) (fun _ => hk) (hsp _ hO (.inl (.inr ⟨_, H2⟩))) (hCX _)
    · by_cases h : b = a
      · subst h
        rw [H2] at z
        cases z
        exact ⟨ha, by rw [List.length_map]; exact hl, vs, _, iv, ha⟩
      · rw [H1 b h] at z; cases z
    · exact Classical.byContradiction fun h => z (H1 b h)
end
theorem walk_end {l : PySem.W.OpenLaw} {n k : Nat} {q : Program} {loose : List Str} {XP : (Str → Option Value) → Heap → Prop} {YP : World → Heap → Prop} {d : DefRec} {CX : CXT} {x : Str}
    (hn : l.most = some n) (hn2 : n ≤ sizeLine) (hdf : d.params.defaults = []) (hr : Room k callerA)
    (F : ∀ (w : World) (mg : Str → Option Value) (fa : Addr) (h : Heap), YP w h → h.Ns mainGlobals mg → mg d.name = some (.ref fa) →
      ∃ (K : PySem.W.Frag) (fd : FuncData) (sp : Sp), K.In h ∧ (∀ (s : Shared) (u : Value), BindsTo s fd ⟨[u], []⟩ [(x, u)]) ∧
        (∀ (H : Hp) (a : Addr) (ns : List Int), ns.length ≤ n → Only H → SqL K H a (ns.map V.int) → sp [.ref a] H (fun v _ => v = .bl true) fun _ _ _ => False) ∧
        ∀ base : Heap, K.In base → base.Ns mainGlobals mg → FnG l.prog w K mg base CX k fa fd [x] sp)
    (hCX : ∀ (H : Hp) (s : Shared) (e : Value) (s' : Shared), CX [] H s (fun _ _ _ => False) e s' → False) :
    PySem.W.WalkO q loose XP YP l.row.toRowW d [] (fun f vs => PySem.call f vs) :=
  Att.attach_call hn hdf fun w _ s₁ mg mb fa _ _ _ _ a vs ns G Y _ _ _ hmg hobj hints hlen hg => by
    obtain ⟨K, fd, sp, KX, hb, hsp, hF⟩ := F w mg fa _ Y G.T.g hmg
    exact call_law KX G.T.g G.T.b G.T.builtins G.T.nolimit hg hobj hints (Nat.le_trans hlen hn2) hr hF hb (fun H hO hS => hsp H a ns hlen hO hS) fun H e s' => hCX H s₁ e s'
end EV

set_option Elab.async false
set_option linter.all false
set_option maxRecDepth 100000
set_option maxHeartbeats 1000000
namespace EV
open PySem PySem.Spec PyProof.Rows L2

/-! data -/
inductive DKey where
  | s (x : Str) | i (n : Int) | t (xs : List Str)
  deriving DecidableEq
def DKey.isT : DKey → Bool
  | .t _ => true
  | _ => false
inductive D where
  | non | bl (b : Bool) | int (i : Int) | str (s : Str)
  | lst (xs : List D) | tup (xs : List D)
  | dct (t : Bool) (kvs : List (DKey × D))
  | obj (c : Nat) (xs : List D)
  | cell (n : Nat) | fn (f : Nat)
inductive Slot where
  | un | fz (d : D) | ow (d : D)
abbrev Rho := List Slot
abbrev Sto := List D
abbrev LIM : Nat := 16777216

/-! code -/
inductive Ty where
  | ty (n : String) | cls (c : Nat)
/-- built-in functions and methods, by what they make of data -/
inductive Bi where
  | len | all | any | sum | max | min | int | str | max2 | min2
mutual
inductive E where
  | k (d : D) | gl (g : Nat) | v (i : Nat)
  | bin (op : Operator) (a b : E) | neg (a : E) | not (a : E)
  | cmp (op : CmpOp) (a b : R) | chn (o1 o2 : CmpOp) (a b c : E)
  | and (a b : E) | or (a b : E)
  | tup (es : Es) | frz (o : O) | box (o : O)
  | sub (a : R) (i : E) | attr (a : E) (f : Nat)
  | call (f : Nat) (es : Es) | make (c : Nat) (es : Es) | meth (m : Nat) (o : E) (es : Es)
  | join (s : E) (a : R) | str1 (a : E) | tupl (a : R)
  | lenset (a : R) | maxd (a : R) (d : E) | mind (a : R) (d : E) | idx (a : R) (x : E)
  | tslc (a : E) (lo hi : Eo) | sslc (a : E) (lo hi : Eo) | fnv (f : Nat) | callv (i : Nat) (es : Es)
  | dget (a : R) (k : E) | din (neg : Bool) (k : E) (a : R) | dgd (a : R) (k d : E) | dne (a : R)
  | tget (g : Nat) (k : E) | tin (neg : Bool) (k : E) (g : Nat) | mxv (i : Nat) | cnt (a : R) (x : E) | cntS (a : R) (x : E) | mkM (c f : Nat) (es : Es) | methC (m : Nat) (o : E) (es : Es)
  | bi (b : Bi) (a : R) | b2 (b : Bi) (x y : E) | isi (a : E) (t : Ty)
/-- what is only read: an expression, or a container that a slot owns -/
inductive R where
  | e (a : E) | own (i : Nat)
/-- a new container -/
inductive O where
  | lst (es : Es) | lc (el : E) (tg : Tg) (it : It) (c : Eo) | cat (a b : R) | call (f : Nat) (es : Es)
  | slc (a : R) (lo hi : Eo) | lst1 (a : R) | rev (a : R) | rep (i : Nat) (k : E) | split (s t : E) | srt (a : R) | srtg (a : R) | srtset (a : R)
  | dct0 (t : Bool) | dct1 (k v : E) | srtk (a : R) | dctS (k v : E) | dctL (a : R) | dcp (a : R) | srtsetI (a : R) | dctC (ks : List Str) (es : Es) | repR (a : R) (k : E)
inductive Eo where
  | no | so (e : E)
inductive Es where
  | nil | cons (e : E) (es : Es)
inductive Tg where
  | v (i : Nat) | tup (l : List Nat)
inductive It where
  | lst (a : R) | tup (a : E) | str (a : E) | rng (a : E) | enum (a : E) | enumT (a : E) | zip (a b : E)
  | items (a : E) | itemsO (o : O) | keys (a : E)
end
/-! code of an except suite, and of defs that are called there; slot 0 there, or the suite's own, is the exception -/
mutual
inductive HE where
  | k (d : D) | v (i : Nat) | isi (cs : List Nat) (one : Bool) | isv | at
  | not (a : HE) | and (a b : HE) | or (a b : HE)
  | tup (es : HEs) | lst (es : HEs) | sub (a b : HE) | int1 (a : HE) | bin (op : Operator) (a b : HE) | cmp (op : CmpOp) (a b : HE)
  | cnt (a b : HE) | idx (a b : HE) | str1 (a : HE) | cat (a b : HE) | call (f : Nat)
  | lcR (i j : Nat) (n : Int) | lcZ (i j w s : Nat)
inductive HEs where
  | nil | cons (e : HE) (es : HEs)
end
mutual
inductive HS where
  | set (i : Nat) (e : HE) | iff (c : HE) (a b : HSs) | ret (e : HE)
inductive HSs where
  | nil | cons (s : HS) (b : HSs)
end
mutual
inductive S where
  | set (i : Nat) (e : E) | setO (i : Nat) (o : O) | frz (i : Nat) | setT (l : List Nat) (e : E)
  | setA (i : Nat) (f : Nat) (e : E)
  | setIx (a k e : E)
  | app (i : Nat) (e : E) | ext (i : Nat) (a : R) | appPop (i j : Nat) (k : E)
  | appE (a e : E) | dputE (a k v : E) | remE (a e : E)
  | dput (i : Nat) (k v : E) | mv (i j : Nat)
  | ex (e : E)
  | ret (e : E) | retO (o : O) | retS (i : Nat) | ret0
  | iff (c : E) (a b : Ss)
  | for (tg : Tg) (it : It) (b : Ss) | whl (c : E) (b : Ss)
  | pas | bad
  | xs (s : S) | rse (c : Nat) | try (b : Ss) (c : Nat) (i : Option Nat) (h : HSs)
inductive Ss where
  | nil | cons (s : S) (b : Ss)
end

/-! what the text has -/
structure Fn where
  d : He.DefD
  N : List Str
  ps : List Str
  code : Ss
  /-- the __init__ of a class whose instances never change -/
  ini : Bool
  /-- a def that is called within an except suite, of the exception alone -/
  hot : Option HSs := none
structure Cl where
  name : Str
  fields : List Nat
  init : Nat
  mu : Bool
  /-- the classes that it is, itself among them -/
  isa : List Nat
structure Tab where
  fns : List Fn
  cls : List Cl
  names : List Str
  con : List (Str × D)
  /-- class, method's name, def -/
  mth : List (Nat × Nat × Nat) := []
  /-- defs and classes that the text has not: behind those it has, of no object -/
  gh : List Fn := []
  gcl : List Cl := []
  gmth : List (Nat × Nat × Nat) := []
  /-- tables of the module: texts to defs -/
  tbl : List (Str × List (Str × Nat)) := []
  /-- classes whose instances change, with their __init__ -/
  mkm : List (Nat × Nat) := []
  /-- classes of exceptions, and which of them each is -/
  xcl : List (Str × List Nat) := []
  /-- .. those that are raised, of one text -/
  xpl : List Nat := []
def nfD : D → Bool
  | .non => false
  | .bl _ => false
  | .int _ => false
  | .str _ => false
  | _ => true
/-- a constant of the module may be a tuple or a list -/
def Tab.tupC (T : Tab) : Bool := T.con.any fun q => nfD q.2
def Tab.fn (T : Tab) (f : Nat) : Option Fn := match T.fns[f]? with
  | some F => some F
  | none => T.gh[f - T.fns.length]?
def Tab.cl (T : Tab) (c : Nat) : Option Cl := match T.cls[c]? with
  | some k => some k
  | none => T.gcl[c - T.cls.length]?
theorem Tab.fn_of {T : Tab} {f : Nat} {F : Fn} (h : T.fns[f]? = some F) : T.fn f = some F := by unfold Tab.fn; rw [h]
theorem Tab.cl_of {T : Tab} {c : Nat} {k : Cl} (h : T.cls[c]? = some k) : T.cl c = some k := by unfold Tab.cl; rw [h]
theorem Tab.cl_is {T : Tab} {c : Nat} {k : Cl} (h : T.cl c = some k) (hs : (T.cls[c]?).isSome = true) : T.cls[c]? = some k := by
  obtain ⟨k', e⟩ := Option.isSome_iff_exists.mp hs
  rw [Tab.cl_of e] at h
  rw [e, h]
theorem Tab.fn_is {T : Tab} {f : Nat} {F : Fn} (h : T.fn f = some F) (hs : (T.fns[f]?).isSome = true) : T.fns[f]? = some F := by
  obtain ⟨k', e⟩ := Option.isSome_iff_exists.mp hs
  rw [Tab.fn_of e] at h
  rw [e, h]
def Tab.meth (T : Tab) (c m : Nat) : Option Nat := match T.mth.find? (fun q => q.1 == c && q.2.1 == m) with
  | some q => some q.2.2
  | none => if c < T.cls.length then none else (T.gmth.find? fun q => q.1 == c && q.2.1 == m).map (·.2.2)

def tbLook (kvs : List (Str × Nat)) (x : Str) : Option Nat := (kvs.find? fun p => decide (p.1 = x)).map (·.2)
/-- what a table has at a key -/
def Tab.tbF (T : Tab) (g : Nat) (d : D) : Option (Option Nat) := match d with
  | .str x => (T.tbl[g]?).map fun t => tbLook t.2 x
  | _ => none
/-! operations on data -/
mutual
def D.py : D → PyData
  | .non => .none
  | .bl b => .bool b
  | .int i => .int i
  | .str s => .str s
  | .lst xs => .list (D.pys xs)
  | .tup xs => .tuple (D.pys xs)
  | _ => .dict []
def D.pys : List D → List PyData
  | [] => []
  | x :: xs => D.py x :: D.pys xs
end
mutual
def D.dat : D → Bool
  | .non => true
  | .bl _ => true
  | .int _ => true
  | .str _ => true
  | .lst xs => D.dats xs
  | .tup xs => D.dats xs
  | _ => false
def D.dats : List D → Bool
  | [] => true
  | x :: xs => D.dat x && D.dats xs
end
def D.flat : D → Bool
  | .non => true
  | .bl _ => true
  | .int _ => true
  | .str _ => true
  | _ => false
def sok (s : Str) : Bool := PyData.strOk s && decide (s.length ≤ LIM)
/-- a nested thing whose text can be told -/
def D.shw (d : D) : Bool := d.dat && (d.py.showable && (decide (d.py.depth ≤ 64) && sok d.py.shown))
def D.top (μ : Sto) : D → Option D
  | .cell n => μ[n]?
  | d => some d
def eqD (x y : D) : Option Bool := if (x.dat && y.dat && decide (min x.py.depth y.py.depth ≤ 64)) = true then some (PyData.eqv x.py y.py) else none
def inD (x : D) (xs : List D) : Option Bool := if (x.flat && xs.all D.flat) = true then some (xs.any fun y => PyData.eqv y.py x.py) else none
def asSeq : D → Option (List D)
  | .lst xs => some xs
  | .tup xs => some xs
  | _ => none
def asLst : D → Option (List D)
  | .lst xs => some xs
  | _ => none
def asDct : D → Option (Bool × List (DKey × D))
  | .dct t kvs => some (t, kvs)
  | _ => none
def D.isDct : D → Bool
  | .dct _ _ => true
  | _ => false
def DKey.d : DKey → D
  | .s x => .str x
  | .i n => .int n
  | .t xs => .tup (xs.map D.str)
def lookD (k : DKey) (kvs : List (DKey × D)) : Option D := (kvs.find? fun p => decide (p.1 = k)).map (·.2)
/-- in its place, or at the end -/
def putDk (kvs : List (DKey × D)) (k : DKey) (v : D) : List (DKey × D) :=
  if (kvs.any fun p => decide (p.1 = k)) = true then kvs.map (fun p => if p.1 = k then (p.1, v) else p) else kvs ++ [(k, v)]
def asInts : List D → Option (List Int)
  | [] => some []
  | .int i :: r => (asInts r).bind fun l => some (i :: l)
  | _ => none
def asStrs : List D → Option (List Str)
  | [] => some []
  | .str i :: r => (asStrs r).bind fun l => some (i :: l)
  | _ => none
def asBls : List D → Option (List Bool)
  | [] => some []
  | .bl i :: r => (asBls r).bind fun l => some (i :: l)
  | _ => none
/-- the key of a dict that a thing is -/
def keyD : D → Option DKey
  | .str x => some (.s x)
  | .int n => some (.i n)
  | .tup xs => (asStrs xs).bind fun ss => some (.t ss)
  | _ => none
/-- pairs of keys and things -/
def pairsD : List D → Option (List (DKey × D))
  | [] => some []
  | .tup [k, v] :: r => (keyD k).bind fun kk => (pairsD r).bind fun l => some ((kk, v) :: l)
  | _ => none
def keyStrs : List DKey → Option (List Str)
  | [] => some []
  | .s x :: r => (keyStrs r).bind fun l => some (x :: l)
  | _ => none
/-- sorted(..) of texts or of ints -/
def srtD (xs : List D) : Option (List D) := match asStrs xs with
  | some ss => if ss.length < 64 then some ((srtB ltS ss).map D.str) else none
  | none => match asInts xs with
    | some ns => some ((srtB ltI ns).map D.int)
    | none => (asBls xs).bind fun bs => some ((srtB ltBl bs).map D.bl)
/-- the place of the first item that is x -/
def idxD (x : D) : List D → Option Nat
  | [] => none
  | y :: r => if PyData.eqv y.py x.py = true then some 0 else (idxD x r).map (· + 1)
def idxF (x : D) (xs : List D) : Option Nat := if (x.flat && xs.all D.flat) = true then idxD x xs else none
def binD (op : Operator) (x y : D) : Option D := match op, x, y with
  | .Add, .int i, .int j => some (.int (i + j))
  | .Sub, .int i, .int j => some (.int (i - j))
  | .Mult, .int i, .int j => if (-(2 ^ 64) < i ∧ i < 2 ^ 64) ∨ (-(2 ^ 64) < j ∧ j < 2 ^ 64) then some (.int (i * j)) else none
  | .FloorDiv, .int i, .int j => if 0 < j ∧ j < 18446744073709551616 then some (.int (i / j)) else none
  | .Mod, .int i, .int j => if 0 < j then some (.int (i % j)) else none
  | .Pow, .int i, .int j => if 0 ≤ j ∧ j ≤ 1000000 ∧ i.natAbs < 2 ^ 64 then some (.int (i ^ j.toNat)) else none
  | .LShift, .int i, .int j => if 0 ≤ j ∧ j ≤ 1000000 ∧ i.natAbs < 2 ^ 64 then some (.int (i * 2 ^ j.toNat)) else none
  | .RShift, .int i, .int j => if 0 ≤ j then some (.int (i / 2 ^ j.toNat)) else none
  | .BitAnd, .int i, .int j => some (.int (Builtin.bitAnd i j))
  | .Add, .str a, .str b => if a.length + b.length ≤ LIM then some (.str (a ++ b)) else none
  | .Add, .tup a, .tup b => if a.length + b.length ≤ LIM then some (.tup (a ++ b)) else none
  | _, _, _ => none
def inA (x y : D) (μ : Sto) : Option Bool := match y with
  | .str s => (match x with | .str a => some (!(Builtin.Str.occurrences s a 0 s.length 1).isEmpty) | _ => none)
  | y => (y.top μ).bind fun y => (asSeq y).bind fun ys => inD x ys
def cmpD (op : CmpOp) (x y : D) (μ : Sto) : Option Bool := match op with
  | .Eq => (x.top μ).bind fun x => (y.top μ).bind fun y => eqD x y
  | .NotEq => (x.top μ).bind fun x => (y.top μ).bind fun y => (eqD x y).bind fun b => some (!b)
  | .Lt => match x, y with | .int i, .int j => some (decide (i < j)) | .str i, .str j => some (decide (i.cps.toList < j.cps.toList)) | _, _ => none
  | .LtE => match x, y with | .int i, .int j => some (decide (i ≤ j)) | _, _ => none
  | .Gt => match x, y with | .int i, .int j => some (decide (j < i)) | .str i, .str j => some (decide (j.cps.toList < i.cps.toList)) | _, _ => none
  | .GtE => match x, y with | .int i, .int j => some (decide (j ≤ i)) | _, _ => none
  | .Is => match y with | .non => some (match x with | .non => true | _ => false) | .bl b => (match x with | .bl a => some (decide (a = b)) | _ => none) | _ => none
  | .IsNot => match y with | .non => some (match x with | .non => false | _ => true) | .bl b => (match x with | .bl a => some (!decide (a = b)) | _ => none) | _ => none
  | .In => inA x y μ
  | .NotIn => (inA x y μ).bind fun b => some (!b)
def subD (x y : D) (μ : Sto) : Option D := match y with
  | .int i => (match x with
    | .str s => (atI s.cps.toList i).bind fun c => some (.str ⟨#[c]⟩)
    | _ => (x.top μ).bind fun x => (asSeq x).bind fun xs => atI xs i)
  | _ => none
def maxI : List Int → Int → Int
  | [], m => m
  | x :: r, m => maxI r (if x > m then x else m)
def minI : List Int → Int → Int
  | [], m => m
  | x :: r, m => minI r (if x < m then x else m)
def biD (b : Bi) (x : D) (μ : Sto) : Option D := match b with
  | .len => (match x with
    | .str s => some (.int s.length)
    | _ => (x.top μ).bind fun x => (asSeq x).bind fun xs => some (.int xs.length))
  | .all => (x.top μ).bind fun x => (asLst x).bind fun xs => (asBls xs).bind fun bs => some (.bl (bs.all id))
  | .any => (x.top μ).bind fun x => (asLst x).bind fun xs => (asBls xs).bind fun bs => some (.bl (bs.any id))
  | .sum => (x.top μ).bind fun x => (asLst x).bind fun xs => (asInts xs).bind fun ns => some (.int ns.sum)
  | .max => (x.top μ).bind fun x => (asLst x).bind fun xs => (asInts xs).bind fun ns => (match ns with | [] => none | n :: r => some (.int (maxI r n)))
  | .min => (x.top μ).bind fun x => (asLst x).bind fun xs => (asInts xs).bind fun ns => (match ns with | [] => none | n :: r => some (.int (minI r n)))
  | .int => (match x with | .int i => some (.int i) | .bl b => some (.int (if b then 1 else 0)) | .str s => (PySem.intText? s).bind fun n => if s.length ≤ 640 then some (.int n) else none | _ => none)
  | _ => none
/-- min(xs, default=d) of ints -/
def minDf : List Int → Option Int
  | [] => none
  | n :: r => some (r.foldl min n)
/-- sorted(xs) of alike data -/
def D.tup1 : D → Bool
  | .tup (_ :: _) => true
  | _ => false
def D.notT : D → Bool
  | .non => false
  | .tup _ => false
  | _ => true
def srtOk (xs : List D) : Bool := (xs.all fun x => x.dat && decide (x.py.depth ≤ 64)) && ((xs.all fun x => xs.all fun y => PySem.W.alike x.py y.py) && (xs.all D.tup1 || xs.all D.notT))
def leD : D → D → Bool := PySem.W.dataLe false D.py
def b2D (b : Bi) (x y : D) : Option D := match b, x, y with
  | .max2, .int i, .int j => some (.int (if j > i then j else i))
  | .min2, .int i, .int j => some (.int (if j < i then j else i))
  | _, _, _ => none
def tyD (T : Tab) (x : D) (t : Ty) (μ : Sto) : Option Bool := match t with
  | .ty n => (x.top μ).bind fun x => (match x with
    | .non => some (decide (n = "NoneType"))
    | .bl _ => some (decide (n = "bool") || decide (n = "int"))
    | .int _ => some (decide (n = "int"))
    | .str _ => some (decide (n = "str"))
    | .lst _ => some (decide (n = "list"))
    | .tup _ => some (decide (n = "tuple"))
    | .dct false _ => some (decide (n = "dict"))
    | .dct true _ => none
    | .obj _ _ => some false
    | _ => none)
  | .cls c => (x.top μ).bind fun x => (match x with
    | .obj c' _ => (T.cl c').bind fun k => some (k.isa.contains c)
    | .fn _ => none
    | .cell _ => none
    | .dct true _ => none
    | _ => some false)
def fieldD (T : Tab) (x : D) (f : Nat) (μ : Sto) : Option D := (x.top μ).bind fun x => match x with
  | .obj c xs => (T.cl c).bind fun k => ((k.fields.zip xs).lookup f)
  | _ => none
/-- the fields behind a store: f is one that is there, or the next one -/
def putD (T : Tab) (c : Nat) (xs : List D) (f : Nat) (x : D) : Option (List D) := (T.cl c).bind fun k =>
  (k.fields.idxOf? f).bind fun j => if j < xs.length then some (xs.set j x) else if j = xs.length then some (xs ++ [x]) else none
def setAll : Rho → List Nat → List D → Option Rho
  | ρ, [], [] => some ρ
  | ρ, i :: l, d :: ds => if i < ρ.length then setAll (ρ.set i (.fz d)) l ds else none
  | _, _, _ => none
def bindTg (tg : Tg) (d : D) (ρ : Rho) : Option Rho := match tg with
  | .v i => if i < ρ.length then some (ρ.set i (.fz d)) else none
  | .tup l => match d with
    | .tup ds => setAll ρ l ds
    | _ => none
def Tg.slots : Tg → List Nat
  | .v i => [i]
  | .tup l => l
def wipeR (ρ : Rho) : List Nat → Rho
  | [] => ρ
  | v :: vs => (wipeR ρ vs).set v .un
abbrev Gd := Option (Nat × D)
open Classical in
noncomputable def stay (g : Gd) (μ : Sto) : Bool := match g with
  | none => true
  | some (n, d) => decide (μ[n]? = some d)
def seqGd (x : D) (μ : Sto) : Gd := match x with
  | .cell n => (μ[n]?).map fun d => (n, d)
  | _ => none
noncomputable def lcL (g : Gd) (f : D → Sto → Option (Option D × Sto)) : List D → Sto → Option (List D × Sto)
  | [], μ => if stay g μ = true then some ([], μ) else none
  | x :: xs, μ => if stay g μ = true then (f x μ).bind fun r => (lcL g f xs r.2).bind fun q => some (match r.1 with | some y => y :: q.1 | none => q.1, q.2) else none
inductive Out where
  | nx (ρ : Rho) (μ : Sto) | rt (o : Bool) (d : D) (μ : Sto) | xc (x : D) (ρ : Rho) (μ : Sto)
noncomputable def forL (g : Gd) (f : D → Rho → Sto → Option Out) : List D → Rho → Sto → Option Out
  | [], ρ, μ => if stay g μ = true then some (.nx ρ μ) else none
  | x :: xs, ρ, μ => if stay g μ = true then (f x ρ μ).bind fun r => (match r with
    | .nx ρ' μ' => forL g f xs ρ' μ'
    | r => some r) else none
noncomputable def whlL (c : Rho → Sto → Option (D × Sto)) (b : Rho → Sto → Option Out) : Nat → Rho → Sto → Option Out
  | 0, _, _ => none
  | n + 1, ρ, μ => (c ρ μ).bind fun x => (match x.1 with
    | .bl true => (b ρ x.2).bind fun r => (match r with
      | .nx ρ' μ' => whlL c b n ρ' μ'
      | r => some r)
    | .bl false => some (.nx ρ x.2)
    | _ => none)
/-- turns of a while at most -/
def FUEL : Nat := 65536
abbrev Cal := Nat → List D → Sto → Option ((Bool × D) × Sto)
abbrev Mak := Nat → List D → Sto → Option (D × Sto)

def cutD (xs : List D) (lo hi : Option Int) : List D := (xs.drop (HT.sIx xs.length 0 lo)).take (HT.sIx xs.length xs.length hi - HT.sIx xs.length 0 lo)
/-! the meaning -/
section
variable (T : Tab) (cal : Cal) (mak : Mak)
mutual
noncomputable def ev : E → Rho → Sto → Option (D × Sto)
  | .k d, _, μ => some (d, μ)
  | .gl g, _, μ => (T.con[g]?).bind fun q => some (q.2, μ)
  | .v i, ρ, μ => (match ρ[i]? with | some (.fz d) => some (d, μ) | _ => none)
  | .bin op a b, ρ, μ => (ev a ρ μ).bind fun x => (ev b ρ x.2).bind fun y => (binD op x.1 y.1).bind fun z => some (z, y.2)
  | .neg a, ρ, μ => (ev a ρ μ).bind fun x => (match x.1 with | .int i => some (.int (-i), x.2) | _ => none)
  | .not a, ρ, μ => (ev a ρ μ).bind fun x => (match x.1 with | .bl b => some (.bl (!b), x.2) | _ => none)
  | .cmp op a b, ρ, μ => (evR a ρ μ).bind fun x => (evR b ρ x.2).bind fun y => (cmpD op x.1 y.1 y.2).bind fun z => some (.bl z, y.2)
  | .chn o1 o2 a b c, ρ, μ => (ev a ρ μ).bind fun x => (ev b ρ x.2).bind fun y => (cmpD o1 x.1 y.1 y.2).bind fun z =>
      if z = true then (ev c ρ y.2).bind fun w => (cmpD o2 y.1 w.1 w.2).bind fun z => some (.bl z, w.2) else some (.bl false, y.2)
  | .and a b, ρ, μ => (ev a ρ μ).bind fun x => (match x.1 with | .bl true => ev b ρ x.2 | .bl false => some (.bl false, x.2) | _ => none)
  | .or a b, ρ, μ => (ev a ρ μ).bind fun x => (match x.1 with | .bl false => ev b ρ x.2 | .bl true => some (.bl true, x.2) | _ => none)
  | .tup es, ρ, μ => (evs es ρ μ).bind fun x => some (.tup x.1, x.2)
  | .frz o, ρ, μ => evO o ρ μ
  | .box o, ρ, μ => (evO o ρ μ).bind fun x => some (.cell x.2.length, x.2 ++ [x.1])
  | .sub a i, ρ, μ => (evR a ρ μ).bind fun x => (ev i ρ x.2).bind fun y => (subD x.1 y.1 y.2).bind fun z => some (z, y.2)
  | .attr a f, ρ, μ => (ev a ρ μ).bind fun x => (fieldD T x.1 f x.2).bind fun z => some (z, x.2)
  | .call f es, ρ, μ => (evs es ρ μ).bind fun x => (cal f x.1 x.2).bind fun r => some (r.1.2, r.2)
  | .make c es, ρ, μ => (evs es ρ μ).bind fun x => mak c x.1 x.2
  | .meth m o es, ρ, μ => (ev o ρ μ).bind fun x => (match x.1 with
    | .obj c ds => (T.meth c m).bind fun f => (evs es ρ x.2).bind fun y => (cal f (.obj c ds :: y.1) y.2).bind fun r => some (r.1.2, r.2)
    | _ => none)
  | .join s a, ρ, μ => (ev s ρ μ).bind fun x => (evR a ρ x.2).bind fun y => (y.1.top y.2).bind fun d => (asSeq d).bind fun xs => (asStrs xs).bind fun ys => (match x.1 with
    | .str z => if (ys.map (·.length)).sum + ys.length * z.length ≤ LIM ∧ sok (Txt.join z ys) = true then some (.str (Txt.join z ys), y.2) else none
    | _ => none)
  | .str1 a, ρ, μ => (ev a ρ μ).bind fun x => (match x.1 with
    | .int i => if i.natAbs.log2 < 1920 ∧ sok (Str.ofString (toString i)) = true then some (.str (Str.ofString (toString i)), x.2) else none
    | .str s => some (.str s, x.2)
    | .tup ds => if (D.tup ds).shw = true then some (.str (D.tup ds).py.shown, x.2) else none
    | _ => none)
  | .tslc a lo hi, ρ, μ => (ev a ρ μ).bind fun x => (evX lo ρ x.2).bind fun l => (evX hi ρ l.2).bind fun h => (match x.1 with | .tup xs => some (.tup (cutD xs l.1 h.1), h.2) | _ => none)
  | .sslc a lo hi, ρ, μ => (ev a ρ μ).bind fun x => (evX lo ρ x.2).bind fun l => (evX hi ρ l.2).bind fun h => (match x.1 with | .str s => some (.str (cutS s l.1 h.1), h.2) | _ => none)
  | .fnv f, _, μ => some (.fn f, μ)
  | .callv i es, ρ, μ => (evs es ρ μ).bind fun x => (match ρ[i]? with | some (.fz (.fn f)) => (cal f x.1 x.2).bind fun r => some (r.1.2, r.2) | _ => none)
  | .tupl a, ρ, μ => (evR a ρ μ).bind fun x => (x.1.top x.2).bind fun d => (asSeq d).bind fun xs => some (.tup xs, x.2)
  | .lenset a, ρ, μ => (evR a ρ μ).bind fun x => (x.1.top x.2).bind fun d => (asLst d).bind fun xs => (asStrs xs).bind fun ss => if ss.length < 4000 then some (.int ((nub ss).length : Nat), x.2) else none
  | .maxd a e, ρ, μ => (evR a ρ μ).bind fun x => (ev e ρ x.2).bind fun y => (match y.1 with
    | .int d => (x.1.top y.2).bind fun v => (asLst v).bind fun xs => (asInts xs).bind fun ns => some (.int (maxDf d ns), y.2)
    | _ => none)
  | .mind a e, ρ, μ => (evR a ρ μ).bind fun x => (ev e ρ x.2).bind fun y => (x.1.top y.2).bind fun v => (asLst v).bind fun xs => (asInts xs).bind fun ns => some (match minDf ns with | none => y.1 | some n => .int n, y.2)
  | .idx a e, ρ, μ => (evR a ρ μ).bind fun x => (x.1.top x.2).bind fun v => (asLst v).bind fun _ => (ev e ρ x.2).bind fun y => (x.1.top y.2).bind fun v => (asLst v).bind fun xs => (idxF y.1 xs).bind fun j => some (.int (j : Nat), y.2)
  | .dget a k, ρ, μ => (evR a ρ μ).bind fun x => (ev k ρ x.2).bind fun y => (x.1.top y.2).bind fun d => (asDct d).bind fun p => (keyD y.1).bind fun kk =>
      if kk.isT = p.1 then (lookD kk p.2).bind fun v => some (v, y.2) else none
  | .din neg k a, ρ, μ => (ev k ρ μ).bind fun y => (evR a ρ y.2).bind fun x => (x.1.top x.2).bind fun d => (asDct d).bind fun p => (keyD y.1).bind fun kk =>
      if kk.isT = p.1 then some (.bl (if neg = true then !(lookD kk p.2).isSome else (lookD kk p.2).isSome), x.2) else none
  | .dgd a k e, ρ, μ => (evR a ρ μ).bind fun x => (x.1.top x.2).bind fun d0 => (asDct d0).bind fun _ => (ev k ρ x.2).bind fun y => (ev e ρ y.2).bind fun z => (x.1.top z.2).bind fun d => (asDct d).bind fun p => (keyD y.1).bind fun kk =>
      if kk.isT = p.1 then some ((lookD kk p.2).getD z.1, z.2) else none
  | .dne a, ρ, μ => (evR a ρ μ).bind fun x => (x.1.top x.2).bind fun d => (asDct d).bind fun p => some (.bl (!p.2.isEmpty), x.2)
  | .tget g k, ρ, μ => (ev k ρ μ).bind fun y => (T.tbF g y.1).bind fun o => o.bind fun f => some (.fn f, y.2)
  | .tin neg k g, ρ, μ => (ev k ρ μ).bind fun y => (T.tbF g y.1).bind fun o => some (.bl (if neg = true then !o.isSome else o.isSome), y.2)
  | .mxv i, ρ, μ => (match ρ[i]? with
    | some (.ow (.dct false kvs)) => (asInts (kvs.map Prod.snd)).bind fun ns => (match ns with | [] => none | n :: r => some (.int (maxI r n), μ))
    | _ => none)
  | .cnt a e, ρ, μ => (evR a ρ μ).bind fun x => (x.1.top x.2).bind fun v => (asLst v).bind fun _ => (ev e ρ x.2).bind fun y => (x.1.top y.2).bind fun v => (asLst v).bind fun xs => (asInts xs).bind fun ns => (match y.1 with | .int k => some (.int (ns.count k : Nat), y.2) | _ => none)
  | .cntS a e, ρ, μ => (evR a ρ μ).bind fun x => (x.1.top x.2).bind fun v => (asLst v).bind fun _ => (ev e ρ x.2).bind fun y => (x.1.top y.2).bind fun v => (asLst v).bind fun xs => (asStrs xs).bind fun ns => (match y.1 with | .str k => some (.int (ns.count k : Nat), y.2) | _ => none)
  | .methC m o es, ρ, μ => (ev o ρ μ).bind fun x => (match x.1 with
    | .cell n => (match x.2[n]? with
      | some (.obj c _) => (T.meth c m).bind fun f => (evs es ρ x.2).bind fun y => (cal f (.cell n :: y.1) y.2).bind fun r => some (r.1.2, r.2)
      | _ => none)
    | _ => none)
  | .mkM c f es, ρ, μ => (evs es ρ μ).bind fun x => (cal f (.cell x.2.length :: x.1) (x.2 ++ [.obj c []])).bind fun r => (match r.1 with
    | (false, .non) => some (.cell x.2.length, r.2)
    | _ => none)
  | .bi b a, ρ, μ => (evR a ρ μ).bind fun x => (biD b x.1 x.2).bind fun z => some (z, x.2)
  | .b2 b x y, ρ, μ => (ev x ρ μ).bind fun x => (ev y ρ x.2).bind fun y => (b2D b x.1 y.1).bind fun z => some (z, y.2)
  | .isi a t, ρ, μ => (ev a ρ μ).bind fun x => (tyD T x.1 t x.2).bind fun b => some (.bl b, x.2)
noncomputable def evR : R → Rho → Sto → Option (D × Sto)
  | .e a, ρ, μ => ev a ρ μ
  | .own i, ρ, μ => (match ρ[i]? with | some (.ow d) => some (d, μ) | _ => none)
noncomputable def evO : O → Rho → Sto → Option (D × Sto)
  | .lst es, ρ, μ => (evs es ρ μ).bind fun x => some (.lst x.1, x.2)
  | .lc el tg it c, ρ, μ => (evI it ρ μ).bind fun x => (lcL x.1.2 (fun d μ => (bindTg tg d (wipeR ρ tg.slots)).bind fun ρ' => (evC c ρ' μ).bind fun b =>
      if b.1 = true then (ev el ρ' b.2).bind fun y => some (some y.1, y.2) else some (none, b.2)) x.1.1 x.2).bind fun q => some (.lst q.1, q.2)
  | .cat a b, ρ, μ => (evR a ρ μ).bind fun x => (evR b ρ x.2).bind fun y => (x.1.top y.2).bind fun x => (y.1.top y.2).bind fun z => (asLst x).bind fun xs => (asLst z).bind fun zs =>
      if xs.length + zs.length ≤ LIM then some (.lst (xs ++ zs), y.2) else none
  | .call f es, ρ, μ => (evs es ρ μ).bind fun x => (cal f x.1 x.2).bind fun r => if r.1.1 = true then some (r.1.2, r.2) else none
  | .slc a lo hi, ρ, μ => (evR a ρ μ).bind fun x => (evX lo ρ x.2).bind fun l => (evX hi ρ l.2).bind fun h => (x.1.top h.2).bind fun d => (asLst d).bind fun xs => some (.lst (cutD xs l.1 h.1), h.2)
  | .lst1 a, ρ, μ => (evR a ρ μ).bind fun x => (x.1.top x.2).bind fun d => (asSeq d).bind fun xs => some (.lst xs, x.2)
  | .rev a, ρ, μ => (evR a ρ μ).bind fun x => (x.1.top x.2).bind fun d => (asLst d).bind fun xs => some (.lst xs.reverse, x.2)
  | .split s t, ρ, μ => (ev s ρ μ).bind fun x => (ev t ρ x.2).bind fun y => (match x.1, y.1 with
    | .str a, .str b => if (b.length == 0) = false ∧ a.length + 2 ≤ LIM ∧ (Txt.split a b).all sok = true ∧ (Txt.split a b).length ≤ LIM then some (.lst ((Txt.split a b).map D.str), y.2) else none
    | _, _ => none)
  | .rep i k, ρ, μ => (ev k ρ μ).bind fun y => (match ρ[i]?, y.1 with
    | some (.ow (.lst xs)), .int k => if -(2 ^ 63) ≤ k ∧ k < 2 ^ 63 ∧ xs.length * k.toNat ≤ LIM then some (.lst (List.replicate k.toNat xs).flatten, y.2) else none
    | _, _ => none)
  | .repR a k, ρ, μ => (evR a ρ μ).bind fun x => (ev k ρ x.2).bind fun y => (x.1.top y.2).bind fun d => (asLst d).bind fun xs => (match y.1 with
    | .int k => if -(2 ^ 63) ≤ k ∧ k < 2 ^ 63 ∧ xs.length * k.toNat ≤ LIM then some (.lst (List.replicate k.toNat xs).flatten, y.2) else none
    | _ => none)
  | .srt a, ρ, μ => (evR a ρ μ).bind fun x => (x.1.top x.2).bind fun d => (asSeq d).bind fun xs => (srtD xs).bind fun ys => (match d with
    | .tup _ => (asStrs xs).bind fun _ => some (.lst ys, x.2)
    | _ => some (.lst ys, x.2))
  | .srtg a, ρ, μ => (evR a ρ μ).bind fun x => (x.1.top x.2).bind fun d => (asLst d).bind fun xs => if srtOk xs = true then some (.lst (xs.mergeSort leD), x.2) else none
  | .srtset a, ρ, μ => (evR a ρ μ).bind fun x => (x.1.top x.2).bind fun d => (asLst d).bind fun xs => (asStrs xs).bind fun ss => if ss.length < 4000 ∧ (nub ss).length < 64 then some (.lst ((srtB ltS (nub ss)).map D.str), x.2) else none
  | .dct0 t, _, μ => some (.dct t [], μ)
  | .dct1 k v, ρ, μ => (ev k ρ μ).bind fun y => (ev v ρ y.2).bind fun z => (keyD y.1).bind fun kk => if kk.isT = true then some (.dct true [(kk, z.1)], z.2) else none
  | .dctS k v, ρ, μ => (ev k ρ μ).bind fun y => (ev v ρ y.2).bind fun z => (keyD y.1).bind fun kk => if kk.isT = false then some (.dct false [(kk, z.1)], z.2) else none
  | .dctL a, ρ, μ => (evR a ρ μ).bind fun x => (x.1.top x.2).bind fun d => (asLst d).bind fun xs => (pairsD xs).bind fun kvs => if (kvs.map (·.1)).Nodup ∧ kvs.all (fun p => !p.1.isT) = true then some (.dct false kvs, x.2) else none
  | .dcp a, ρ, μ => (evR a ρ μ).bind fun x => (x.1.top x.2).bind fun d => (asDct d).bind fun p => if p.1 = false then some (.dct false p.2, x.2) else none
  | .dctC ks es, ρ, μ => (evs es ρ μ).bind fun x => if x.1.length = ks.length ∧ ks.Nodup then some (.dct false ((ks.map DKey.s).zip x.1), x.2) else none
  | .srtsetI a, ρ, μ => (evR a ρ μ).bind fun x => (x.1.top x.2).bind fun d => (asLst d).bind fun xs => (asInts xs).bind fun ns => if ns.length < 4000 ∧ (nubI ns).length < 64 then some (.lst ((srtB ltI (nubI ns)).map D.int), x.2) else none
  | .srtk a, ρ, μ => (evR a ρ μ).bind fun x => (x.1.top x.2).bind fun d => (asDct d).bind fun p => (keyStrs (p.2.map (·.1))).bind fun ss =>
      if p.1 = false ∧ ss.length < 64 then some (.lst ((srtB ltS ss).map D.str), x.2) else none
noncomputable def evs : Es → Rho → Sto → Option (List D × Sto)
  | .nil, _, μ => some ([], μ)
  | .cons e es, ρ, μ => (ev e ρ μ).bind fun x => (evs es ρ x.2).bind fun xs => some (x.1 :: xs.1, xs.2)
noncomputable def evC : Eo → Rho → Sto → Option (Bool × Sto)
  | .no, _, μ => some (true, μ)
  | .so e, ρ, μ => (ev e ρ μ).bind fun x => (match x.1 with | .bl b => some (b, x.2) | _ => none)
noncomputable def evX : Eo → Rho → Sto → Option (Option Int × Sto)
  | .no, _, μ => some (none, μ)
  | .so e, ρ, μ => (ev e ρ μ).bind fun x => (match x.1 with | .int i => some (some i, x.2) | _ => none)
noncomputable def evI : It → Rho → Sto → Option ((List D × Gd) × Sto)
  | .lst a, ρ, μ => (evR a ρ μ).bind fun x => (x.1.top x.2).bind fun d => (asLst d).bind fun xs => some ((xs, seqGd x.1 x.2), x.2)
  | .tup a, ρ, μ => (ev a ρ μ).bind fun x => (match x.1 with | .tup xs => some ((xs, none), x.2) | _ => none)
  | .str a, ρ, μ => (ev a ρ μ).bind fun x => (match x.1 with | .str s => some ((s.cps.toList.map fun c => D.str ⟨#[c]⟩, none), x.2) | _ => none)
  | .enum a, ρ, μ => (ev a ρ μ).bind fun x => (x.1.top x.2).bind fun d => (asLst d).bind fun xs => some ((xs.zipIdx.map fun p => D.tup [.int (p.2 : Nat), p.1], seqGd x.1 x.2), x.2)
  | .enumT a, ρ, μ => (ev a ρ μ).bind fun x => (match x.1 with | .tup xs => some ((xs.zipIdx.map fun p => D.tup [.int (p.2 : Nat), p.1], none), x.2) | _ => none)
  | .zip a b, ρ, μ => (ev a ρ μ).bind fun x => (ev b ρ x.2).bind fun y => (x.1.top y.2).bind fun d => (asLst d).bind fun xs => (match y.1 with
    | .lst ys => some (((xs.zip ys).map fun p => D.tup [p.1, p.2], seqGd x.1 y.2), y.2)
    | .tup ys => some (((xs.zip ys).map fun p => D.tup [p.1, p.2], seqGd x.1 y.2), y.2)
    | _ => none)
  | .items a, ρ, μ => (ev a ρ μ).bind fun x => (match x.1 with
    | .dct _ kvs => if kvs.length ≤ LIM then some ((kvs.map fun p => D.tup [p.1.d, p.2], none), x.2) else none
    | _ => none)
  | .itemsO o, ρ, μ => (evO o ρ μ).bind fun x => (match x.1 with
    | .dct _ kvs => if kvs.length ≤ LIM then some ((kvs.map fun p => D.tup [p.1.d, p.2], none), x.2) else none
    | _ => none)
  | .keys a, ρ, μ => (ev a ρ μ).bind fun x => (match x.1 with
    | .dct _ kvs => if kvs.length ≤ LIM then some ((kvs.map fun p => p.1.d, none), x.2) else none
    | _ => none)
  | .rng a, ρ, μ => (ev a ρ μ).bind fun x => (match x.1 with | .int n => if -1000000000 ≤ n ∧ n ≤ 16777216 then some (((List.range n.toNat).map fun (i : Nat) => D.int i, none), x.2) else none | _ => none)
end
/-- where the numbers of what raises begin: defs, then classes -/
abbrev XOFF : Nat := 1000000
/-! what leaves as an exception -/
mutual
noncomputable def evx : E → Rho → Sto → Option (D × Sto)
  | .bin _ a b, ρ, μ => (match ev T cal mak a ρ μ with | some x => evx b ρ x.2 | none => evx a ρ μ)
  | .neg a, ρ, μ => evx a ρ μ
  | .not a, ρ, μ => evx a ρ μ
  | .cmp _ a b, ρ, μ => (match evR T cal mak a ρ μ with | some x => evxR b ρ x.2 | none => evxR a ρ μ)
  | .and a b, ρ, μ => (match ev T cal mak a ρ μ with | some (.bl true, m) => evx b ρ m | some _ => none | none => evx a ρ μ)
  | .or a b, ρ, μ => (match ev T cal mak a ρ μ with | some (.bl false, m) => evx b ρ m | some _ => none | none => evx a ρ μ)
  | .tup es, ρ, μ => evxs es ρ μ
  | .frz o, ρ, μ => evxO o ρ μ
  | .box o, ρ, μ => evxO o ρ μ
  | .sub a i, ρ, μ => (match evR T cal mak a ρ μ with | some x => evx i ρ x.2 | none => evxR a ρ μ)
  | .attr a _, ρ, μ => evx a ρ μ
  | .call f es, ρ, μ => (match evs T cal mak es ρ μ with | some x => mak (XOFF + f) x.1 x.2 | none => evxs es ρ μ)
  | .make c es, ρ, μ => (match evs T cal mak es ρ μ with | some x => mak (2 * XOFF + c) x.1 x.2 | none => evxs es ρ μ)
  | .meth m o es, ρ, μ => (match ev T cal mak o ρ μ with
    | some x => (match x.1 with
      | .obj c ds => (T.meth c m).bind fun f => (match evs T cal mak es ρ x.2 with | some y => mak (XOFF + f) (.obj c ds :: y.1) y.2 | none => evxs es ρ x.2)
      | _ => none)
    | none => evx o ρ μ)
  | .methC m o es, ρ, μ => (match ev T cal mak o ρ μ with
    | some x => (match x.1 with
      | .cell n => (match x.2[n]? with
        | some (.obj c _) => (T.meth c m).bind fun f => (match evs T cal mak es ρ x.2 with | some y => mak (XOFF + f) (.cell n :: y.1) y.2 | none => evxs es ρ x.2)
        | _ => none)
      | _ => none)
    | none => evx o ρ μ)
  | .mkM c f es, ρ, μ => (match evs T cal mak es ρ μ with | some x => mak (XOFF + f) (.cell x.2.length :: x.1) (x.2 ++ [.obj c []]) | none => evxs es ρ μ)
  | .str1 a, ρ, μ => evx a ρ μ
  | .bi _ a, ρ, μ => evxR a ρ μ
  | _, _, _ => none
noncomputable def evxR : R → Rho → Sto → Option (D × Sto)
  | .e a, ρ, μ => evx a ρ μ
  | .own _, _, _ => none
noncomputable def evxO : O → Rho → Sto → Option (D × Sto)
  | .lst es, ρ, μ => evxs es ρ μ
  | .call f es, ρ, μ => (match evs T cal mak es ρ μ with | some x => mak (XOFF + f) x.1 x.2 | none => evxs es ρ μ)
  | _, _, _ => none
noncomputable def evxs : Es → Rho → Sto → Option (D × Sto)
  | .nil, _, _ => none
  | .cons e es, ρ, μ => (match ev T cal mak e ρ μ with | some x => evxs es ρ x.2 | none => evx e ρ μ)
end
/-- a statement whose expression raises -/
noncomputable def exx : S → Rho → Sto → Option (D × Sto)
  | .set _ e, ρ, μ => evx T cal mak e ρ μ
  | .setO _ o, ρ, μ => evxO T cal mak o ρ μ
  | .setT _ e, ρ, μ => evx T cal mak e ρ μ
  | .setA _ _ e, ρ, μ => evx T cal mak e ρ μ
  | .ex e, ρ, μ => evx T cal mak e ρ μ
  | .ret e, ρ, μ => evx T cal mak e ρ μ
  | .retO o, ρ, μ => evxO T cal mak o ρ μ
  | .app _ e, ρ, μ => evx T cal mak e ρ μ
  | .iff c _ _, ρ, μ => evx T cal mak c ρ μ
  | _, _, _ => none
/-! except suites: x is the exception -/
def isaX (T : Tab) (x : D) (c : Nat) : Option Bool := match x with
  | .obj k _ => (T.xcl[k]?).map fun q => q.2.contains c
  | _ => none
def anyX (T : Tab) (x : D) : List Nat → Option Bool
  | [] => some false
  | c :: r => (isaX T x c).bind fun b => if b = true then some true else anyX T x r
def boolR : List Bool → Nat → List D
  | [], _ => []
  | b :: r, k => if b = true then .int (k : Nat) :: boolR r (k + 1) else boolR r (k + 1)
section
variable (hc : Nat → D → Option D)
mutual
def hev (x : D) : HE → Rho → Option D
  | .k d, _ => some d
  | .v i, ρ => (match ρ[i]? with | some (.fz d) => some d | _ => none)
  | .isi cs one, _ => (match one, cs with
    | true, [c] => (isaX T x c).map D.bl
    | false, cs => (anyX T x cs).map D.bl
    | _, _ => none)
  | .isv, _ => (match x with | .obj k _ => if (T.xcl[k]?).isSome = true then some (.bl true) else none | _ => none)
  | .at, _ => (match x with | .obj _ [d] => some d | _ => none)
  | .not a, ρ => (hev x a ρ).bind fun d => (match d with | .bl b => some (.bl (!b)) | _ => none)
  | .and a b, ρ => (hev x a ρ).bind fun d => (match d with | .bl true => hev x b ρ | .bl false => some (.bl false) | _ => none)
  | .or a b, ρ => (hev x a ρ).bind fun d => (match d with | .bl false => hev x b ρ | .bl true => some (.bl true) | _ => none)
  | .tup es, ρ => (hevs x es ρ).map D.tup
  | .lst es, ρ => (hevs x es ρ).map D.lst
  | .sub a b, ρ => (hev x a ρ).bind fun u => (hev x b ρ).bind fun v => (match u, v with | .lst xs, .int i => L2.atI xs i | _, _ => none)
  | .int1 a, ρ => (hev x a ρ).bind fun d => (match d with | .bl b => some (.int (if b = true then 1 else 0)) | _ => none)
  | .bin op a b, ρ => (hev x a ρ).bind fun u => (hev x b ρ).bind fun v => (match u, v with | .int i, .int j => binD op (.int i) (.int j) | _, _ => none)
  | .cmp op a b, ρ => (hev x a ρ).bind fun u => (hev x b ρ).bind fun v => (match u, v with | .int i, .int j => (cmpD op (.int i) (.int j) []).map D.bl | _, _ => none)
  | .cnt a b, ρ => (hev x a ρ).bind fun u => (hev x b ρ).bind fun v => (match u, v with | .lst xs, .bl b => (asBls xs).map fun bs => .int (bs.count b : Nat) | _, _ => none)
  | .idx a b, ρ => (hev x a ρ).bind fun u => (hev x b ρ).bind fun v => (match u, v with | .lst xs, .bl b => (idxF (.bl b) xs).map fun j => .int (j : Nat) | _, _ => none)
  | .str1 a, ρ => (hev x a ρ).bind fun d => (match d with | .int i => if i.natAbs.log2 < 1920 ∧ sok (Str.ofString (toString i)) = true then some (.str (Str.ofString (toString i))) else none | _ => none)
  | .cat a b, ρ => (hev x a ρ).bind fun u => (hev x b ρ).bind fun v => (match u, v with
    | .lst xs, .lst ys => if xs.length + ys.length ≤ LIM then some (.lst (xs ++ ys)) else none
    | .str a, .str b => binD .Add (.str a) (.str b)
    | _, _ => none)
  | .call f, _ => hc f x
  | .lcR _ j n, ρ => (match ρ[j]? with
    | some (.fz (.lst xs)) => (asBls xs).bind fun bs => if n = (bs.length : Nat) ∧ bs.length ≤ 100 then some (.lst (boolR bs 0)) else none
    | _ => none)
  | .lcZ _ _ w s, ρ => (match ρ[w]?, ρ[s]? with
    | some (.fz (.lst ws)), some (.fz (.lst xs)) => (asBls xs).bind fun bs => (asStrs ws).bind fun ss => if ss.length = bs.length ∧ bs.length ≤ 100 then some (.lst (((ss.zip bs).filter (·.2)).map fun p => .str p.1)) else none
    | _, _ => none)
def hevs (x : D) : HEs → Rho → Option (List D)
  | .nil, _ => some []
  | .cons e es, ρ => (hev x e ρ).bind fun d => (hevs x es ρ).bind fun ds => some (d :: ds)
end
inductive HOut where
  | nx (ρ : Rho) | rt (d : D)
mutual
def hex (x : D) : HS → Rho → Option HOut
  | .set i e, ρ => (hev T hc x e ρ).bind fun d => if i < ρ.length then some (.nx (ρ.set i (.fz d))) else none
  | .iff c a b, ρ => (hev T hc x c ρ).bind fun d => (match d with | .bl true => hexs x a ρ | .bl false => hexs x b ρ | _ => none)
  | .ret e, ρ => (hev T hc x e ρ).map HOut.rt
def hexs (x : D) : HSs → Rho → Option HOut
  | .nil, ρ => some (.nx ρ)
  | .cons s b, ρ => (hex x s ρ).bind fun r => (match r with | .nx ρ' => hexs x b ρ' | r => some r)
end
end
/-- a def called of the exception, within a suite; none calls another one -/
def hcal (f : Nat) (x : D) : Option D := (T.fns[f]?).bind fun F => F.hot.bind fun b => (hexs T (fun _ _ => none) x b (List.replicate F.N.length .un)).bind fun r => (match r with | .rt d => some d | _ => none)
def unS (i : Option Nat) (ρ : Rho) : Rho := match i with
  | some i => ρ.set i .un
  | none => ρ
def unL (i : Option Nat) (ρ : Rho) : Bool := match i with
  | some i => decide (i < ρ.length)
  | none => true
mutual
noncomputable def ex : S → Rho → Sto → Option Out
  | .set i e, ρ, μ => (ev T cal mak e ρ μ).bind fun x => if i < ρ.length then some (.nx (ρ.set i (.fz x.1)) x.2) else none
  | .setO i o, ρ, μ => (evO T cal mak o ρ μ).bind fun x => if i < ρ.length then some (.nx (ρ.set i (.ow x.1)) x.2) else none
  | .setT l e, ρ, μ => (ev T cal mak e ρ μ).bind fun x => (x.1.top x.2).bind fun d => (asSeq d).bind fun xs => (setAll ρ l xs).bind fun ρ' => some (.nx ρ' x.2)
  | .frz i, ρ, μ => (match ρ[i]? with | some (.ow d) => some (.nx (ρ.set i (.fz d)) μ) | _ => none)
  | .setA i f e, ρ, μ => (ev T cal mak e ρ μ).bind fun x => (match ρ[i]? with
    | some (.ow (.obj c xs)) => (putD T c xs f x.1).bind fun ys => some (.nx (ρ.set i (.ow (.obj c ys))) x.2)
    | some (.fz (.cell n)) => (match x.2[n]? with
      | some (.obj c xs) => (putD T c xs f x.1).bind fun ys => some (.nx ρ (x.2.set n (.obj c ys)))
      | _ => none)
    | _ => none)
  | .setIx a k e, ρ, μ => (ev T cal mak e ρ μ).bind fun x => (ev T cal mak a ρ x.2).bind fun y => (ev T cal mak k ρ y.2).bind fun z => (match y.1, z.1 with
    | .cell n, .int i => (match z.2[n]? with
      | some (.lst xs) => (ixN xs.length i).bind fun j => some (.nx ρ (z.2.set n (.lst (xs.set j x.1))))
      | _ => none)
    | _, _ => none)
  | .app i e, ρ, μ => (ev T cal mak e ρ μ).bind fun x => (match ρ[i]? with
    | some (.ow (.lst xs)) => if xs.length < LIM then some (.nx (ρ.set i (.ow (.lst (xs ++ [x.1])))) x.2) else none
    | some (.fz (.cell n)) => (match μ[n]?, x.2[n]? with
      | some (.lst _), some (.lst xs) => if xs.length < LIM then some (.nx ρ (x.2.set n (.lst (xs ++ [x.1])))) else none
      | _, _ => none)
    | _ => none)
  | .ext i a, ρ, μ => (evR T cal mak a ρ μ).bind fun x => (x.1.top x.2).bind fun d => (asLst d).bind fun zs => (match ρ[i]? with
    | some (.ow (.lst xs)) => if xs.length + zs.length ≤ LIM then some (.nx (ρ.set i (.ow (.lst (xs ++ zs)))) x.2) else none
    | _ => none)
  | .appPop i j k, ρ, μ => (ev T cal mak k ρ μ).bind fun x => (match ρ[i]?, ρ[j]?, x.1 with
    | some (.ow (.lst xs)), some (.ow (.lst ys)), .int z => if i ≠ j ∧ xs.length < LIM ∧ -(2 ^ 63) ≤ z ∧ z < 2 ^ 63 then (ixN ys.length z).bind fun m => (ys[m]?).bind fun d => some (.nx ((ρ.set j (.ow (.lst (ys.eraseIdx m)))).set i (.ow (.lst (xs ++ [d])))) x.2) else none
    | _, _, _ => none)
  | .appE a e, ρ, μ => (ev T cal mak a ρ μ).bind fun y => (match y.1 with
    | .cell n => (match y.2[n]? with
      | some (.lst _) => (ev T cal mak e ρ y.2).bind fun x => (match x.2[n]? with
        | some (.lst xs) => if xs.length < LIM then some (.nx ρ (x.2.set n (.lst (xs ++ [x.1])))) else none
        | _ => none)
      | _ => none)
    | _ => none)
  | .remE a e, ρ, μ => (ev T cal mak a ρ μ).bind fun y => (match y.1 with
    | .cell n => (match y.2[n]? with
      | some (.lst _) => (ev T cal mak e ρ y.2).bind fun x => (match x.1, x.2[n]? with
        | .str s, some (.lst xs) => (asStrs xs).bind fun ss => if s ∈ ss then some (.nx ρ (x.2.set n (.lst ((ss.erase s).map D.str)))) else none
        | _, _ => none)
      | _ => none)
    | _ => none)
  | .dputE a k e, ρ, μ => (ev T cal mak e ρ μ).bind fun z => (ev T cal mak a ρ z.2).bind fun c => (ev T cal mak k ρ c.2).bind fun y => (keyD y.1).bind fun kk => (match c.1 with
    | .cell n => (match y.2[n]? with
      | some (.dct t kvs) => if kk.isT = t ∧ kvs.length < LIM then some (.nx ρ (y.2.set n (.dct t (putDk kvs kk z.1)))) else none
      | _ => none)
    | _ => none)
  | .dput i k e, ρ, μ => (ev T cal mak e ρ μ).bind fun z => (ev T cal mak k ρ z.2).bind fun y => (keyD y.1).bind fun kk => (match ρ[i]? with
    | some (.ow (.dct t kvs)) => if kk.isT = t ∧ kvs.length < LIM then some (.nx (ρ.set i (.ow (.dct t (putDk kvs kk z.1)))) y.2) else none
    | some (.fz (.cell n)) => (match y.2[n]? with
      | some (.dct t kvs) => if kk.isT = t ∧ kvs.length < LIM then some (.nx ρ (y.2.set n (.dct t (putDk kvs kk z.1)))) else none
      | _ => none)
    | _ => none)
  | .mv i j, ρ, μ => (match ρ[j]? with | some (.ow d) => if i < ρ.length ∧ i ≠ j then some (.nx ((ρ.set j .un).set i (.ow d)) μ) else none | _ => none)
  | .ex e, ρ, μ => (ev T cal mak e ρ μ).bind fun x => some (.nx ρ x.2)
  | .ret e, ρ, μ => (ev T cal mak e ρ μ).bind fun x => some (.rt false x.1 x.2)
  | .retO o, ρ, μ => (evO T cal mak o ρ μ).bind fun x => some (.rt true x.1 x.2)
  | .retS i, ρ, μ => (match ρ[i]? with | some (.ow d) => some (.rt true d μ) | _ => none)
  | .ret0, ρ, μ => some (.rt false .non μ)
  | .iff c a b, ρ, μ => (ev T cal mak c ρ μ).bind fun x => (match x.1 with | .bl true => exs a ρ x.2 | .bl false => exs b ρ x.2 | _ => none)
  | .for tg it b, ρ, μ => (evI T cal mak it ρ μ).bind fun x => forL x.1.2 (fun d ρ μ => (bindTg tg d ρ).bind fun ρ' => exs b ρ' μ) x.1.1 ρ x.2
  | .whl c b, ρ, μ => whlL (ev T cal mak c) (exs b) FUEL ρ μ
  | .pas, ρ, μ => some (.nx ρ μ)
  | .bad, _, _ => none
  | .xs s, ρ, μ => (match ex s ρ μ with | some r => some r | none => (exx T cal mak s ρ μ).map fun x => .xc x.1 ρ x.2)
  | .rse c, ρ, μ => some (.xc (.obj c []) ρ μ)
  | .try b c i h, ρ, μ => (exs b ρ μ).bind fun r => (match r with
    | .xc x ρ' μ' => (isaX T x c).bind fun m => if m = true then (if unL i ρ' = true then (hexs T (hcal T) x h (unS i ρ')).bind fun q => (match q with
        | .nx ρ2 => some (.nx (unS i ρ2) μ')
        | .rt d => some (.rt false d μ')) else none) else some (.xc x ρ' μ')
    | r => some r)
noncomputable def exs : Ss → Rho → Sto → Option Out
  | .nil, ρ, μ => some (.nx ρ μ)
  | .cons s b, ρ, μ => (ex s ρ μ).bind fun r => (match r with | .nx ρ' μ' => exs b ρ' μ' | r => some r)
end
def start (N : Nat) (ds : List D) : Rho := ds.map Slot.fz ++ List.replicate (N - ds.length) Slot.un
/-- a def called -/
noncomputable def runF (F : Fn) (ds : List D) (μ : Sto) : Option ((Bool × D) × Sto) :=
  if ds.length = F.ps.length ∧ F.ini = false then (exs T cal mak F.code (start F.N.length ds) μ).bind fun r => (match r with
    | .nx _ μ' => some ((false, .non), μ')
    | .rt o d μ' => some ((o, d), μ')
    | .xc _ _ _ => none) else none
/-- an __init__ of an instance that is to stay -/
noncomputable def runI (F : Fn) (c : Nat) (ds : List D) (μ : Sto) : Option (D × Sto) :=
  if ds.length + 1 = F.ps.length ∧ F.ini = true then (exs T cal mak F.code ((start F.N.length (.non :: ds)).set 0 (.ow (.obj c []))) μ).bind fun r => (match r with
    | .nx ρ μ' => (match (ρ[0]? : Option Slot) with
      | some (.ow (.obj c' xs)) => some (.obj c' xs, μ')
      | some (.fz d) => some (d, μ')
      | _ => none)
    | _ => none) else none
/-- C(..) -/
noncomputable def mkC (c : Nat) (ds : List D) (μ : Sto) : Option (D × Sto) := (T.cl c).bind fun k => (T.fn k.init).bind fun F => runI T cal mak F c ds μ
/-- a def that raises -/
noncomputable def runX (F : Fn) (ds : List D) (μ : Sto) : Option (D × Sto) :=
  if ds.length = F.ps.length ∧ F.ini = false then (exs T cal mak F.code (start F.N.length ds) μ).bind fun r => (match r with
    | .xc x _ μ' => some (x, μ')
    | _ => none) else none
/-- C(..) that raises -/
noncomputable def runIX (F : Fn) (c : Nat) (ds : List D) (μ : Sto) : Option (D × Sto) :=
  if ds.length + 1 = F.ps.length ∧ F.ini = true then (exs T cal mak F.code ((start F.N.length (.non :: ds)).set 0 (.ow (.obj c []))) μ).bind fun r => (match r with
    | .xc x _ μ' => some (x, μ')
    | _ => none) else none
noncomputable def mkX (k : Nat) (ds : List D) (μ : Sto) : Option (D × Sto) :=
  if k < 2 * XOFF then (T.fn (k - XOFF)).bind fun F => runX T cal mak F ds μ
  else (T.cl (k - 2 * XOFF)).bind fun kk => (T.fn kk.init).bind fun F => runIX T cal mak F (k - 2 * XOFF) ds μ
end
noncomputable def sem (T : Tab) : Nat → Cal × Mak
  | 0 => (fun _ _ _ => none, fun _ _ _ => none)
  | n + 1 => (fun f ds μ => (T.fn f).bind fun F => runF T (sem T n).1 (sem T n).2 F ds μ, fun c ds μ => match T.cl c with
    | some _ => mkC T (sem T n).1 (sem T n).2 c ds μ
    | none => mkX T (sem T n).1 (sem T n).2 c ds μ)
end EV

set_option Elab.async false
set_option linter.all false
set_option maxRecDepth 100000
set_option maxHeartbeats 1000000
namespace EV
open PySem PySem.Spec PyProof.Rows L2

/-! where things stand -/
/-- addresses of defs, classes; the written part -/
structure Pl where
  K : PySem.W.Frag
  T : Tab
def Pl.fa (P : Pl) (f : Nat) : Addr := match P.T.fns[f]? with
  | some F => He.fAd P.K F.d.at_
  | none => 0
def Pl.ca (P : Pl) (c : Nat) : Addr := match P.T.cls[c]? with
  | some k => He.ga P.K k.name
  | none => 0
def Pl.xa (P : Pl) (c : Nat) : Addr := match P.T.xcl[c]? with
  | some q => He.ga P.K q.1
  | none => 0
def Pl.nm (P : Pl) (f : Nat) : Str := P.T.names.getD f ""
def Pl.fld (P : Pl) (c : Nat) : List Str := match P.T.cls[c]? with
  | some k => k.fields.map P.nm
  | none => []

/-- a place in time: what will never change, the cells -/
structure Wo where
  F : Addr → Prop
  ι : List Addr
def DKey.kk : DKey → Key
  | .s x => .inr x
  | .i n => .inl n
  | .t _ => .inl 0
def DKey.tt : DKey → List Key
  | .t xs => xs.map Sum.inr
  | _ => []
def DKey.ok : DKey → Bool
  | .s x => sok x
  | .i _ => true
  | .t xs => xs.all sok && decide (xs.length ≤ LIM)
/-- the dict's keys and values, as the kit tells them -/
def DHO : Bool → HO → List DKey → List V → Prop
  | true, u, ks, vs => ∃ kvs : List (List Key × V), u = .dT kvs ∧ kvs.map (·.1) = ks.map DKey.tt ∧ kvs.map (·.2) = vs ∧ ∀ k ∈ ks, k.isT = true ∧ k.ok = true
  | false, u, ks, vs => ∃ kvs : List (Key × V), u = .dK kvs ∧ kvs.map (·.1) = ks.map DKey.kk ∧ kvs.map (·.2) = vs ∧ ∀ k ∈ ks, k.isT = false ∧ k.ok = true
section
variable (P : Pl)
mutual
inductive Rep (W : Wo) (H : Hp) : V → D → Prop
  | non : Rep W H .non .non
  | bl (b) : Rep W H (.bl b) (.bl b)
  | int (i) : Rep W H (.int i) (.int i)
  | str (s) : sok s = true → Rep W H (.str s) (.str s)
  | fn (f) : (P.T.fns[f]?).isSome = true → Rep W H (.ref (P.fa f)) (.fn f)
  | cell {n a} : W.ι[n]? = some a → Rep W H (.ref a) (.cell n)
  | lst {a vs ds} : SqL P.K H a vs → (W.F a ∨ ∀ H', SqL P.K H' a vs) → vs.length ≤ LIM → RepL W H vs ds → Rep W H (.ref a) (.lst ds)
  | tup {a vs ds} : SqT P.K H a vs → ((W.F a ∧ H a = some (.tup vs)) ∨ (P.T.tupC = true ∧ ∀ H', SqT P.K H' a vs)) → vs.length ≤ LIM → RepL W H vs ds → Rep W H (.ref a) (.tup ds)
  | obj {a c dx vs ds} : (P.T.cls[c]?).isSome = true → H a = some (.ins (P.ca c) dx ((P.fld c).zip vs)) → W.F a → vs.length ≤ (P.fld c).length → RepL W H vs ds → Rep W H (.ref a) (.obj c ds)
  | dct {a o u t vs es} : H a = some (.frz o u) → DHO t u (List.map Prod.fst es) vs → W.F a → RepL W H vs (List.map Prod.snd es) → Rep W H (.ref a) (.dct t es)
inductive RepL (W : Wo) (H : Hp) : List V → List D → Prop
  | nil : RepL W H [] []
  | cons {v vs d ds} : Rep W H v d → RepL W H vs ds → RepL W H (v :: vs) (d :: ds)
end
/-- a container that may be changed -/
inductive Cell (W : Wo) (H : Hp) (a : Addr) : D → Prop
  | lst {vs ds} : H a = some (.lst vs) → vs.length ≤ LIM → RepL P W H vs ds → Cell W H a (.lst ds)
  | obj {c dx vs ds} : (P.T.cls[c]?).isSome = true → H a = some (.ins (P.ca c) dx ((P.fld c).zip vs)) → vs.length ≤ (P.fld c).length → RepL P W H vs ds → Cell W H a (.obj c ds)
  | dct {u t vs es} : H a = some u → DHO t u (List.map Prod.fst es) vs → RepL P W H vs (List.map Prod.snd es) → Cell W H a (.dct t es)
/-- from one place in time to a later one -/
structure Ext (W : Wo) (H : Hp) (W' : Wo) (H' : Hp) : Prop where
  fz : ∀ a, W.F a → W'.F a
  fresh : ∀ a, W'.F a → W.F a ∨ H a = none ∨ ∃ xs, H a = some (.tup xs)
  old : ∀ a o, H a = some o → a ∉ W.ι → H' a = some o
  pre : ∃ l, W'.ι = W.ι ++ l
  newc : ∀ a ∈ W'.ι, a ∈ W.ι ∨ H a = none
/-- all is in order -/
structure Wd (W : Wo) (H : Hp) (μ : Sto) : Prop where
  len : W.ι.length = μ.length
  nd : W.ι.Nodup
  nf : ∀ a ∈ W.ι, ¬ W.F a
  tr : ∀ a, W.F a → H a ≠ none
  cell : ∀ (n : Nat) (a : Addr) (d : D), W.ι[n]? = some a → μ[n]? = some d → Cell P W H a d
/-- an exception, by its class and its dict -/
def XR (W : Wo) (H : Hp) (x : D) (cls : Value) (d : Option Addr) : Prop := match x with
  | .obj c [] => (P.T.xcl[c]?).isSome = true ∧ cls = .ref (P.xa c) ∧ d = none
  | _ => False
/-- an owned container -/
structure Own (W : Wo) (H : Hp) (a : Addr) (d : D) : Prop where
  c : Cell P W H a d
  nf : ¬ W.F a
  nc : a ∉ W.ι
structure En (W : Wo) (H : Hp) (σ : L2.St) (ρ : Rho) : Prop where
  len : σ.length = ρ.length
  fz : ∀ (i : Nat) (d : D), ρ[i]? = some (.fz d) → ∃ v, σ[i]? = some (some v) ∧ Rep P W H v d
  ow : ∀ (i : Nat) (d : D), ρ[i]? = some (.ow d) → ∃ a, σ[i]? = some (some (.ref a)) ∧ Own P W H a d
  ne : ∀ (i j : Nat) (d e : D) (a : Addr), ρ[i]? = some (.ow d) → ρ[j]? = some (.ow e) → σ[i]? = some (some (.ref a)) → σ[j]? = some (some (.ref a)) → i = j
end
section
variable {P : Pl} {W W' W'' : Wo} {H H' H'' : Hp} {μ μ' : Sto} {σ : L2.St} {ρ : Rho}
theorem RepL.len : ∀ {vs ds}, RepL P W H vs ds → vs.length = ds.length
  | _, _, .nil => rfl
  | _, _, .cons _ t => congrArg Nat.succ (RepL.len t)
theorem RepL.get : ∀ {vs ds} {i : Nat} {d : D}, RepL P W H vs ds → ds[i]? = some d → ∃ v, vs[i]? = some v ∧ Rep P W H v d
  | _, _, _, _, .nil, e => by simp at e
  | _, _, 0, _, .cons r _, e => by simp at e; subst e; exact ⟨_, rfl, r⟩
  | _, _, i + 1, d, .cons _ t, e => by simpa using RepL.get (i := i) (d := d) t (by simpa using e)
theorem RepL.append : ∀ {vs ds ws es}, RepL P W H vs ds → RepL P W H ws es → RepL P W H (vs ++ ws) (ds ++ es)
  | _, _, _, _, .nil, t => t
  | _, _, _, _, .cons r s, t => .cons r (RepL.append s t)
theorem RepL.set : ∀ {vs ds} (i : Nat) {v d}, RepL P W H vs ds → Rep P W H v d → RepL P W H (vs.set i v) (ds.set i d)
  | _, _, _, _, _, .nil, _ => .nil
  | _, _, 0, _, _, .cons _ t, q => .cons q t
  | _, _, i + 1, _, _, .cons r t, q => .cons r (RepL.set i t q)
theorem SqL_rd {K : PySem.W.Frag} {a : Addr} {vs : List V} (h : SqL K H a vs) (k : (∀ o, H a = some o → H' a = some o)) : SqL K H' a vs := by
  rcases h with (h | ⟨o, h⟩) | h
  · exact .inl (.inl (k _ h))
  · exact .inl (.inr ⟨o, k _ h⟩)
  · exact .inr h
theorem SqT_rd {K : PySem.W.Frag} {a : Addr} {vs : List V} (h : SqT K H a vs) (k : (∀ o, H a = some o → H' a = some o)) : SqT K H' a vs := by
  rcases h with (h | ⟨o, h⟩) | h
  · exact .inl (.inl (k _ h))
  · exact .inl (.inr ⟨o, k _ h⟩)
  · exact .inr h
/-- what the frozen part and the cells' places say carries over -/
structure Keep (W : Wo) (H : Hp) (W' : Wo) (H' : Hp) : Prop where
  fz : ∀ a, W.F a → W'.F a
  rd : ∀ a o, W.F a → H a = some o → H' a = some o
  pre : ∃ l, W'.ι = W.ι ++ l
mutual
theorem Rep.keep (k : Keep W H W' H') : ∀ {v : V} {d : D}, Rep P W H v d → Rep P W' H' v d
  | _, _, .non => .non
  | _, _, .bl b => .bl b
  | _, _, .int i => .int i
  | _, _, .str s h => .str s h
  | _, _, .fn f h => .fn f h
  | _, _, .cell (n := n) h => by
    obtain ⟨l, e⟩ := k.pre
    refine .cell (n := n) ?_
    rw [e, List.getElem?_append_left (List.getElem?_eq_some_iff.mp h).1]
    exact h
  | _, _, .lst h f z r => by
    refine .lst (vs := _) ?_ (f.imp (k.fz _) id) z (RepL.keep k r)
    rcases f with f | f
    · exact SqL_rd h fun o q => k.rd _ o f q
    · exact f H'
  | _, _, .tup h f z r => by
    refine .tup (vs := _) ?_ (f.imp (fun q => ⟨k.fz _ q.1, k.rd _ _ q.1 q.2⟩) id) z (RepL.keep k r)
    rcases f with f | f
    · exact SqT_rd h fun o q => k.rd _ o f.1 q
    · exact f.2 H'
  | _, _, .obj hc h f z r => .obj hc (k.rd _ _ f h) (k.fz _ f) z (RepL.keep k r)
  | _, _, .dct h q f r => .dct (k.rd _ _ f h) q (k.fz _ f) (RepL.keep k r)
theorem RepL.keep (k : Keep W H W' H') : ∀ {vs : List V} {ds : List D}, RepL P W H vs ds → RepL P W' H' vs ds
  | _, _, .nil => .nil
  | _, _, .cons r t => .cons (Rep.keep k r) (RepL.keep k t)
end
theorem Ext.keep (x : Ext W H W' H') (w : Wd P W H μ) : Keep W H W' H' := ⟨x.fz, fun a o f h => x.old a o h fun z => w.nf a z f, x.pre⟩
theorem Rep.ext (x : Ext W H W' H') (w : Wd P W H μ) {v : V} {d : D} (r : Rep P W H v d) : Rep P W' H' v d := r.keep (x.keep w)
theorem RepL.ext (x : Ext W H W' H') (w : Wd P W H μ) {v : List V} {d : List D} (r : RepL P W H v d) : RepL P W' H' v d := r.keep (x.keep w)
theorem Cell.keep {a : Addr} {d : D} (k : Keep W H W' H') (e : ∀ o, H a = some o → H' a = some o) (c : Cell P W H a d) : Cell P W' H' a d := by
  cases c with
  | lst h z r => exact .lst (e _ h) z (r.keep k)
  | obj hc h z r => exact .obj hc (e _ h) z (r.keep k)
  | dct h q r => exact .dct (e _ h) q (r.keep k)
theorem Cell.some {a : Addr} {d : D} (c : Cell P W H a d) : ∃ o, H a = Option.some o := by
  cases c with
  | lst h _ _ => exact ⟨_, h⟩
  | obj _ h _ _ => exact ⟨_, h⟩
  | dct h _ _ => exact ⟨_, h⟩
theorem Cell.nt {a : Addr} {d : D} {xs : List V} (c : Cell P W H a d) (h : H a = Option.some (.tup xs)) : False := by
  cases c with
  | lst q _ _ => rw [h] at q; cases q
  | obj _ q _ _ => rw [h] at q; cases q
  | @dct u t vs es q e _ =>
    rw [h] at q
    cases q
    cases t with
    | true => obtain ⟨_, e, _⟩ := e; cases e
    | false => obtain ⟨_, e, _⟩ := e; cases e
theorem Own.ext {a : Addr} {d : D} (x : Ext W H W' H') (w : Wd P W H μ) (c : Own P W H a d) : Own P W' H' a d := by
  obtain ⟨o, ho⟩ := c.c.some
  refine ⟨c.c.keep (x.keep w) fun o q => x.old a o q c.nc, fun z => ?_, fun z => ?_⟩
  · rcases x.fresh a z with h | h | ⟨xs, h⟩
    · exact c.nf h
    · rw [ho] at h; cases h
    · exact c.c.nt h
  · rcases x.newc a z with h | h
    · exact c.nc h
    · rw [ho] at h; cases h
theorem En.ext (x : Ext W H W' H') (w : Wd P W H μ) (e : En P W H σ ρ) : En P W' H' σ ρ := by
  refine ⟨e.len, fun i d h => ?_, fun i d h => ?_, e.ne⟩
  · obtain ⟨v, a, b⟩ := e.fz i d h
    exact ⟨v, a, b.ext x w⟩
  · obtain ⟨v, a, b⟩ := e.ow i d h
    exact ⟨v, a, b.ext x w⟩
theorem Ext.refl : Ext W H W H := ⟨fun _ h => h, fun _ h => .inl h, fun _ _ h _ => h, ⟨[], by simp⟩, fun _ h => .inl h⟩
theorem Ext.tr (x : Ext W H W' H') (y : Ext W' H' W'' H'') (w' : Wd P W' H' μ') : Ext W H W'' H'' := by
  have up : ∀ a, H' a = none → a ∉ W.ι → H a = none := fun a h hn => by
    cases q : H a with
    | none => rfl
    | some o => rw [x.old a o q hn] at h; cases h
  have inι : ∀ a, a ∈ W.ι → a ∈ W'.ι := fun a h => by
    obtain ⟨l, e⟩ := x.pre
    rw [e]; exact List.mem_append_left _ h
  have ci : ∀ a, a ∈ W.ι → H' a ≠ none := fun a h => by
    have h' := inι a h
    obtain ⟨n, hn⟩ := List.getElem?_of_mem h'
    have hl : n < μ'.length := by rw [← w'.len]; exact (List.getElem?_eq_some_iff.mp hn).1
    obtain ⟨o, ho⟩ := (w'.cell n a _ hn (List.getElem?_eq_getElem hl)).some
    rw [ho]; exact fun z => nomatch z
  have ct : ∀ a, a ∈ W.ι → ∀ xs, H' a ≠ some (.tup xs) := fun a h xs e => by
    have h' := inι a h
    obtain ⟨n, hn⟩ := List.getElem?_of_mem h'
    have hl : n < μ'.length := by rw [← w'.len]; exact (List.getElem?_eq_some_iff.mp hn).1
    exact (w'.cell n a _ hn (List.getElem?_eq_getElem hl)).nt e
  refine ⟨fun a h => y.fz a (x.fz a h), fun a h => ?_, fun a o h hn => ?_, ?_, fun a h => ?_⟩
  · rcases y.fresh a h with q | q | ⟨xs, q⟩
    · exact x.fresh a q
    · exact .inr (.inl (up a q fun z => ci a z q))
    · by_cases hz : a ∈ W.ι
      · exact absurd q (ct a hz xs)
      · cases e : H a with
        | none => exact .inr (.inl rfl)
        | some o =>
          have := x.old a o e hz
          rw [q] at this
          cases this
          exact .inr (.inr ⟨xs, rfl⟩)
  · refine y.old a o (x.old a o h hn) fun z => ?_
    rcases x.newc a z with q | q
    · exact hn q
    · rw [h] at q; cases q
  · obtain ⟨l, e⟩ := x.pre
    obtain ⟨m, e'⟩ := y.pre
    exact ⟨l ++ m, by rw [e', e, List.append_assoc]⟩
  · rcases y.newc a h with q | q
    · exact x.newc a q
    · by_cases hn : a ∈ W.ι
      · exact .inl hn
      · exact .inr (up a q hn)
theorem Ext.trans (x : Ext W H W' H') (y : Ext W' H' W'' H'') (w : Wd P W H μ) (w' : Wd P W' H' μ') : Ext W H W'' H'' := x.tr y w'
/-! new things -/
def Wo.add (W : Wo) (p : Addr) : Wo := ⟨fun a => W.F a ∨ a = p, W.ι⟩
/-- the same container, from now on never changed -/
theorem Own.freeze {a : Addr} {d : D} (w : Wd P W H μ) (o : Own P W H a d) (nd : d.isDct = false) : Wd P (W.add a) H μ ∧ Rep P (W.add a) H (.ref a) d ∧ (∀ b, ¬ (W.add a).F b ↔ ¬ W.F b ∧ b ≠ a) := by
  have k : Keep W H (W.add a) H := ⟨fun _ h => .inl h, fun _ _ _ h => h, [], by simp [Wo.add]⟩
  refine ⟨⟨w.len, w.nd, fun b hb z => ?_, fun b hb => ?_, fun n b d h1 h2 => (w.cell n b d h1 h2).keep k fun _ h => h⟩, ?_, fun b => ?_⟩
  · rcases z with z | z
    · exact w.nf b hb z
    · exact o.nc (z ▸ hb)
  · rcases hb with z | z
    · exact w.tr b z
    · obtain ⟨u, hu⟩ := o.c.some
      rw [z, hu]; exact fun z => nomatch z
  · cases o.c with
    | lst h z r => exact .lst (.of h) (.inl (.inr rfl)) z (r.keep k)
    | obj hc h z r => exact .obj hc h (.inr rfl) z (r.keep k)
    | dct => cases nd
  · show ¬ (W.F b ∨ b = a) ↔ _
    exact ⟨fun h => ⟨fun z => h (.inl z), fun z => h (.inr z)⟩, fun h z => z.elim h.1 h.2⟩
theorem dho_dct {t : Bool} {u : HO} {ks : List DKey} {vs : List V} (h : DHO t u ks vs) : isDct u = true := by
  cases t with
  | true => obtain ⟨_, rfl, _⟩ := h; rfl
  | false => obtain ⟨_, rfl, _⟩ := h; rfl
/-- a dict, locked, from now on never changed -/
theorem Own.lockF {a : Addr} {t : Bool} {es : List (DKey × D)} (w : Wd P W H μ) (o : Own P W H a (.dct t es)) : ∃ u, H a = some u ∧ isDct u = true ∧ ∀ od, Wd P (W.add a) (upd H a (.frz od u)) μ ∧ Rep P (W.add a) (upd H a (.frz od u)) (.ref a) (.dct t es) := by
  obtain ⟨c, nf, nc⟩ := o
  cases c with
  | @dct u _ vs _ ha q r =>
    refine ⟨u, ha, dho_dct q, fun od => ?_⟩
    have k : Keep W H (W.add a) (upd H a (.frz od u)) := ⟨fun _ h => .inl h, fun b o' f h => by rw [upd_ne (show b ≠ a from fun z => nf (z ▸ f))]; exact h, [], by simp [Wo.add]⟩
    refine ⟨⟨w.len, w.nd, fun b hb z => ?_, fun b hb => ?_, fun n b d h1 h2 => (w.cell n b d h1 h2).keep k fun o' h => ?_⟩, .dct upd_same q (.inr rfl) (r.keep k)⟩
    · rcases z with z | z
      · exact w.nf b hb z
      · exact nc (z ▸ hb)
    · rcases hb with z | z
      · rw [upd_ne (show b ≠ a from fun e => nf (e ▸ z))]; exact w.tr b z
      · rw [z, upd_same]; exact fun z => nomatch z
    · rw [upd_ne (show b ≠ a from fun e => nc (e ▸ List.mem_of_getElem? h1))]; exact h
theorem freeze_or {a : Addr} {d : D} {Q : Hp → Prop} (w : Wd P W H μ) (o : Own P W H a d) (k : ∀ H', (∀ b, b ≠ a → H' b = H b) → Wd P (W.add a) H' μ → Rep P (W.add a) H' (.ref a) d → Q H') : Q H ∨ ∃ b u, V.ref a = .ref b ∧ H b = some u ∧ isDct u = true ∧ ∀ od, Q (upd H b (.frz od u)) := by
  cases hd : d.isDct with
  | false =>
    obtain ⟨w2, r2, _⟩ := o.freeze w hd
    exact .inl (k H (fun _ _ => rfl) w2 r2)
  | true =>
    cases d <;> first | (cases hd; done) | skip
    obtain ⟨u, h1, h2, h3⟩ := o.lockF w
    exact .inr ⟨a, u, rfl, h1, h2, fun od => k _ (fun b hb => upd_ne hb) (h3 od).1 (h3 od).2⟩
end
end EV

set_option Elab.async false
set_option linter.all false
set_option maxRecDepth 100000
set_option maxHeartbeats 1000000
namespace EV
open PySem PySem.Spec PyProof.Rows L2
theorem lim_eq : (LIM : Nat) = sizeLine := by rw [sizeLine_eq]
section
variable {P : Pl} {W W' W'' : Wo} {H H' H'' : Hp} {μ μ' : Sto} {σ : L2.St} {ρ : Rho}
theorem bind_some' {α β : Type} {x : Option α} {f : α → Option β} {b : β} (h : x.bind f = some b) : ∃ a, x = some a ∧ f a = some b := Option.bind_eq_some_iff.mp h
theorem keep_upd {p : Addr} {o : HO} (w : Wd P W H μ) (hp : H p = none) {G : Addr → Prop} (hG : ∀ a, W.F a → G a) : Keep W H ⟨G, W.ι⟩ (upd H p o) :=
  ⟨hG, fun a u _ h => by rw [upd_ne (ne_of_none h hp)]; exact h, [], by simp⟩
theorem Wd.notp {p : Addr} (w : Wd P W H μ) (hp : H p = none) : ¬ W.F p ∧ p ∉ W.ι := by
  refine ⟨fun z => w.tr p z hp, fun z => ?_⟩
  obtain ⟨n, hn⟩ := List.getElem?_of_mem z
  have hl : n < μ.length := by rw [← w.len]; exact (List.getElem?_eq_some_iff.mp hn).1
  obtain ⟨o, ho⟩ := (w.cell n p _ hn (List.getElem?_eq_getElem hl)).some
  rw [hp] at ho; cases ho
/-- a new object, frozen at once -/
theorem addF {p : Addr} {o : HO} (w : Wd P W H μ) (hp : H p = none) : Ext W H (W.add p) (upd H p o) ∧ Wd P (W.add p) (upd H p o) μ := by
  have k : Keep W H (W.add p) (upd H p o) := keep_upd w hp fun a h => .inl h
  obtain ⟨nF, nι⟩ := w.notp hp
  refine ⟨⟨fun _ h => .inl h, fun a h => ?_, fun a u h _ => ?_, ⟨[], by simp [Wo.add]⟩, fun _ h => .inl h⟩, ⟨w.len, w.nd, fun a h z => ?_, fun a h => ?_, fun n a d h1 h2 => (w.cell n a d h1 h2).keep k fun u h => ?_⟩⟩
  · rcases h with h | h
    · exact .inl h
    · subst h; exact .inr (.inl hp)
  · rw [upd_ne (ne_of_none h hp)]; exact h
  · rcases z with z | z
    · exact w.nf a h z
    · subst z; exact nι h
  · rcases h with h | h
    · rw [upd_ne (show a ≠ p from fun z => nF (z ▸ h))]; exact w.tr a h
    · subst h; rw [upd_same]; exact fun z => nomatch z
  · rw [upd_ne (ne_of_none h hp)]; exact h
/-- a new object, owned -/
theorem addO {p : Addr} {o : HO} (w : Wd P W H μ) (hp : H p = none) : Ext W H W (upd H p o) ∧ Wd P W (upd H p o) μ := by
  have k : Keep W H W (upd H p o) := keep_upd w hp fun a h => h
  obtain ⟨nF, nι⟩ := w.notp hp
  refine ⟨⟨fun _ h => h, fun a h => .inl h, fun a u h _ => ?_, ⟨[], by simp⟩, fun _ h => .inl h⟩, ⟨w.len, w.nd, w.nf, fun a h => ?_, fun n a d h1 h2 => (w.cell n a d h1 h2).keep k fun u h => ?_⟩⟩
  · rw [upd_ne (ne_of_none h hp)]; exact h
  · rw [upd_ne (show a ≠ p from fun z => nF (z ▸ h))]; exact w.tr a h
  · rw [upd_ne (ne_of_none h hp)]; exact h
/-- what is free behind was free ahead -/
theorem Ext.free {a : Addr} (x : Ext W H W' H') (w' : Wd P W' H' μ) (h : H' a = none) : H a = none := by
  cases q : H a with
  | none => rfl
  | some o =>
    by_cases hn : a ∈ W.ι
    · obtain ⟨l, e⟩ := x.pre
      exact absurd (show a ∈ W'.ι by rw [e]; exact List.mem_append_left _ hn) (w'.notp h).2
    · rw [x.old a o q hn] at h; cases h
theorem Ext.addF {a : Addr} (x : Ext W H W' H') (ha : H a = none) : Ext W H (W'.add a) H' := by
  refine ⟨fun b h => .inl (x.fz b h), fun b h => ?_, x.old, x.pre, x.newc⟩
  rcases h with h | h
  · exact x.fresh b h
  · subst h; exact .inr (.inl ha)
theorem Ext.addFu {a : Addr} (x : Ext W H W' H') (ha : H a = none) (hb : ∀ b, b ≠ a → H'' b = H' b) : Ext W H (W'.add a) H'' := by
  have y := x.addF ha
  refine ⟨y.fz, y.fresh, fun b o h hn => ?_, y.pre, y.newc⟩
  rw [hb b (ne_of_none h ha)]
  exact y.old b o h hn
/-- a new cell -/
def Wo.addC (W : Wo) (a : Addr) : Wo := ⟨W.F, W.ι ++ [a]⟩
theorem Ext.addC {a : Addr} (x : Ext W H W' H') (ha : H a = none) : Ext W H (W'.addC a) H' := by
  refine ⟨x.fz, x.fresh, x.old, ?_, fun b h => ?_⟩
  · obtain ⟨l, e⟩ := x.pre
    exact ⟨l ++ [a], by show W'.ι ++ [a] = _; rw [e, List.append_assoc]⟩
  · rcases List.mem_append.mp h with h | h
    · exact x.newc b h
    · have e : b = a := by simpa using h
      subst e; exact .inr ha
theorem Own.box {a : Addr} {d : D} (w : Wd P W H μ) (o : Own P W H a d) : Wd P (W.addC a) H (μ ++ [d]) ∧ Rep P (W.addC a) H (.ref a) (.cell μ.length) := by
  have k : Keep W H (W.addC a) H := ⟨fun _ h => h, fun _ _ _ h => h, [a], rfl⟩
  have hl := w.len
  refine ⟨⟨by simp [Wo.addC, hl], ?_, fun b h => ?_, w.tr, fun n b e h1 h2 => ?_⟩, .cell (n := μ.length) ?_⟩
  · show (W.ι ++ [a]).Nodup
    rw [List.nodup_append]
    refine ⟨w.nd, by simp, fun x hx y hy => ?_⟩
    have e : y = a := by simpa using hy
    rintro rfl
    exact o.nc (e ▸ hx)
  · rcases List.mem_append.mp h with h | h
    · exact w.nf b h
    · have e : b = a := by simpa using h
      subst e; exact o.nf
  · have h1 : (W.ι ++ [a])[n]? = some b := h1
    by_cases hn : n < μ.length
    · rw [List.getElem?_append_left (by omega)] at h1
      rw [List.getElem?_append_left hn] at h2
      exact (w.cell n b e h1 h2).keep k fun _ h => h
    · have hn2 : n = μ.length := by
        have := (List.getElem?_eq_some_iff.mp h2).1
        simp at this; omega
      subst hn2
      rw [← hl] at h1
      simp at h1 h2
      subst h1 h2
      exact o.c.keep k fun _ h => h
  · show (W.ι ++ [a])[μ.length]? = some a
    rw [← hl]; simp
/-- a cell is written -/
theorem Wd.write {n : Nat} {a : Addr} {d : D} {o : HO} (w : Wd P W H μ) (hn : W.ι[n]? = some a) (c : Cell P W (upd H a o) a d) : Ext W H W (upd H a o) ∧ Wd P W (upd H a o) (μ.set n d) := by
  have ha : a ∈ W.ι := List.mem_of_getElem? hn
  have k : Keep W H W (upd H a o) := ⟨fun _ h => h, fun b u f h => by rw [upd_ne (show b ≠ a from fun z => w.nf a ha (z ▸ f))]; exact h, [], by simp⟩
  refine ⟨⟨fun _ h => h, fun _ h => .inl h, fun b u h hb => by rw [upd_ne (show b ≠ a from fun z => hb (z ▸ ha))]; exact h, ⟨[], by simp⟩, fun _ h => .inl h⟩, ⟨by simp [w.len], w.nd, w.nf, fun b h => ?_, fun m b e h1 h2 => ?_⟩⟩
  · rw [upd_ne (show b ≠ a from fun z => w.nf a ha (z ▸ h))]; exact w.tr b h
  · by_cases hm : m = n
    · subst hm
      rw [hn] at h1; cases h1
      have hl : m < μ.length := by rw [← w.len]; exact (List.getElem?_eq_some_iff.mp hn).1
      rw [List.getElem?_set_self hl] at h2; cases h2
      exact c
    · rw [List.getElem?_set_ne (Ne.symm hm)] at h2
      have hb : b ≠ a := fun z => by
        subst z
        exact hm ((List.getElem?_inj (List.getElem?_eq_some_iff.mp h1).1 w.nd).mp (by rw [h1, hn]))
      exact (w.cell m b e h1 h2).keep k fun u h => by rw [upd_ne hb]; exact h
/-! what may be read -/
def RRep (P : Pl) (W : Wo) (H : Hp) (v : V) (d : D) : Prop := Rep P W H v d ∨ ∃ a, v = .ref a ∧ Own P W H a d
theorem RRep.ext (x : Ext W H W' H') (w : Wd P W H μ) {v : V} {d : D} (r : RRep P W H v d) : RRep P W' H' v d := by
  rcases r with r | ⟨a, e, o⟩
  · exact .inl (r.ext x w)
  · exact .inr ⟨a, e, o.ext x w⟩
/-- a list that may be read -/
theorem RRep.lst {v : V} {d : D} {xs : List D} (w : Wd P W H μ) (r : RRep P W H v d) (h : (d.top μ).bind asLst = some xs) : ∃ a vs, v = .ref a ∧ SqL P.K H a vs ∧ RepL P W H vs xs ∧ vs.length ≤ LIM := by
  obtain ⟨e, h1, h2⟩ := bind_some' h
  have key : ∀ {a : Addr}, Cell P W H a e → ∃ vs, SqL P.K H a vs ∧ RepL P W H vs xs ∧ vs.length ≤ LIM := fun {a} c => by
    cases c with
    | lst hh z rr => cases h2; exact ⟨_, .of hh, rr, z⟩
    | obj => cases h2
    | dct => cases h2
  cases d with
  | cell n =>
    rcases r with r | ⟨a, _, o⟩
    · cases r with
      | @cell _ a hn =>
        obtain ⟨vs, q1, q2, q3⟩ := key (w.cell n a e hn h1)
        exact ⟨a, vs, rfl, q1, q2, q3⟩
    · cases o.c
  | lst ys =>
    cases h1
    cases h2
    rcases r with r | ⟨a, ea, o⟩
    · cases r with
      | lst q f z rr => exact ⟨_, _, rfl, q, rr, z⟩
    · obtain ⟨vs, q1, q2, q3⟩ := key o.c
      exact ⟨a, vs, ea, q1, q2, q3⟩
  | _ => cases h1; cases h2
theorem RRep.seq {v : V} {d : D} {xs : List D} (w : Wd P W H μ) (r : RRep P W H v d) (h : (d.top μ).bind asSeq = some xs) : ∃ a vs, v = .ref a ∧ (SqL P.K H a vs ∨ SqT P.K H a vs) ∧ RepL P W H vs xs ∧ vs.length ≤ LIM := by
  cases d with
  | tup ys =>
    cases h
    rcases r with r | ⟨a, ea, o⟩
    · cases r with
      | tup q f z rr => exact ⟨_, _, rfl, .inr q, rr, z⟩
    · cases o.c
  | cell n =>
    rcases r with r | ⟨a, _, o⟩
    · cases r with
      | @cell _ a hn =>
        obtain ⟨e, h1, h2⟩ := bind_some' h
        cases w.cell n a e hn h1 with
        | lst hh z rr => cases h2; exact ⟨a, _, rfl, .inl (.of hh), rr, z⟩
        | obj => cases h2
        | dct => cases h2
    · cases o.c
  | lst ys =>
    obtain ⟨a, vs, q0, q1, q2, q3⟩ := r.lst (xs := ys) w rfl
    cases h
    exact ⟨a, vs, q0, .inl q1, q2, q3⟩
  | _ => cases h
theorem RRep.obj {v : V} {d : D} {c : Nat} {xs : List D} (w : Wd P W H μ) (r : RRep P W H v d) (h : d.top μ = some (.obj c xs)) : ∃ a dx vs, v = .ref a ∧ (P.T.cls[c]?).isSome = true ∧ H a = some (.ins (P.ca c) dx ((P.fld c).zip vs)) ∧ RepL P W H vs xs ∧ vs.length ≤ (P.fld c).length := by
  cases d with
  | cell n =>
    rcases r with r | ⟨a, _, o⟩
    · cases r with
      | @cell _ a hn =>
        cases w.cell n a _ hn h with
        | obj hc hh z rr => exact ⟨a, _, _, rfl, hc, hh, rr, z⟩
    · cases o.c
  | obj c' ys =>
    cases h
    rcases r with r | ⟨a, ea, o⟩
    · cases r with
      | obj hc q f z rr => exact ⟨_, _, _, rfl, hc, q, rr, z⟩
    · cases o.c with
      | obj hc hh z rr => exact ⟨a, _, _, ea, hc, hh, rr, z⟩
  | _ => cases h
/-! flat things, data -/
theorem Rep.flat {v : V} {d : D} (r : Rep P W H v d) (h : d.flat = true) : flatV v = true := by
  cases r <;> first | rfl | cases h
theorem RepL.flat : ∀ {vs : List V} {ds : List D}, RepL P W H vs ds → ds.all D.flat = true → vs.all flatV = true
  | _, _, .nil, _ => rfl
  | _, _, .cons r t, h => by
    rw [List.all_cons, Bool.and_eq_true] at h ⊢
    exact ⟨r.flat h.1, t.flat h.2⟩
theorem eqV_py {v w : V} {d e : D} (r : Rep P W H v d) (q : Rep P W H w e) (hd : d.flat = true) (he : e.flat = true) : eqV v w = PyData.eqv d.py e.py := by
  cases r <;> first
    | (cases hd; done)
    | (cases q <;> first | (cases he; done) | (simp [eqV, D.py, PyData.eqv]; done) | rfl)
theorem inV_py {w : V} {e : D} (q : Rep P W H w e) (he : e.flat = true) : ∀ {vs : List V} {ds : List D}, RepL P W H vs ds → ds.all D.flat = true → inV w vs = ds.any fun y => PyData.eqv y.py e.py
  | _, _, .nil, _ => rfl
  | _, _, .cons r t, h => by
    rw [List.all_cons, Bool.and_eq_true] at h
    unfold inV
    rw [List.any_cons, List.any_cons, eqV_py r q h.1 he]
    exact congrArg _ (inV_py q he t h.2)
mutual
theorem Rep.dp : ∀ {v : V} {d : D}, Rep P W H v d → d.dat = true → Dp P.K H v d.py ∧ d.py.canLay0 = true
  | _, _, .non, _ => ⟨.non, rfl⟩
  | _, _, .bl b, _ => ⟨.bl b, rfl⟩
  | _, _, .int i, _ => ⟨.int i, rfl⟩
  | _, _, .str s h, _ => ⟨.str s, (Bool.and_eq_true_iff.mp h).1⟩
  | _, _, .fn f _, h => nomatch h
  | _, _, .cell _, h => nomatch h
  | _, _, .lst q f z r, h => let ⟨a, b⟩ := RepL.dp r h; ⟨.lst q a, b⟩
  | _, _, .tup q f z r, h => let ⟨a, b⟩ := RepL.dp r h; ⟨.tup q a, b⟩
  | _, _, .obj _ _ _ _ _, h => nomatch h
  | _, _, .dct _ _ _ _, h => nomatch h
theorem RepL.dp : ∀ {vs : List V} {ds : List D}, RepL P W H vs ds → D.dats ds = true → DpAll P.K H vs (D.pys ds) ∧ PyData.canLayAll0 (D.pys ds) = true
  | _, _, .nil, _ => ⟨.nil, rfl⟩
  | _, _, .cons r t, h => by
    have h : (D.dat _ && D.dats _) = true := h
    rw [Bool.and_eq_true] at h
    obtain ⟨a, b⟩ := Rep.dp r h.1
    obtain ⟨c, d⟩ := RepL.dp t h.2
    exact ⟨.cons a c, by show (PyData.canLay0 _ && PyData.canLayAll0 _) = true; rw [b, d]; rfl⟩
end
theorem RRep.dp {v : V} {d e : D} (w : Wd P W H μ) (r : RRep P W H v d) (h : d.top μ = some e) (hd : e.dat = true) : Dp P.K H v e.py ∧ e.py.canLay0 = true := by
  have key : ∀ {a : Addr}, Cell P W H a e → Dp P.K H (.ref a) e.py ∧ e.py.canLay0 = true := fun {a} c => by
    cases c with
    | lst hh z rr => obtain ⟨a, b⟩ := rr.dp hd; exact ⟨.lst (.of hh) a, b⟩
    | obj => cases hd
    | dct => cases hd
  cases d with
  | cell n =>
    rcases r with r | ⟨a, _, o⟩
    · cases r with
      | cell hn => exact key (w.cell n _ e hn h)
    · cases o.c
  | _ =>
    cases h
    rcases r with r | ⟨a, ea, o⟩
    · exact r.dp hd
    · subst ea; exact key o.c
end
def ownR : R → Bool
  | .own _ => true
  | _ => false
/-! readings -/
section
variable (P : Pl) (cal : Cal) (mak : Mak)
def Post (W : Wo) (H : Hp) (d : D) (μ' : Sto) (Q : VK) : Prop := ∀ v W' H', Ext W H W' H' → Wd P W' H' μ' → Rep P W' H' v d → Q v H'
def tE (e : E) : TE := fun σ H Q => ∃ (W : Wo) (ρ : Rho) (μ : Sto) (d : D) (μ' : Sto), Wd P W H μ ∧ En P W H σ ρ ∧ ev P.T cal mak e ρ μ = some (d, μ') ∧ Post P W H d μ' Q
def tT (e : E) : TT := fun σ H Q => ∃ (W : Wo) (ρ : Rho) (μ : Sto) (b : Bool) (μ' : Sto), Wd P W H μ ∧ En P W H σ ρ ∧ ev P.T cal mak e ρ μ = some (.bl b, μ') ∧ ∀ W' H', Ext W H W' H' → Wd P W' H' μ' → Q b H'
def tR (r : R) : TE := fun σ H Q => ∃ (W : Wo) (ρ : Rho) (μ : Sto) (d : D) (μ' : Sto), Wd P W H μ ∧ En P W H σ ρ ∧ evR P.T cal mak r ρ μ = some (d, μ') ∧ ∀ v W' H', Ext W H W' H' → Wd P W' H' μ' → RRep P W' H' v d → (ownR r = false → Rep P W' H' v d) → Q v H'
def PostO (W : Wo) (H : Hp) (d : D) (μ' : Sto) (Q : VK) : Prop := ∀ a W' H', Ext W H W' H' → Wd P W' H' μ' → Own P W' H' a d → H a = none → Q (.ref a) H'
def tO (o : O) : TE := fun σ H Q => ∃ (W : Wo) (ρ : Rho) (μ : Sto) (d : D) (μ' : Sto), Wd P W H μ ∧ En P W H σ ρ ∧ evO P.T cal mak o ρ μ = some (d, μ') ∧ PostO P W H d μ' Q
def tA' (es : Es) : TA := fun σ H Q => ∃ (W : Wo) (ρ : Rho) (μ : Sto) (d : List D) (μ' : Sto), Wd P W H μ ∧ En P W H σ ρ ∧ evs P.T cal mak es ρ μ = some (d, μ') ∧ ∀ v W' H', Ext W H W' H' → Wd P W' H' μ' → RepL P W' H' v d → Q v H'
/-- two values in hand -/
def rD2 (f : D → D → Sto → Option D) : R2 := fun x y H Q => ∃ (W : Wo) (μ : Sto) (dx dy d : D), Wd P W H μ ∧ RRep P W H x dx ∧ RRep P W H y dy ∧ f dx dy μ = some d ∧ Post P W H d μ Q
def rD2e (f : D → D → Sto → Option D) : R2 := fun x y H Q => ∃ (W : Wo) (μ : Sto) (dx dy d : D), Wd P W H μ ∧ Rep P W H x dx ∧ Rep P W H y dy ∧ f dx dy μ = some d ∧ Post P W H d μ Q
end
end EV

set_option Elab.async false
set_option linter.all false
set_option maxRecDepth 100000
set_option maxHeartbeats 1000000
namespace EV
open PySem PySem.Spec PyProof.Rows L2
abbrev tyNames : List String := ["NoneType", "bool", "int", "str", "list", "tuple", "dict"]
/-- what the head tells of the text -/
structure Facts (P : Pl) (mg : Str → Option Value) : Prop where
  fn : ∀ (f : Nat) (F : Fn), P.T.fns[f]? = some F → ∃ fd, L2.FunD P.K F.d.name F.d.qual F.d.params F.d.body F.d.scope [] [] (P.fa f) fd
  fg : ∀ (f : Nat) (F : Fn) (x : Str), P.T.fns[f]? = some F → F.d.at_ = (x, none) → mg x = some (.ref (P.fa f))
  cg : ∀ (c : Nat) (k : Cl), P.T.cls[c]? = some k → mg k.name = some (.ref (P.ca c))
  cl : ∀ (c : Nat) (k : Cl), P.T.cls[c]? = some k → Cls P.K (P.ca c)
  na : ∀ (c : Nat) (k : Cl) (f : Nat), P.T.cls[c]? = some k → f ∈ k.fields → NoAttr P.K (P.ca c) (P.nm f)
  nd : ∀ (c : Nat) (k : Cl), P.T.cls[c]? = some k → (P.fld c).Nodup ∧ (P.fld c).length ≤ 100
  meth : ∀ (c m f : Nat), P.T.meth c m = some f → (P.T.cls[c]?).isSome = true → L2.Meth P.K (P.ca c) (P.nm m) (P.fa f) ∧ P.nm m ∉ P.fld c ∧ ∃ F, P.T.fns[f]? = some F ∧ F.ini = false
  mkr : ∀ (c : Nat) (k : Cl), P.T.cls[c]? = some k → k.mu = false → Mk P.K (P.ca c) (P.fa k.init)
  mkm : ∀ (c f : Nat) (k : Cl), (c, f) ∈ P.T.mkm → P.T.cls[c]? = some k → Mk P.K (P.ca c) (P.fa f)
  tyo : ∀ (c : Nat) (k : Cl), P.T.cls[c]? = some k → PySem.W.findIn P.K (.ref (P.ca c)) "__class__" = some (some (.builtin "object.__class__")) ∧ PySem.W.mroIn P.K (P.ca c) (.type "object") = some true ∧
    PySem.W.specialIn P.K (.builtin "object.__class__") "__get__" = some (some (.builtin "getset_descriptor.__get__")) ∧ PySem.W.takesIn P.K (.builtin "object.__class__") = some true
  oo : ∀ (c c' : Nat) (k k' : Cl), P.T.cls[c]? = some k → P.T.cls[c']? = some k' → PySem.W.kitOne P.K (.ref (P.ca c)) (.ref (P.ca c')) = some (k.isa.contains c')
  bo : ∀ (c : Nat) (k : Cl) (n : String), P.T.cls[c]? = some k → n ∈ tyNames → PySem.W.kitOne P.K (.type n) (.ref (P.ca c)) = some false
  ob : ∀ (c : Nat) (k : Cl) (n : String), P.T.cls[c]? = some k → n ∈ tyNames → PySem.W.kitOne P.K (.ref (P.ca c)) (.type n) = some false
  con : ∀ (g : Nat) (x : Str) (d : D), P.T.con[g]? = some (x, d) → ∃ v u, mg x = some u ∧ RelV v u ∧ ∀ W H, Rep P W H v d
abbrev veMro : List Value := [.type "ValueError", .type "Exception", .type "BaseException", .type "object"]
/-- what the head tells of the classes of exceptions -/
structure XF (P : Pl) (mg : Str → Option Value) : Prop where
  g : ∀ (c : Nat) (q : Str × List Nat), P.T.xcl[c]? = some q → mg q.1 = some (.ref (P.xa c))
  ex : ∀ c ∈ P.T.xpl, PySem.W.excIn P.K (P.xa c) veMro "ValueError.__new__" = true ∧ PySem.W.keepIn P.K (.ref (P.xa c)) = true ∧ PySem.W.subIn P.K (.ref (P.xa c)) (.type "BaseException") = some true ∧ PySem.W.typeIn P.K (.ref (P.xa c)) = some (.type "type")
  ec : ∀ (c : Nat) (q : Str × List Nat), P.T.xcl[c]? = some q → L2.ExcC P.K (P.xa c)
  kk : ∀ (c c' : Nat) (q q' : Str × List Nat), P.T.xcl[c]? = some q → P.T.xcl[c']? = some q' → PySem.W.kitOne P.K (.ref (P.xa c)) (.ref (P.xa c')) = some (q.2.contains c') ∧ PySem.W.exmOne P.K (.ref (P.xa c)) (.ref (P.xa c')) = some (q.2.contains c')
  kv : ∀ (c : Nat) (q : Str × List Nat), P.T.xcl[c]? = some q → PySem.W.kitOne P.K (.ref (P.xa c)) (.type "ValueError") = some true
/-- what the head tells of the tables -/
def TabF (P : Pl) (w : World) (mg : Str → Option Value) : Prop := ∀ (g : Nat) (x : Str) (kvs : List (Str × Nat)), P.T.tbl[g]? = some (x, kvs) → ∃ a es n, mg x = some (.ref a) ∧ KDict P.K w a es n ∧
  ∀ z : Str, (∀ f, tbLook kvs z = some f → PySem.W.nsIn P.K a z = some (some (.ref (P.fa f))) ∧ (P.T.fns[f]?).isSome = true) ∧ (tbLook kvs z = none → PySem.W.nsIn P.K a z = some none)
section
variable {P : Pl} {W W' : Wo} {H : Hp} {μ : Sto} {X : Cx}
theorem op_bin (hK : X.K = P.K) (op : Operator) : OpR X (binaryOp op) (rD2e P fun x y _ => binD op x y) := by
  intro pins s σ H x y v u Q I rx ry ⟨W, μ, dx, dy, d, w, r1, r2, hd, k⟩
  replace hd : binD op dx dy = some d := hd
  unfold binD at hd
  have ki : ∀ z : Int, d = .int z → Q (.int z) H := fun z e => k _ W H .refl w (e ▸ .int z)
  split at hd
  · cases hd; cases r1; cases r2
    exact op_add pins s σ H _ _ v u Q I rx ry ⟨_, _, rfl, rfl, ki _ rfl⟩
  · cases hd; cases r1; cases r2
    exact op_sub pins s σ H _ _ v u Q I rx ry ⟨_, _, rfl, rfl, ki _ rfl⟩
  · split at hd
    · rename_i hc
      cases hd; cases r1; cases r2
      exact op_mul pins s σ H _ _ v u Q I rx ry ⟨_, _, rfl, rfl, hc, ki _ rfl⟩
    · cases hd
  · split at hd
    · rename_i hc
      cases hd; cases r1; cases r2
      exact op_fdivW pins s σ H _ _ v u Q I rx ry ⟨_, _, rfl, rfl, wide_div (b := 64) hc.1 (by have := hc.2; omega) (by decide) (by decide), ki _ rfl⟩
    · cases hd
  · split at hd
    · rename_i hc
      cases hd; cases r1; cases r2
      exact op_mod pins s σ H _ _ v u Q I rx ry ⟨_, _, rfl, rfl, hc, ki _ rfl⟩
    · cases hd
  · split at hd
    · rename_i hc
      cases hd; cases r1; cases r2
      exact op_pow pins s σ H _ _ v u Q I rx ry ⟨_, _, rfl, rfl, hc, ki _ rfl⟩
    · cases hd
  · split at hd
    · rename_i hc
      cases hd; cases r1; cases r2
      exact op_shl pins s σ H _ _ v u Q I rx ry ⟨_, _, rfl, rfl, hc, ki _ rfl⟩
    · cases hd
  · split at hd
    · rename_i hc
      cases hd; cases r1; cases r2
      exact op_shr pins s σ H _ _ v u Q I rx ry ⟨_, _, rfl, rfl, hc, ki _ rfl⟩
    · cases hd
  · cases hd; cases r1; cases r2
    exact op_and pins s σ H _ _ v u Q I rx ry ⟨_, _, rfl, rfl, ki _ rfl⟩
  · split at hd
    · rename_i a b hc
      cases hd
      cases r1 with
      | str _ h1 =>
        cases r2 with
        | str _ h2 =>
          refine op_add_str pins s σ H _ _ v u Q I rx ry ⟨_, _, rfl, rfl, by rw [← lim_eq]; exact hc, k _ W H .refl w (.str _ ?_)⟩
          unfold sok at h1 h2 ⊢
          rw [Bool.and_eq_true] at h1 h2 ⊢
          refine ⟨?_, decide_eq_true (by show (a.cps ++ b.cps).size ≤ _; rw [Array.size_append]; exact hc)⟩
          have e1 := h1.1
          have e2 := h2.1
          unfold PyData.strOk at e1 e2 ⊢
          show (a.cps ++ b.cps).all _ = true
          rw [Array.all_append, e1, e2]; rfl
    · cases hd
  · split at hd
    · rename_i hc
      cases hd
      cases r1 with
      | tup q1 f1 z1 l1 =>
        cases r2 with
        | tup q2 f2 z2 l2 =>
          rename_i xs ys a vs b ws
          have n1 := l1.len
          have n2 := l2.len
          refine op_catA pins s σ H _ _ v u Q I rx ry ⟨_, _, _, _, rfl, rfl, hK ▸ q1, hK ▸ q2, by rw [← lim_eq]; omega, fun e => ?_, fun _ e => ?_, fun _ _ p hp => ?_⟩
          · subst e
            cases l1
            exact k _ W H .refl w (.tup q2 f2 z2 l2)
          · subst e
            cases l2
            rw [List.append_nil] at k
            exact k _ W H .refl w (.tup q1 f1 z1 l1)
          · obtain ⟨x', w'⟩ := addF (o := .tup (vs ++ ws)) w hp
            refine k _ _ _ x' w' (.tup (.of upd_same) (.inl ⟨.inr rfl, upd_same⟩) (by rw [List.length_append]; omega) ((l1.ext x' w).append (l2.ext x' w)))
    · cases hd
  · cases hd

/-- a comparison of two values in hand -/
def rCmp (P : Pl) (op : CmpOp) : R2 := fun x y H Q => ∃ (W : Wo) (μ : Sto) (dx dy : D) (b : Bool), Wd P W H μ ∧ RRep P W H x dx ∧ RRep P W H y dy ∧ cmpD op dx dy μ = some b ∧ Q (.bl b) H
theorem eqD_some {x y : D} {b : Bool} (h : eqD x y = some b) : x.dat = true ∧ y.dat = true ∧ min x.py.depth y.py.depth ≤ 64 ∧ b = PyData.eqv x.py y.py := by
  unfold eqD at h
  split at h
  · rename_i hc
    rw [Bool.and_eq_true, Bool.and_eq_true] at hc
    cases h
    exact ⟨hc.1.1, hc.1.2, of_decide_eq_true hc.2, rfl⟩
  · cases h
theorem inD_some {x : D} {xs : List D} {b : Bool} (h : inD x xs = some b) : x.flat = true ∧ xs.all D.flat = true ∧ b = xs.any fun y => PyData.eqv y.py x.py := by
  unfold inD at h
  split at h
  · rename_i hc
    rw [Bool.and_eq_true] at hc
    cases h
    exact ⟨hc.1, hc.2, rfl⟩
  · cases h
theorem RRep.int {v : V} {i : Int} (r : RRep P W H v (.int i)) : v = .int i := by
  rcases r with r | ⟨a, e, o⟩
  · cases r; rfl
  · cases o.c
theorem RRep.bl {v : V} {i : Bool} (r : RRep P W H v (.bl i)) : v = .bl i := by
  rcases r with r | ⟨a, e, o⟩
  · cases r; rfl
  · cases o.c
theorem RRep.str {v : V} {i : Str} (r : RRep P W H v (.str i)) : v = .str i ∧ sok i = true := by
  rcases r with r | ⟨a, e, o⟩
  · cases r with
    | str _ h => exact ⟨rfl, h⟩
  · cases o.c
theorem RRep.non {v : V} (r : RRep P W H v .non) : v = .non := by
  rcases r with r | ⟨a, e, o⟩
  · cases r; rfl
  · cases o.c
theorem RRep.flat {v : V} {d : D} (r : RRep P W H v d) (h : d.flat = true) : Rep P W H v d := by
  rcases r with r | ⟨a, e, o⟩
  · exact r
  · cases o.c <;> cases h
def D.isN : D → Bool
  | .non => true
  | _ => false
theorem isN {v : V} {d : D} (r : RRep P W H v d) : (decide (v = .non)) = d.isN := by
  rcases r with r | ⟨a, e, o⟩
  · cases r <;> rfl
  · subst e
    cases o.c <;> rfl
theorem op_cmp (hK : X.K = P.K) (hu : X.A.units + 64 < cLine) (op : CmpOp) : OpR X (compareOp op) (rCmp P op) := by
  intro pins s σ H x y v u Q I rx ry ⟨W, μ, dx, dy, b, w, r1, r2, hd, k⟩
  have eqs : ∀ {b : Bool}, ((dx.top μ).bind fun x => (dy.top μ).bind fun y => eqD x y) = some b → ∃ d e as bs, Reads s.heap v d as ∧ Reads s.heap u e bs ∧ d.canLay0 = true ∧ e.canLay0 = true ∧ X.A.units + min d.depth e.depth < cLine ∧ b = PyData.eqv d e := fun {b} h => by
    obtain ⟨e1, t1, h⟩ := bind_some' h
    obtain ⟨e2, t2, h⟩ := bind_some' h
    obtain ⟨q1, q2, q3, q4⟩ := eqD_some h
    obtain ⟨p1, l1⟩ := r1.dp w t1 q1
    obtain ⟨p2, l2⟩ := r2.dp w t2 q2
    obtain ⟨as, z1⟩ := Dp.reads I _ _ v (hK ▸ p1) rx
    obtain ⟨bs, z2⟩ := Dp.reads I _ _ u (hK ▸ p2) ry
    exact ⟨_, _, as, bs, z1, z2, l1, l2, by omega, q4⟩
  have ins : ∀ {b : Bool} {dy : D} {y : V}, RRep P W H y dy → ((dy.top μ).bind fun y => (asSeq y).bind fun ys => inD dx ys) = some b → ∃ p xs, y = .ref p ∧ (SqL X.K H p xs ∨ SqT X.K H p xs) ∧ flatV x = true ∧ xs.all flatV = true ∧ inV x xs = b := fun {b dy y} r2 h => by
    obtain ⟨e1, t1, h⟩ := bind_some' h
    obtain ⟨ys, t2, h⟩ := bind_some' h
    obtain ⟨q1, q2, q3⟩ := inD_some h
    obtain ⟨a, vs, ea, sq, rl, _⟩ := r2.seq (xs := ys) w (by rw [t1]; exact t2)
    have rx' := r1.flat q1
    exact ⟨a, vs, ea, hK ▸ sq, rx'.flat q1, rl.flat q2, by rw [q3]; exact inV_py rx' q1 rl q2⟩
  have inAs : ∀ {b : Bool}, inA dx dy μ = some b → (∃ i j, x = .str i ∧ y = .str j ∧ b = !(Builtin.Str.occurrences j i 0 j.length 1).isEmpty) ∨ ∃ p xs, y = .ref p ∧ (SqL X.K H p xs ∨ SqT X.K H p xs) ∧ flatV x = true ∧ xs.all flatV = true ∧ inV x xs = b := fun {b} h => by
    unfold inA at h
    split at h
    · split at h
      · cases h
        exact .inl ⟨_, _, r1.str.1, r2.str.1, rfl⟩
      · cases h
    · exact .inr (ins r2 h)
  cases op with
  | Eq =>
    obtain ⟨d, e, as, bs, z1, z2, l1, l2, z, q⟩ := eqs hd
    subst q
    exact SeqAt.compareEq_reads z1 z2 l1 l2 z ⟨.bl _, H, I, rfl, k⟩
  | NotEq =>
    obtain ⟨e1, t1, h⟩ := bind_some' (show ((dx.top μ).bind fun x => (dy.top μ).bind fun y => (eqD x y).bind fun b => some (!b)) = some b from hd)
    obtain ⟨e2, t2, h⟩ := bind_some' h
    obtain ⟨c, t3, h⟩ := bind_some' h
    obtain ⟨d, e, as, bs, z1, z2, l1, l2, z, q⟩ := eqs (b := c) (by rw [t1, Option.bind_some, t2]; exact t3)
    cases h
    subst q
    exact SeqAt.compareNe_reads z1 z2 l1 l2 z ⟨.bl _, H, I, rfl, k⟩
  | Lt =>
    unfold cmpD at hd
    simp only at hd
    split at hd
    · cases hd; cases r1.int; cases r2.int
      exact op_lt pins s σ H _ _ v u Q I rx ry ⟨_, _, rfl, rfl, k⟩
    · cases hd; cases r1.str.1; cases r2.str.1
      exact op_lt_str pins s σ H _ _ v u Q I rx ry ⟨_, _, rfl, rfl, k⟩
    · cases hd
  | LtE =>
    unfold cmpD at hd
    simp only at hd
    split at hd
    · cases hd; cases r1.int; cases r2.int
      exact op_le pins s σ H _ _ v u Q I rx ry ⟨_, _, rfl, rfl, k⟩
    · cases hd
  | Gt =>
    unfold cmpD at hd
    simp only at hd
    split at hd
    · cases hd; cases r1.int; cases r2.int
      exact op_gt pins s σ H _ _ v u Q I rx ry ⟨_, _, rfl, rfl, k⟩
    · cases hd; cases r1.str.1; cases r2.str.1
      exact op_gt_str pins s σ H _ _ v u Q I rx ry ⟨_, _, rfl, rfl, k⟩
    · cases hd
  | GtE =>
    unfold cmpD at hd
    simp only at hd
    split at hd
    · cases hd; cases r1.int; cases r2.int
      exact op_ge pins s σ H _ _ v u Q I rx ry ⟨_, _, rfl, rfl, k⟩
    · cases hd
  | Is =>
    cases dy <;> first | (cases hd; done) | skip
    case bl c =>
      cases dx <;> first | (cases hd; done) | skip
      cases hd
      exact op_is_bl pins s σ H _ _ v u Q I rx ry ⟨_, _, r1.bl, r2.bl, k⟩
    cases hd
    exact op_isN pins s σ H _ _ v u Q I rx ry ⟨r2.non, by rw [isN r1]; cases dx <;> exact k⟩
  | IsNot =>
    cases dy <;> first | (cases hd; done) | skip
    case bl c =>
      cases dx <;> first | (cases hd; done) | skip
      cases hd
      exact op_isnot_bl pins s σ H _ _ v u Q I rx ry ⟨_, _, r1.bl, r2.bl, k⟩
    cases hd
    refine op_notN pins s σ H _ _ v u Q I rx ry ⟨r2.non, ?_⟩
    rw [isN r1]
    cases dx <;> exact k
  | In =>
    rcases inAs hd with ⟨i, j, e1, e2, e3⟩ | ⟨p, xs, e, h1, h2, h3, h4⟩
    · subst e3
      exact op_in_str pins s σ H _ _ v u Q I rx ry ⟨_, _, e1, e2, k⟩
    · subst h4
      exact op_in_seq pins s σ H _ _ v u Q I rx ry ⟨p, xs, e, h1, h2, h3, k⟩
  | NotIn =>
    obtain ⟨c, hc, h⟩ := bind_some' (show ((inA dx dy μ).bind fun b => some (!b)) = some b from hd)
    cases h
    rcases inAs hc with ⟨i, j, e1, e2, e3⟩ | ⟨p, xs, e, h1, h2, h3, h4⟩
    · subst e3
      exact op_notIn_str pins s σ H _ _ v u Q I rx ry ⟨_, _, e1, e2, k⟩
    · subst h4
      exact op_notIn_seq pins s σ H _ _ v u Q I rx ry ⟨p, xs, e, h1, h2, h3, k⟩
/-! items -/
theorem atI_idx {α : Type} {xs : List α} {i : Int} {x : α} (h : atI xs i = some x) : ∃ j, ixN xs.length i = some j ∧ xs[j]? = some x := bind_some' h
theorem sok_char {s : Str} (h : sok s = true) {j : Nat} {c : Nat} (e : s.cps.toList[j]? = some c) : sok ⟨#[c]⟩ = true := by
  unfold sok PyData.strOk at h ⊢
  rw [Bool.and_eq_true] at h ⊢
  refine ⟨?_, by show decide ((1 : Nat) ≤ LIM) = true; decide⟩
  have h1 := h.1
  rw [Array.all_eq_true'] at h1
  have := h1 c (by rw [Array.mem_def]; exact List.mem_of_getElem? e)
  simpa using this
theorem ix_sub (hK : X.K = P.K) : IxR X (rD2 P subD) := by
  intro value slice pins s σ H x y v u Q I rx ry ⟨W, μ, dx, dy, d, w, r1, r2, hd, k⟩ hs
  refine ix_seq value slice pins s σ H x y v u Q I rx ry ?_ hs
  unfold subD at hd
  split at hd
  · rename_i i
    cases r2.int
    split at hd
    · rename_i z
      obtain ⟨c, h1, h2⟩ := bind_some' hd
      cases h2
      obtain ⟨rfl, hz⟩ := r1.str
      obtain ⟨j, _, hj⟩ := atI_idx h1
      refine .inr (.inr ⟨z, i, c, rfl, rfl, ?_, h1, k _ W H .refl w (.str _ (sok_char hz hj))⟩)
      have := (Bool.and_eq_true_iff.mp hz).2
      rw [← lim_eq]
      exact of_decide_eq_true this
    · obtain ⟨e1, t1, h⟩ := bind_some' hd
      obtain ⟨xs, t2, h⟩ := bind_some' h
      obtain ⟨a, vs, ea, sq, rl, _⟩ := r1.seq (xs := xs) w (by rw [t1]; exact t2)
      obtain ⟨j, h1, h2⟩ := atI_idx h
      obtain ⟨z, hz, rz⟩ := rl.get h2
      have e : atI vs i = some z := by unfold atI; rw [rl.len, h1]; exact hz
      rcases sq with sq | sq
      · exact .inl ⟨a, vs, i, z, ea, rfl, hK ▸ sq, e, k _ W H .refl w rz⟩
      · exact .inr (.inl ⟨a, vs, i, z, ea, rfl, hK ▸ sq, e, k _ W H .refl w rz⟩)
  · cases hd
/-! built-ins -/
theorem ints_of {vs : List V} {ds : List D} : ∀ {ns : List Int}, RepL P W H vs ds → asInts ds = some ns → vs = ns.map V.int := by
  induction ds generalizing vs with
  | nil => intro ns r h; cases r; cases h; rfl
  | cons d ds ih =>
    intro ns r h
    cases r with
    | cons r t =>
      cases d <;> first | (cases h; done) | skip
      obtain ⟨l, h1, h2⟩ := bind_some' h
      cases h2
      cases r
      rw [ih t h1]; rfl
theorem bls_of {vs : List V} {ds : List D} : ∀ {ns : List Bool}, RepL P W H vs ds → asBls ds = some ns → vs = ns.map V.bl := by
  induction ds generalizing vs with
  | nil => intro ns r h; cases r; cases h; rfl
  | cons d ds ih =>
    intro ns r h
    cases r with
    | cons r t =>
      cases d <;> first | (cases h; done) | skip
      obtain ⟨l, h1, h2⟩ := bind_some' h
      cases h2
      cases r
      rw [ih t h1]; rfl
theorem maxI_is : ∀ (l : List Int) (m : Int), m ≤ maxI l m ∧ (∀ x, x ∈ l → x ≤ maxI l m) ∧ (maxI l m = m ∨ maxI l m ∈ l)
  | [], m => ⟨Int.le_refl _, (fun _ h => nomatch h), .inl rfl⟩
  | x :: r, m => by
    have e : maxI (x :: r) m = maxI r (if x > m then x else m) := rfl
    obtain ⟨h1, h2, h3⟩ := maxI_is r (if x > m then x else m)
    rw [e]
    generalize maxI r (if x > m then x else m) = M at h1 h2 h3 ⊢
    by_cases hc : x > m
    · rw [if_pos hc] at h1 h3
      refine ⟨by omega, fun y hy => ?_, .inr ?_⟩
      · rcases List.mem_cons.mp hy with e | e
        · omega
        · exact h2 y e
      · rcases h3 with e | e
        · rw [e]; exact List.mem_cons_self
        · exact List.mem_cons_of_mem _ e
    · rw [if_neg hc] at h1 h3
      refine ⟨by omega, fun y hy => ?_, ?_⟩
      · rcases List.mem_cons.mp hy with e | e
        · omega
        · exact h2 y e
      · rcases h3 with e | e
        · exact .inl e
        · exact .inr (List.mem_cons_of_mem _ e)
theorem minI_is : ∀ (l : List Int) (m : Int), minI l m ≤ m ∧ (∀ x, x ∈ l → minI l m ≤ x) ∧ (minI l m = m ∨ minI l m ∈ l)
  | [], m => ⟨Int.le_refl _, (fun _ h => nomatch h), .inl rfl⟩
  | x :: r, m => by
    have e : minI (x :: r) m = minI r (if x < m then x else m) := rfl
    obtain ⟨h1, h2, h3⟩ := minI_is r (if x < m then x else m)
    rw [e]
    generalize minI r (if x < m then x else m) = M at h1 h2 h3 ⊢
    by_cases hc : x < m
    · rw [if_pos hc] at h1 h3
      refine ⟨by omega, fun y hy => ?_, .inr ?_⟩
      · rcases List.mem_cons.mp hy with e | e
        · omega
        · exact h2 y e
      · rcases h3 with e | e
        · rw [e]; exact List.mem_cons_self
        · exact List.mem_cons_of_mem _ e
    · rw [if_neg hc] at h1 h3
      refine ⟨by omega, fun y hy => ?_, ?_⟩
      · rcases List.mem_cons.mp hy with e | e
        · omega
        · exact h2 y e
      · rcases h3 with e | e
        · exact .inl e
        · exact .inr (List.mem_cons_of_mem _ e)
/-- a built-in of one argument -/
def Bi.val : Bi → Option Value
  | .len => some (.builtin "len")
  | .all => some (.builtin "all")
  | .any => some (.builtin "any")
  | .sum => some (.builtin "sum")
  | .max => some (.builtin "max")
  | .min => some (.builtin "min")
  | .int => some (.type "int")
  | .str => some (.type "str")
  | _ => none
def rB1 (P : Pl) (b : Bi) : List V → Hp → VK → Prop := fun vs H Q => ∃ (W : Wo) (μ : Sto) (v : V) (x d : D), vs = [v] ∧ Wd P W H μ ∧ RRep P W H v x ∧ biD b x μ = some d ∧ Post P W H d μ Q
theorem call_bi (hK : X.K = P.K) (hc : X.calm = true) {b : Bi} {f : Value} (hf : b.val = some f) : CallR X f (rB1 P b) := by
  intro pins s σ H xs us Q I rx ⟨W, μ, v, x, d, ev, w, r, hd, k⟩
  subst ev
  have lst : ∀ {g : List D → Option D}, ((x.top μ).bind fun x => (asLst x).bind fun xs => g xs) = some d → ∃ a vs ds, v = .ref a ∧ SqL X.K H a vs ∧ RepL P W H vs ds ∧ g ds = some d := fun {g} h => by
    obtain ⟨e1, t1, h⟩ := bind_some' h
    obtain ⟨xs, t2, h⟩ := bind_some' h
    obtain ⟨a, vs, ea, sq, rl, _⟩ := r.lst (xs := xs) w (by rw [t1]; exact t2)
    exact ⟨a, vs, xs, ea, hK ▸ sq, rl, h⟩
  have ki : ∀ z : Int, d = .int z → Q (.int z) H := fun z e => k _ W H .refl w (e ▸ .int z)
  have kb : ∀ z : Bool, d = .bl z → Q (.bl z) H := fun z e => k _ W H .refl w (e ▸ .bl z)
  cases b <;> cases hf
  case len =>
    unfold biD at hd
    simp only at hd
    split at hd
    · cases hd
      obtain ⟨rfl, hz⟩ := r.str
      refine call_len pins s σ H _ us Q I rx ⟨.str _, _, rfl, ⟨?_, rfl⟩, ki _ rfl⟩
      have := (Bool.and_eq_true_iff.mp hz).2
      rw [← lim_eq]
      exact of_decide_eq_true this
    · obtain ⟨e1, t1, h⟩ := bind_some' hd
      obtain ⟨xs, t2, h⟩ := bind_some' h
      obtain ⟨a, vs, ea, sq, rl, _⟩ := r.seq (xs := xs) w (by rw [t1]; exact t2)
      subst ea
      cases h
      have := ki _ rfl
      rw [← rl.len] at this
      exact call_len_seq pins s σ H _ us Q I rx ⟨a, vs, rfl, hK ▸ sq, this⟩
  case all =>
    obtain ⟨a, vs, ds, ea, sq, rl, h⟩ := lst (g := fun xs => (asBls xs).bind fun bs => some (.bl (bs.all id))) hd
    obtain ⟨bs, h1, h2⟩ := bind_some' h
    cases h2
    subst ea
    exact cr_all hc pins s σ H _ us Q I rx ⟨a, bs, rfl, bls_of rl h1 ▸ sq, kb _ rfl⟩
  case any =>
    obtain ⟨a, vs, ds, ea, sq, rl, h⟩ := lst (g := fun xs => (asBls xs).bind fun bs => some (.bl (bs.any id))) hd
    obtain ⟨bs, h1, h2⟩ := bind_some' h
    cases h2
    subst ea
    exact cr_any hc pins s σ H _ us Q I rx ⟨a, bs, rfl, bls_of rl h1 ▸ sq, kb _ rfl⟩
  case sum =>
    obtain ⟨a, vs, ds, ea, sq, rl, h⟩ := lst (g := fun xs => (asInts xs).bind fun bs => some (.int bs.sum)) hd
    obtain ⟨bs, h1, h2⟩ := bind_some' h
    cases h2
    subst ea
    exact cr_sum hc pins s σ H _ us Q I rx ⟨a, bs, rfl, ints_of rl h1 ▸ sq, ki _ rfl⟩
  case max =>
    obtain ⟨a, vs, ds, ea, sq, rl, h⟩ := lst (g := fun xs => (asInts xs).bind fun ns => (match ns with | [] => none | n :: r => some (.int (maxI r n)))) hd
    obtain ⟨bs, h1, h2⟩ := bind_some' h
    cases bs with
    | nil => cases h2
    | cons n r' =>
      cases h2
      subst ea
      refine cr_max hc pins s σ H _ us Q I rx ⟨a, n :: r', rfl, ints_of rl h1 ▸ sq, by simp, fun m hm hl => ?_⟩
      obtain ⟨q1, q2, q3⟩ := maxI_is r' n
      have e : m = maxI r' n := by
        have a1 : m ≤ maxI r' n := by
          rcases List.mem_cons.mp hm with e | e
          · omega
          · exact q2 m e
        have a2 : maxI r' n ≤ m := by
          rcases q3 with e | e
          · rw [e]; exact hl n List.mem_cons_self
          · exact hl _ (List.mem_cons_of_mem _ e)
        omega
      rw [e]
      exact ki _ rfl
  case min =>
    obtain ⟨a, vs, ds, ea, sq, rl, h⟩ := lst (g := fun xs => (asInts xs).bind fun ns => (match ns with | [] => none | n :: r => some (.int (minI r n)))) hd
    obtain ⟨bs, h1, h2⟩ := bind_some' h
    cases bs with
    | nil => cases h2
    | cons n r' =>
      cases h2
      subst ea
      refine cr_min hc pins s σ H _ us Q I rx ⟨a, n :: r', rfl, ints_of rl h1 ▸ sq, by simp, fun m hm hl => ?_⟩
      obtain ⟨q1, q2, q3⟩ := minI_is r' n
      have e : m = minI r' n := by
        have a1 : minI r' n ≤ m := by
          rcases List.mem_cons.mp hm with e | e
          · omega
          · exact q2 m e
        have a2 : m ≤ minI r' n := by
          rcases q3 with e | e
          · rw [e]; exact hl n List.mem_cons_self
          · exact hl _ (List.mem_cons_of_mem _ e)
        omega
      rw [e]
      exact ki _ rfl
  case int =>
    cases x <;> first | (cases hd; done) | skip
    · cases hd
      cases r.bl
      exact call_int1 pins s σ H _ us Q I rx (.inr ⟨_, rfl, ki _ rfl⟩)
    · cases hd
      cases r.int
      exact call_int1 pins s σ H _ us Q I rx (.inl ⟨_, rfl, ki _ rfl⟩)
    · rename_i z
      obtain ⟨n, h1, h2⟩ := bind_some' (show (PySem.intText? z).bind (fun n => if z.length ≤ 640 then some (D.int n) else none) = some d from hd)
      split at h2
      · rename_i hz
        cases h2
        have ev : v = .str z := by
          rcases r with r | ⟨a, _, o⟩
          · cases r; rfl
          · cases o.c
        subst ev
        exact call_int_str pins s σ H _ us Q I rx ⟨z, n, rfl, h1, hz, ki _ rfl⟩
      · cases h2
  case str => cases hd
def rB2 (P : Pl) (b : Bi) : List V → Hp → VK → Prop := fun vs H Q => ∃ (W : Wo) (μ : Sto) (v v' : V) (x y d : D), vs = [v, v'] ∧ Wd P W H μ ∧ Rep P W H v x ∧ Rep P W H v' y ∧ b2D b x y = some d ∧ Post P W H d μ Q
theorem call_b2 (hc : X.calm = true) {b : Bi} {f : String} (hf : (b = .max2 ∧ f = "max") ∨ (b = .min2 ∧ f = "min")) : CallR X (.builtin f) (rB2 P b) := by
  intro pins s σ H xs us Q I rx ⟨W, μ, v, v', x, y, d, ev, w, r, r', hd, k⟩
  subst ev
  rcases hf with ⟨rfl, rfl⟩ | ⟨rfl, rfl⟩
  · unfold b2D at hd
    split at hd <;> first | (cases hd; done) | skip
    · rename_i h; cases h
      cases hd
      cases r; cases r'
      exact call_max2 hc pins s σ H _ us Q I rx ⟨_, _, rfl, k _ W H .refl w (.int _)⟩
    · rename_i h; cases h
  · unfold b2D at hd
    split at hd <;> first | (cases hd; done) | skip
    · rename_i h; cases h
    · rename_i h; cases h
      cases hd
      cases r; cases r'
      exact call_min2 hc pins s σ H _ us Q I rx ⟨_, _, rfl, k _ W H .refl w (.int _)⟩
/-! isinstance -/
def Ty.v (P : Pl) : Ty → V
  | .ty n => .ty n
  | .cls c => .ref (P.ca c)
def Ty.k (P : Pl) : Ty → Prop
  | .ty n => n ∈ tyNames
  | .cls c => (P.T.cls[c]?).isSome = true
def rTy (P : Pl) (t : Ty) : List V → Hp → VK → Prop := fun vs H Q => ∃ (W : Wo) (μ : Sto) (v : V) (x : D) (b : Bool), vs = [v, t.v P] ∧ t.k P ∧ Wd P W H μ ∧ Rep P W H v x ∧ tyD P.T x t μ = some b ∧ Q (.bl b) H
def D.tyn : D → Option String
  | .non => some "NoneType"
  | .bl _ => some "bool"
  | .int _ => some "int"
  | .str _ => some "str"
  | .lst _ => some "list"
  | .tup _ => some "tuple"
  | .dct false _ => some "dict"
  | _ => none
theorem isi_type {mg : Str → Option Value} (Y : Facts P mg) {x d : D} {v : V} (w : Wd P W H μ) (r : Rep P W H v x) (h : x.top μ = some d) (hf : ∀ f, d ≠ .fn f) (hf2 : ∀ es, d ≠ .dct true es) :
    (∃ n, n ∈ tyNames ∧ TyX P.K H v (.type n) ∧ d.tyn = some n) ∨ ∃ c k xs, d = .obj c xs ∧ P.T.cls[c]? = some k ∧ TyX P.K H v (.ref (P.ca c)) := by
  have lst : ∀ {a : Addr} {vs : List V}, SqL P.K H a vs → TyX P.K H (.ref a) (.type "list") := fun q => by
    rcases q with (q | ⟨o, q⟩) | ⟨o, its, n, q, qc, _⟩
    · exact .base (.lst q)
    · exact .base (.frz q)
    · exact .kList q qc
  have tup : ∀ {a : Addr} {vs : List V}, SqT P.K H a vs → TyX P.K H (.ref a) (.type "tuple") := fun q => by
    rcases q with (q | ⟨o, q⟩) | ⟨o, its, n, q, qc, _⟩
    · exact .base (.tup q)
    · exact .fTuple q
    · exact .kTuple q qc
  have obj : ∀ {a : Addr} {c : Nat} {dx : Addr} {vs : List V}, H a = some (.ins (P.ca c) dx ((P.fld c).zip vs)) → (P.T.cls[c]?).isSome = true → ∃ k, P.T.cls[c]? = some k ∧ TyX P.K H (.ref a) (.ref (P.ca c)) := fun {a c dx vs} q hk => by
    obtain ⟨k, hk⟩ := Option.isSome_iff_exists.mp hk
    obtain ⟨t1, t2, t3, t4⟩ := Y.tyo c k hk
    exact ⟨k, hk, .base (.ins q (Y.cl c k hk) t1 t3 t4 t2)⟩
  cases r with
  | non => cases h; exact .inl ⟨_, by decide, .base .non, rfl⟩
  | bl b => cases h; exact .inl ⟨_, by decide, .base (.bl b), rfl⟩
  | int i => cases h; exact .inl ⟨_, by decide, .base (.int i), rfl⟩
  | str z hz => cases h; exact .inl ⟨_, by decide, .base (.str z), rfl⟩
  | fn f => cases h; exact absurd rfl (hf f)
  | cell hn =>
    cases w.cell _ _ d hn h with
    | lst hh z rr => exact .inl ⟨_, by decide, .base (.lst hh), rfl⟩
    | obj hc hh z rr =>
      obtain ⟨k, hk, q⟩ := obj hh hc
      exact .inr ⟨_, k, _, rfl, hk, q⟩
    | @dct u t vs es hh q rr =>
      cases t with
      | true => exact absurd rfl (hf2 es)
      | false => obtain ⟨kvs, rfl, _⟩ := q; exact .inl ⟨_, by decide, .base (.dK hh), rfl⟩
  | @dct a o u t vs es hh q f rr =>
    cases h
    cases t with
    | true => exact absurd rfl (hf2 es)
    | false => obtain ⟨kvs, rfl, _⟩ := q; exact .inl ⟨_, by decide, .fDict hh, rfl⟩
  | lst q f z rr => cases h; exact .inl ⟨_, by decide, lst q, rfl⟩
  | tup q f z rr => cases h; exact .inl ⟨_, by decide, tup q, rfl⟩
  | obj hc q f z rr =>
    cases h
    obtain ⟨k, hk, q⟩ := obj q hc
    exact .inr ⟨_, k, _, rfl, hk, q⟩
theorem kit_all : ∀ a ∈ tyNames, ∀ b ∈ tyNames, kitB a b = some (decide (a = b) || (decide (a = "bool") && decide (b = "int"))) := by decide +kernel
theorem call_ty {mg : Str → Option Value} (Y : Facts P mg) (hK : X.K = P.K) (t : Ty) : CallR X (.builtin "isinstance") (rTy P t) := by
  intro pins s σ H xs us Q I rx ⟨W, μ, v, x, b, ev, ht, w, r, hd, k⟩
  subst ev
  have top : ∃ d, x.top μ = some d ∧ (∀ f, d ≠ .fn f) ∧ (∀ es, d ≠ .dct true es) := by
    cases t with
    | ty n =>
      obtain ⟨d, h1, h2⟩ := bind_some' hd
      exact ⟨d, h1, fun f e => (by subst e; cases h2), fun f e => (by subst e; cases h2)⟩
    | cls c =>
      obtain ⟨d, h1, h2⟩ := bind_some' hd
      exact ⟨d, h1, fun f e => (by subst e; cases h2), fun f e => (by subst e; cases h2)⟩
  obtain ⟨d, hx, hf, hf2⟩ := top
  cases t with
  | ty n =>
    obtain ⟨d2, h1, hd⟩ := bind_some' hd
    rw [hx] at h1
    cases h1
    refine call_isi pins s σ H _ us Q I rx ?_
    rcases isi_type Y w r hx hf hf2 with ⟨m, hm, q, hn⟩ | ⟨c, kk, xs, e, hk, q⟩
    · refine ⟨v, .ty n, .type m, .type n, b, rfl, .ty n, hK ▸ q, kit_ty ?_, k⟩
      rw [kit_all m hm n ht]
      have nt : ∀ es, d ≠ .dct true es := hf2
      cases d <;> first | (cases hn; done) | skip
      case dct t es => cases t with
        | true => exact absurd rfl (nt es)
        | false =>
          cases hn
          cases hd
          have ht : n ∈ tyNames := ht
          congr 1
          simp only [tyNames, List.mem_cons, List.not_mem_nil, or_false] at ht
          rcases ht with e | e | e | e | e | e | e <;> subst e <;> rfl
      all_goals (cases hn; cases hd; congr 1)
      all_goals first | (simp [eq_comm]; done) | skip
      all_goals (simp at ht; rcases ht with e | e | e | e | e | e | e <;> subst e <;> rfl)
    · subst e
      cases hd
      exact ⟨v, .ty n, .ref (P.ca c), .type n, false, rfl, .ty n, hK ▸ q, hK ▸ Y.ob c kk n hk ht, k⟩
  | cls c =>
    obtain ⟨k2, hk2⟩ := Option.isSome_iff_exists.mp ht
    obtain ⟨d2, h1, hd⟩ := bind_some' hd
    rw [hx] at h1
    cases h1
    refine call_isi pins s σ H _ us Q I rx ?_
    rcases isi_type Y w r hx hf hf2 with ⟨m, hm, q, hn⟩ | ⟨c', kk, xs, e, hk, q⟩
    · refine ⟨v, .ref (P.ca c), .type m, .ref (P.ca c), b, rfl, .own _, hK ▸ q, ?_, k⟩
      have e : b = false := by
        cases d <;> first | (cases hn; done) | (cases hd; rfl) | skip
        rename_i t es
        cases t <;> first | (cases hn; done) | (cases hd; rfl)
      subst e
      exact hK ▸ Y.bo c k2 m hk2 hm
    · subst e
      obtain ⟨k', h1, h2⟩ := bind_some' hd
      rw [Tab.cl_of hk] at h1; cases h1
      cases h2
      exact ⟨v, .ref (P.ca c), .ref (P.ca c'), .ref (P.ca c), _, rfl, .own _, hK ▸ q, hK ▸ Y.oo c' c kk k2 hk hk2, k⟩
end
end EV

set_option Elab.async false
set_option linter.all false
set_option maxRecDepth 100000
set_option maxHeartbeats 1000000
namespace EV
open PySem PySem.Spec PyProof.Rows L2
/-! the text -/
structure Ga where
  T : Tab
  N : List Str
  sc : Scope
  w : Str → Bool
def visB (sc : Scope) (x : Str) : Bool := match sc.names.lookup x with
  | some .local => true
  | some .cell => true
  | some .free => true
  | _ => false
def locB (sc : Scope) (x : Str) : Bool := match sc.names.lookup x with
  | some .local => true
  | some .cell => true
  | _ => false
def glB (sc : Scope) (x : Str) : Bool := match sc.names.lookup x with
  | some .globalImplicit => true
  | _ => false
def starB : Expr → Bool
  | .Starred _ _ => false
  | _ => true
/-- no display of a set, no comprehension, no call of super -/
def plnB : Expr → Bool
  | .Set _ _ _ => false
  | .Slice _ _ _ _ => false
  | .Call (.Name _ _) [] [] _ => false
  | _ => true
def mrkB : Expr → Bool
  | .Set _ _ _ => false
  | _ => true
def notLc : Expr → Bool
  | .ListComp _ _ _ _ => false
  | .SetComp _ _ _ _ => false
  | .DictComp _ _ _ _ _ => false
  | _ => true
def nmOk (x : Str) : Bool := !(x == ("__debug__" : Str)) && (!(x == ("__classdict__" : Str)) && !(x == ("__name__" : Str)))
def constB : D → Const → Bool
  | .non, .none => true
  | .bl b, .bool c => b == c
  | .int i, .int j => i == j
  | .str s, .str t => decide (s = t) && sok s
  | _, _ => false
def Bi.nm : Bi → Str
  | .len => "len" | .all => "all" | .any => "any" | .sum => "sum" | .max => "max" | .min => "min" | .int => "int" | .str => "str" | .max2 => "max" | .min2 => "min"
def Bi.one : Bi → Bool
  | .max2 => false
  | .min2 => false
  | .str => false
  | _ => true
def Bi.two : Bi → Bool
  | .max2 => true
  | .min2 => true
  | _ => false
def bltNames : List Str := ["len", "all", "any", "sum", "max", "min", "int", "str", "bool", "list", "tuple", "dict", "isinstance", "range", "set", "sorted", "enumerate", "zip", "ValueError"]
def tyB : Ty → Expr → Bool
  | .ty n, .Name x _ => decide (x = Str.ofString n) && (tyNames.contains n && decide (n ≠ "NoneType"))
  | .cls _, .Name _ _ => true
  | _, _ => false
def Es.len : Es → Nat
  | .nil => 0
  | .cons _ es => es.len + 1
def chkCall (G : Ga) (f : Nat) (x : Str) : Bool := (match G.T.fns[f]? with
  | some F => (match F.d.at_ with | (y, none) => decide (y = x) | _ => false) && !F.ini
  | none => false) && (glB G.sc x && nmOk x)
def ownOf (N : List Str) (l : List Nat) : List (Str × Nat) := l.map fun i => (N.getD i "", i)
def blkG (G : Ga) (scope : Scope) : Ga := { G with sc := relS scope G.sc, w := fun x => (match scope.names.lookup x with | some .cell => true | _ => false) || (match (relS scope G.sc).names.lookup x with | some .local => true | _ => false) }
def chkTs (G : Ga) : List Nat → List Expr → Bool
  | [], ts => (match ts with
    | [] => true
    | _ => false)
  | i :: l, ts => (match ts with
    | .Name x _ :: r => decide (G.N[i]? = some x) && (locB G.sc x && (G.w x && chkTs G l r))
    | _ => false)
def chkT (G : Ga) : Tg → Expr → Bool
  | .v i, e => (match e with
    | .Name x _ => decide (G.N[i]? = some x) && (locB G.sc x && G.w x)
    | _ => false)
  | .tup l, e => (match e with
    | .Tuple ts _ _ => chkTs G l ts
    | _ => false)
def tgOk : It → Expr → Bool
  | .enum _, .Tuple _ _ _ => true
  | .enum _, _ => false
  | .enumT _, .Tuple _ _ _ => true
  | .enumT _, _ => false
  | .zip _ _, .Tuple _ _ _ => true
  | .zip _ _, _ => false
  | .items _, .Tuple _ _ _ => true
  | .items _, _ => false
  | .itemsO _, .Tuple _ _ _ => true
  | .itemsO _, _ => false
  | _, _ => true
/-- the keys of a display are these texts -/
def keysB : List Str → List (Option Expr) → Bool
  | [], [] => true
  | k :: ks, e :: es => (match e with
    | some (.Constant c _ _) => constB (.str k) c
    | _ => false) && keysB ks es
  | _, _ => false
mutual
def chkE (G : Ga) : E → Expr → Bool
  | .k d, e => (match e with
    | .Constant c _ _ => constB d c
    | _ => false)
  | .gl g, e => (match e with
    | .Name x _ => glB G.sc x && (nmOk x && (match G.T.con[g]? with | some q => decide (q.1 = x) | none => false))
    | _ => false)
  | .v i, e => (match e with
    | .Name x _ => decide (G.N[i]? = some x) && (visB G.sc x && nmOk x)
    | _ => false)
  | .bin op a b, e => (match e with
    | .BinOp l op' r _ => decide (op = op') && (chkE G a l && chkE G b r)
    | _ => false)
  | .neg a, e => (match e with
    | .UnaryOp .USub x _ => chkE G a x
    | _ => false)
  | .not a, e => (match e with
    | .UnaryOp .Not x _ => chkE G a x
    | _ => false)
  | .cmp op a b, e => (match e with
    | .Compare l [op'] [r] _ => decide (op = op') && (mrkB r && (chkR G a l && chkR G b r))
    | _ => false)
  | .chn o1 o2 a b c, e => (match e with
    | .Compare l [p1, p2] [m, r] _ => decide (o1 = p1) && (decide (o2 = p2) && (plnB r && (chkE G a l && (chkE G b m && chkE G c r))))
    | _ => false)
  | .and a b, e => (match e with
    | .BoolOp .And [x, y] _ => chkE G a x && chkE G b y
    | .BoolOp .And (x :: y :: z :: r) pos => chkE G a x && chkE G b (.BoolOp .And (y :: z :: r) pos)
    | _ => false)
  | .or a b, e => (match e with
    | .BoolOp .Or [x, y] _ => chkE G a x && chkE G b y
    | .BoolOp .Or (x :: y :: z :: r) pos => chkE G a x && chkE G b (.BoolOp .Or (y :: z :: r) pos)
    | _ => false)
  | .tup es, e => (match e with
    | .Tuple xs _ _ => chkEs G es xs && decide (xs.length ≤ 100)
    | _ => false)
  | .frz o, e => chkO G o e
  | .box o, e => chkO G o e
  | .sub a i, e => (match e with
    | .Subscript x y _ => plnB y && (chkR G a x && chkE G i y)
    | _ => false)
  | .attr a f, e => (match e with
    | .Attribute x nm _ => decide (G.T.names[f]? = some nm) && (plnB x && chkE G a x)
    | _ => false)
  | .call f es, e => (match e with
    | .Call (.Name x _) xs [] _ => chkCall G f x && (xs.all starB && chkEs G es xs)
    | _ => false)
  | .make c es, e => (match e with
    | .Call (.Name x _) xs [] _ => (match G.T.cls[c]? with | some k => decide (k.name = x) && (!k.mu && (G.T.fns[k.init]?).isSome) | none => false) && (glB G.sc x && (nmOk x && (xs.all starB && chkEs G es xs)))
    | _ => false)
  | .join s a, e => (match e with
    | .Call (.Attribute so nm ap) [y] [] cp => decide (nm = "join") && (plnB so && (starB y && ((ap.endLine == cp.line) && (chkE G s so && chkR G a y))))
    | _ => false)
  | .str1 a, e => (match e with
    | .Call (.Name x _) [y] [] _ => decide (x = "str") && (glB G.sc x && (starB y && chkE G a y))
    | _ => false)
  | .tslc a lo hi, e => (match e with
    | .Subscript x (.Slice l h none _) _ => chkE G a x && (chkX G lo l && chkX G hi h)
    | _ => false)
  | .sslc a lo hi, e => (match e with
    | .Subscript x (.Slice l h none _) _ => chkE G a x && (chkX G lo l && chkX G hi h)
    | _ => false)
  | .fnv f, e => (match e with
    | .Name x _ => chkCall G f x
    | _ => false)
  | .callv i es, e => (match e with
    | .Call (.Name x _) xs [] _ => decide (G.N[i]? = some x) && (visB G.sc x && (nmOk x && (!xs.isEmpty && (xs.all starB && chkEs G es xs))))
    | _ => false)
  | .tupl a, e => (match e with
    | .Call (.Name x _) [y] [] _ => decide (x = "tuple") && (glB G.sc x && (starB y && chkR G a y))
    | _ => false)
  | .meth m o es, e => (match e with
    | .Call (.Attribute so nm ap) xs [] cp => decide (G.T.names[m]? = some nm) && (plnB so && (xs.all starB && (decide (xs.length < 30) && ((ap.endLine == cp.line) && (chkE G o so && chkEs G es xs)))))
    | _ => false)
  | .methC m o es, e => (match e with
    | .Call (.Attribute so nm ap) xs [] cp => decide (G.T.names[m]? = some nm) && (plnB so && (xs.all starB && (decide (xs.length < 30) && ((ap.endLine == cp.line) && (chkE G o so && chkEs G es xs)))))
    | _ => false)
  | .lenset a, e => (match e with
    | .Call (.Name x _) [.Call (.Name z _) [y] [] _] [] _ => decide (x = "len") && (decide (z = "set") && (glB G.sc x && (glB G.sc z && (starB y && chkR G a y))))
    | _ => false)
  | .maxd a d, e => (match e with
    | .Call (.Name x _) [y] [⟨some nm, z, _⟩] _ => decide (x = "max") && (decide (nm = "default") && (glB G.sc x && (starB y && (chkR G a y && chkE G d z))))
    | _ => false)
  | .mind a d, e => (match e with
    | .Call (.Name x _) [y] [⟨some nm, z, _⟩] _ => decide (x = "min") && (decide (nm = "default") && (glB G.sc x && (starB y && (chkR G a y && chkE G d z))))
    | _ => false)
  | .idx a c, e => (match e with
    | .Call (.Attribute so nm ap) [y] [] cp => decide (nm = "index") && (plnB so && (starB y && ((ap.endLine == cp.line) && (chkR G a so && chkE G c y))))
    | _ => false)
  | .dget a k, e => (match e with
    | .Subscript x y _ => !G.T.tupC && (plnB y && (chkR G a x && chkE G k y))
    | _ => false)
  | .din neg k a, e => (match e with
    | .Compare l [op] [r] _ => !G.T.tupC && (decide (op = if neg = true then CmpOp.NotIn else CmpOp.In) && (plnB r && (chkE G k l && chkR G a r)))
    | _ => false)
  | .dgd a k d, e => (match e with
    | .Call (.Attribute so nm ap) [y, z] [] cp => !G.T.tupC && (decide (nm = "get") && (plnB so && (starB y && (starB z && ((ap.endLine == cp.line) && (chkR G a so && (chkE G k y && chkE G d z)))))))
    | _ => false)
  | .dne a, e => (match e with
    | .Compare l [.NotEq] [.Dict [] [] _] _ => chkR G a l
    | _ => false)
  | .tget g k, e => (match e with
    | .Subscript (.Name x _) y _ => glB G.sc x && (nmOk x && (plnB y && (chkE G k y && (match G.T.tbl[g]? with | some q => decide (q.1 = x) | none => false))))
    | _ => false)
  | .tin neg k g, e => (match e with
    | .Compare l [op] [.Name x _] _ => decide (op = if neg = true then CmpOp.NotIn else CmpOp.In) && (glB G.sc x && (nmOk x && (chkE G k l && (match G.T.tbl[g]? with | some q => decide (q.1 = x) | none => false))))
    | _ => false)
  | .mxv i, e => (match e with
    | .Call (.Name x _) [.Call (.Attribute (.Name y _) nm ap) [] [] cp] [] _ => decide (x = "max") && (decide (nm = "values") && (glB G.sc x && ((ap.endLine == cp.line) && (decide (G.N[i]? = some y) && (visB G.sc y && nmOk y)))))
    | _ => false)
  | .cnt a c, e => (match e with
    | .Call (.Attribute so nm ap) [y] [] cp => decide (nm = "count") && (plnB so && (starB y && ((ap.endLine == cp.line) && (chkR G a so && chkE G c y))))
    | _ => false)
  | .cntS a c, e => (match e with
    | .Call (.Attribute so nm ap) [y] [] cp => decide (nm = "count") && (plnB so && (starB y && ((ap.endLine == cp.line) && (chkR G a so && chkE G c y))))
    | _ => false)
  | .mkM c f es, e => (match e with
    | .Call (.Name x _) xs [] _ => glB G.sc x && (nmOk x && (xs.all starB && (chkEs G es xs && (G.T.mkm.contains (c, f) && (match G.T.cls[c]?, G.T.fns[f]? with | some k, some F => decide (k.name = x) && !F.ini | _, _ => false)))))
    | _ => false)
  | .bi b a, e => (match e with
    | .Call (.Name x _) [y] [] _ => b.one && (decide (b.nm = x) && (glB G.sc x && (starB y && chkR G a y)))
    | _ => false)
  | .b2 b a c, e => (match e with
    | .Call (.Name x _) [y, z] [] _ => b.two && (decide (b.nm = x) && (glB G.sc x && (starB y && (starB z && (chkE G a y && chkE G c z)))))
    | _ => false)
  | .isi a t, e => (match e with
    | .Call (.Name x _) [y, .Name z p] [] _ => decide (x = "isinstance") && (glB G.sc x && (starB y && (chkE G a y && (tyB t (.Name z p) && (glB G.sc z && (nmOk z &&
      (match t with | .ty _ => true | .cls c => (match G.T.cls[c]? with | some k => decide (k.name = z) | none => false))))))))
    | _ => false)
def chkR (G : Ga) : R → Expr → Bool
  | .e a, e => chkE G a e
  | .own i, e => (match e with
    | .Name x _ => decide (G.N[i]? = some x) && (visB G.sc x && nmOk x)
    | _ => false)
def chkO (G : Ga) : O → Expr → Bool
  | .lst es, e => (match e with
    | .List xs _ => chkEs G es xs && decide (xs.length ≤ 100)
    | _ => false)
  | .lc el tg it c, e => (match e with
    | .ListComp elt [⟨t, iter, ifs, 0⟩] scope _ => plnB iter && ((tgOk it t && chkI G it iter) && (blkC G.N G.sc scope (ownOf G.N tg.slots) && (decide ((ownOf G.N tg.slots).map (·.2) = tg.slots) &&
      (chkT (blkG G scope) tg t && (chkC (blkG G scope) c ifs && chkE (blkG G scope) el elt)))))
    | _ => false)
  | .cat a b, e => (match e with
    | .BinOp l .Add r _ => chkR G a l && chkR G b r
    | _ => false)
  | .call f es, e => (match e with
    | .Call (.Name x _) xs [] _ => chkCall G f x && (xs.all starB && chkEs G es xs)
    | _ => false)
  | .slc a lo hi, e => (match e with
    | .Subscript x (.Slice l h none _) _ => chkR G a x && (chkX G lo l && chkX G hi h)
    | _ => false)
  | .lst1 a, e => (match e with
    | .Call (.Name x _) [y] [] _ => decide (x = "list") && (glB G.sc x && (starB y && chkR G a y))
    | _ => false)
  | .rev a, e => (match e with
    | .Subscript x (.Slice none none (some (.UnaryOp .USub (.Constant (.int 1) _ _) _)) _) _ => chkR G a x
    | _ => false)
  | .split s t, e => (match e with
    | .Call (.Attribute so nm ap) [y] [] cp => decide (nm = "split") && (plnB so && (starB y && ((ap.endLine == cp.line) && (chkE G s so && chkE G t y))))
    | _ => false)
  | .repR a k, e => (match e with
    | .BinOp l .Mult r _ => chkR G a l && chkE G k r
    | _ => false)
  | .rep i k, e => (match e with
    | .BinOp (.Name x _) .Mult r _ => decide (G.N[i]? = some x) && (visB G.sc x && (nmOk x && chkE G k r))
    | _ => false)
  | .srt a, e => (match e with
    | .Call (.Name x _) [y] [] _ => decide (x = "sorted") && (glB G.sc x && (starB y && chkR G a y))
    | _ => false)
  | .srtg a, e => (match e with
    | .Call (.Name x _) [y] [] _ => decide (x = "sorted") && (glB G.sc x && (starB y && chkR G a y))
    | _ => false)
  | .srtset a, e => (match e with
    | .Call (.Name x _) [.Call (.Name z _) [y] [] _] [] _ => decide (x = "sorted") && (decide (z = "set") && (glB G.sc x && (glB G.sc z && (starB y && chkR G a y))))
    | _ => false)
  | .srtsetI a, e => (match e with
    | .Call (.Name x _) [.Call (.Name z _) [y] [] _] [] _ => decide (x = "sorted") && (decide (z = "set") && (glB G.sc x && (glB G.sc z && (starB y && chkR G a y))))
    | _ => false)
  | .dct0 _, e => (match e with
    | .Dict [] [] _ => true
    | _ => false)
  | .dct1 k v, e => (match e with
    | .Dict [some x] [y] _ => !G.T.tupC && (chkE G k x && chkE G v y)
    | _ => false)
  | .dctS k v, e => (match e with
    | .Dict [some x] [y] _ => !G.T.tupC && (chkE G k x && chkE G v y)
    | _ => false)
  | .dctL a, e => (match e with
    | .Call (.Name x _) [y] [] _ => decide (x = "dict") && (glB G.sc x && (starB y && (!G.T.tupC && chkR G a y)))
    | _ => false)
  | .dcp a, e => (match e with
    | .Call (.Name x _) [y] [] _ => decide (x = "dict") && (glB G.sc x && (starB y && chkR G a y))
    | _ => false)
  | .dctC ks es, e => (match e with
    | .Dict keys xs _ => keysB ks keys && (decide (ks.length ≤ 15) && (!ks.isEmpty && (decide (keys.length = xs.length) && chkEs G es xs)))
    | _ => false)
  | .srtk a, e => (match e with
    | .Call (.Name x _) [y] [] _ => decide (x = "sorted") && (glB G.sc x && (starB y && chkR G a y))
    | _ => false)
def chkX (G : Ga) : Eo → Option Expr → Bool
  | .no, e => (match e with
    | none => true
    | _ => false)
  | .so c, e => (match e with
    | some e => chkE G c e
    | _ => false)
def chkEs (G : Ga) : Es → List Expr → Bool
  | .nil, xs => (match xs with
    | [] => true
    | _ => false)
  | .cons e es, xs => (match xs with
    | x :: r => starB x && (chkE G e x && chkEs G es r)
    | _ => false)
def chkC (G : Ga) : Eo → List Expr → Bool
  | .no, xs => (match xs with
    | [] => true
    | _ => false)
  | .so e, xs => (match xs with
    | [x] => chkE G e x
    | _ => false)
def chkI (G : Ga) : It → Expr → Bool
  | .lst a, e => chkR G a e
  | .tup a, e => chkE G a e
  | .str a, e => chkE G a e
  | .enumT a, e => (match e with
    | .Call (.Name x _) [y] [] _ => decide (x = "enumerate") && (glB G.sc x && (starB y && chkE G a y))
    | _ => false)
  | .enum a, e => (match e with
    | .Call (.Name x _) [y] [] _ => decide (x = "enumerate") && (glB G.sc x && (starB y && chkE G a y))
    | _ => false)
  | .zip a b, e => (match e with
    | .Call (.Name x _) [y, z] [] _ => decide (x = "zip") && (glB G.sc x && (starB y && (starB z && (chkE G a y && chkE G b z))))
    | _ => false)
  | .items a, e => (match e with
    | .Call (.Attribute so nm ap) [] [] cp => decide (nm = "items") && (plnB so && ((ap.endLine == cp.line) && chkE G a so))
    | _ => false)
  | .itemsO o, e => (match e with
    | .Call (.Attribute so nm ap) [] [] cp => decide (nm = "items") && (plnB so && ((ap.endLine == cp.line) && chkO G o so))
    | _ => false)
  | .keys a, e => chkE G a e
  | .rng a, e => (match e with
    | .Call (.Name x _) [y] [] _ => decide (x = "range") && (glB G.sc x && (starB y && chkE G a y))
    | _ => false)
end
end EV

set_option Elab.async false
set_option linter.all false
set_option maxRecDepth 100000
set_option maxHeartbeats 1000000
namespace EV
open PySem PySem.Spec PyProof.Rows L2
/-! promises -/
section
variable (P : Pl)
def RetRep (W0 : Wo) (H0 : Hp) (W : Wo) (H : Hp) (o : Bool) (v : V) (d : D) : Prop := if o = true then ∃ a, v = .ref a ∧ Own P W H a d ∧ H0 a = none else Rep P W H v d
def spF (n : Nat) (cal : Cal) (f : Nat) : Sp := fun vs H Q _ => ∃ (W : Wo) (μ : Sto) (ds : List D) (r : (Bool × D) × Sto), vs.length = n ∧ Wd P W H μ ∧ RepL P W H vs ds ∧ cal f ds μ = some r ∧
  ∀ v W' H', Ext W H W' H' → Wd P W' H' r.2 → RetRep P W H W' H' r.1.1 v r.1.2 → Q v H'
def spM (n : Nat) (mak : Mak) (c : Nat) : Sp := fun vs H Q _ => ∃ (W : Wo) (μ : Sto) (ds : List D) (d : D) (μ' : Sto) (x dx : Addr) (args : List V) (H0 : Hp), vs = .ref x :: args ∧ vs.length = n ∧
  H = upd (upd H0 dx (.own x)) x (.ins (P.ca c) dx []) ∧ H0 x = none ∧ H0 dx = none ∧ dx ≠ x ∧ Wd P W H0 μ ∧ RepL P W H0 args ds ∧ mak c ds μ = some (d, μ') ∧
  ∀ W' H', Ext W H0 W' H' → Wd P W' H' μ' → Rep P W' H' (.ref x) d → Q .non H'
/-- what is wished of an exception -/
def PostX (W : Wo) (H : Hp) (x : D) (μ' : Sto) (E : XK) : Prop := ∀ W' H' cls d, Ext W H W' H' → Wd P W' H' μ' → XR P W' H' x cls d → E cls d H'
def spX (n : Nat) (mak : Mak) (f : Nat) : Sp := fun vs H _ E => ∃ (W : Wo) (μ : Sto) (ds : List D) (x : D) (μ' : Sto), vs.length = n ∧ Wd P W H μ ∧ RepL P W H vs ds ∧ mak (XOFF + f) ds μ = some (x, μ') ∧ PostX P W H x μ' E
def spMX (n : Nat) (mak : Mak) (c : Nat) : Sp := fun vs H _ E => ∃ (W : Wo) (μ : Sto) (ds : List D) (e : D) (μ' : Sto) (x dx : Addr) (args : List V) (H0 : Hp), vs = .ref x :: args ∧ vs.length = n ∧
  H = upd (upd H0 dx (.own x)) x (.ins (P.ca c) dx []) ∧ H0 x = none ∧ H0 dx = none ∧ dx ≠ x ∧ Wd P W H0 μ ∧ RepL P W H0 args ds ∧ mak (2 * XOFF + c) ds μ = some (e, μ') ∧ PostX P W H0 e μ' E
end
structure GX (P : Pl) (n : Nat) (cal : Cal) (mak : Mak) (G : Ga) (X : Cx) : Prop where
  K : X.K = P.K
  T : G.T = P.T
  N : X.N = G.N
  nd : G.N.Nodup
  sc : X.env.scope = G.sc
  kind : G.sc.kind = .function
  calm : X.calm = true
  pas : PassesOwn (model X.prog X.w) X.A X.env X.xe
  room : Room (n + 1) X.A
  gd : Calm X.A
  Y : Facts P X.mg
  tb : TabF P X.w X.mg
  fr : ∀ x ∈ bltNames, X.mg x = none
  st : ∀ x, G.w x = true → X.fn x = true ∨ X.env.scope.names.lookup x = some .local
  hcal : ∀ (f : Nat) (F : Fn), P.T.fns[f]? = some F → F.ini = false → ∃ fd, FnG X.prog X.w X.K X.mg X.base CX0 n (P.fa f) fd F.ps (spF P F.ps.length cal f) ∧ Binds X.K fd F.ps []
  hmak : ∀ (c : Nat) (k : Cl) (F : Fn), P.T.cls[c]? = some k → k.mu = false → P.T.fns[k.init]? = some F → ∃ fd, FnG X.prog X.w X.K X.mg X.base CX0 n (P.fa k.init) fd F.ps (spM P F.ps.length mak c) ∧ Binds X.K fd F.ps []
  hcalx : ∀ (f : Nat) (F : Fn), P.T.fns[f]? = some F → F.ini = false → ∃ fd, FnG X.prog X.w X.K X.mg X.base (L2N.CX X.prog X.w) n (P.fa f) fd F.ps (spX P F.ps.length mak f) ∧ Binds X.K fd F.ps []
  hmakx : ∀ (c : Nat) (k : Cl) (F : Fn), P.T.cls[c]? = some k → k.mu = false → P.T.fns[k.init]? = some F → ∃ fd, FnG X.prog X.w X.K X.mg X.base (L2N.CX X.prog X.w) n (P.fa k.init) fd F.ps (spMX P F.ps.length mak c) ∧ Binds X.K fd F.ps []
  xmak : ∀ (f : Nat) (F : Fn) (ds : List D) (μ : Sto) (r : D × Sto), P.T.fns[f]? = some F → mak (XOFF + f) ds μ = some r → ds.length = F.ps.length ∧ F.ini = false
  xmakC : ∀ (c : Nat) (k : Cl) (F : Fn) (ds : List D) (μ : Sto) (r : D × Sto), P.T.cls[c]? = some k → P.T.fns[k.init]? = some F → mak (2 * XOFF + c) ds μ = some r → ds.length + 1 = F.ps.length
  xf : XF P X.mg
  calF : ∀ (f : Nat) (ds : List D) (μ : Sto) (r : (Bool × D) × Sto), cal f ds μ = some r → ∃ F, P.T.fn f = some F ∧ F.ini = false
  calL : ∀ (f : Nat) (F : Fn) (ds : List D) (μ : Sto) (r : (Bool × D) × Sto), P.T.fns[f]? = some F → cal f ds μ = some r → ds.length = F.ps.length
  makL : ∀ (c : Nat) (k : Cl) (F : Fn) (ds : List D) (μ : Sto) (r : D × Sto), P.T.cls[c]? = some k → P.T.fns[k.init]? = some F → mak c ds μ = some r → ds.length + 1 = F.ps.length
theorem peI {X : Cx} {e : Expr} {t t' : TE} (h : PE X e t) (k : ∀ σ H Q, t' σ H Q → t σ H Q) : PE X e t' := ⟨fun pins s σ H Q I q => h.run pins s σ H Q I (k σ H Q q)⟩
theorem ptI {X : Cx} {e : Expr} {t t' : TT} (h : PT X e t) (k : ∀ σ H Q, t' σ H Q → t σ H Q) : PT X e t' := ⟨fun pins s σ H Q I q => h.run pins s σ H Q I (k σ H Q q)⟩
theorem pwI {X : Cx} {e : Expr} {t t' : TT} (h : PW X e t) (k : ∀ σ H Q, t' σ H Q → t σ H Q) : PW X e t' := ⟨fun wh pins s σ H Q I q => h.run wh pins s σ H Q I (k σ H Q q)⟩
theorem paI {X : Cx} {e : List Expr} {t t' : TA} (h : PA X e t) (k : ∀ σ H Q, t' σ H Q → t σ H Q) : PA X e t' := ⟨fun pos pins s σ H Q I q => h.run pos pins s σ H Q I (k σ H Q q)⟩
theorem piI {X : Cx} {g e : Expr} {t t' : TI} (h : PI X g e t) (k : ∀ σ H Q, t' σ H Q → t σ H Q) : PI X g e t' := ⟨fun pins s σ H Q I q => h.run pins s σ H Q I (k σ H Q q)⟩
theorem ptsI {X : Cx} {e : List Expr} {t t' : TT} (h : PTs X e t) (k : ∀ σ H Q, t' σ H Q → t σ H Q) : PTs X e t' := ⟨fun pins s σ H Q I q => h.run pins s σ H Q I (k σ H Q q)⟩
structure Snd (P : Pl) (cal : Cal) (mak : Mak) (X : Cx) (e : Expr) (c : E) : Prop where
  pe : PE X e (tE P cal mak c)
  pt : PT X e (tT P cal mak c)
  pw : ∀ op vs pos, e = .BoolOp op vs pos → PW X e (tT P cal mak c)
section
variable {P : Pl} {n : Nat} {cal : Cal} {mak : Mak} {G : Ga} {X : Cx} {e : Expr} {c : E}
theorem ba {a b : Bool} (h : (a && b) = true) : a = true ∧ b = true := Bool.and_eq_true_iff.mp h
theorem vis_of {sc : Scope} {x : Str} (h : visB sc x = true) : Vis sc x := by
  unfold visB at h
  split at h
  · exact .inl (by assumption)
  · exact .inr (.inl (by assumption))
  · exact .inr (.inr (by assumption))
  · cases h
theorem loc_of {sc : Scope} {x : Str} (h : locB sc x = true) : Loc sc x := by
  unfold locB at h
  split at h
  · exact .inl (by assumption)
  · exact .inr (by assumption)
  · cases h
theorem gl_of {sc : Scope} {x : Str} (h : glB sc x = true) : sc.names.lookup x = some .globalImplicit := by
  unfold glB at h
  split at h
  · assumption
  · cases h
theorem GX.gl (g : GX P n cal mak G X) {x : Str} (h : glB G.sc x = true) : Gl X x := by
  have := gl_of h
  rw [← g.sc] at this
  exact this
theorem GX.vis (g : GX P n cal mak G X) {x : Str} (h : visB G.sc x = true) : Vis X.env.scope x := by rw [g.sc]; exact vis_of h
theorem GX.loc (g : GX P n cal mak G X) {x : Str} (h : locB G.sc x = true) : Loc X.env.scope x := by rw [g.sc]; exact loc_of h
theorem nmOk_of {x : Str} (h : nmOk x = true) : (x == ("__debug__" : Str)) = false ∧ (x == ("__classdict__" : Str)) = false ∧ x ≠ "__name__" := by
  unfold nmOk at h
  obtain ⟨h1, h⟩ := ba h
  obtain ⟨h2, h3⟩ := ba h
  refine ⟨by simpa using h1, by simpa using h2, by simpa using h3⟩
theorem star_cons {e : Expr} {es : List Expr} {env : PySem.Env} (h : starB e = true) : starEach (e :: es) env = (false, eval e env) :: starEach es env := by
  cases e <;> first | rfl | cases h
theorem star_any {pos : Pos} {env : PySem.Env} : ∀ {es : List Expr}, es.all starB = true → (backTo pos (starEach es env)).any (·.1) = false
  | [], _ => rfl
  | e :: es, h => by
    rw [List.all_cons, Bool.and_eq_true] at h
    rw [star_cons h.1]
    exact star_any h.2
theorem plain_ix {e : Expr} (h : plnB e = true) : PlainIx e := by
  intro o i
  cases e <;> first | rfl | cases h
theorem mark_ok {e : Expr} {op : CmpOp} (h : mrkB e = true) : behindInMarks op e = false := by
  cases e <;> first | rfl | cases h
theorem plain_mark {e : Expr} {op : CmpOp} (h : plnB e = true) : behindInMarks op e = false := by
  cases e <;> first | rfl | cases h
theorem plain_attr {e : Expr} {f : Str} {env : PySem.Env} {w : Sem Value} (h : plnB e = true) : attributeBase e f env w = w := by
  cases e <;> first | rfl | skip
  rename_i f' args kws p
  cases f' <;> first | rfl | skip
  cases args <;> first | rfl | skip
  cases kws <;> first | rfl | cases h
theorem plain_fold {e : Expr} {env : PySem.Env} (h : plnB e = true) : ∀ x, foldedSetIterable e env x = pure x := by
  intro x
  cases e <;> first | rfl | cases h
theorem lc_swap {e : Expr} {t : Option Expr} {l : Nat} {env : PySem.Env} (h : notLc e = true) : swapsWith e t l env = pure false := by
  cases e <;> first | rfl | cases h
theorem snd_plain (h : PE X e (tE P cal mak c)) (he : ∀ whole, isTrue e X.env whole = (do let v ← whole; standAt e.pos; holding [v] (truthy v))) (hb : ∀ op vs pos, e ≠ .BoolOp op vs pos) : Snd P cal mak X e c := by
  refine ⟨h, ptI (pt_val h he) fun σ H Q ⟨W, ρ, μ, b, μ', w, en, ee, k⟩ => ?_, fun op vs pos q => absurd q (hb op vs pos)⟩
  exact ⟨W, ρ, μ, .bl b, μ', w, en, ee, fun v W' H' x w' r => by cases r; exact ⟨b, rfl, k W' H' x w'⟩⟩
theorem En.getV {W : Wo} {H : Hp} {σ : L2.St} {ρ : Rho} {i : Nat} {d : D} (en : En P W H σ ρ) (h : ρ[i]? = some (.fz d)) : ∃ v, σ[i]? = some (some v) ∧ Rep P W H v d := en.fz i d h
theorem const_rep {d : D} {k : Const} {j : Nat} {pos : Pos} (h : constB d k = true) : ∃ v, PE X (.Constant k j pos) (tC v) ∧ ∀ W H, Rep P W H v d := by
  cases d <;> cases k <;> first | (cases h; done) | skip
  · exact ⟨.non, pe_non, fun _ _ => .non⟩
  · have e := eq_of_beq (show (_ == _) = true from h)
    subst e
    exact ⟨_, pe_bl, fun _ _ => .bl _⟩
  · have e := eq_of_beq (show (_ == _) = true from h)
    subst e
    exact ⟨_, pe_int, fun _ _ => .int _⟩
  · obtain ⟨h1, h2⟩ := ba h
    have e := of_decide_eq_true h1
    subst e
    exact ⟨_, pe_str, fun _ _ => .str _ h2⟩
end
end EV

set_option Elab.async false
set_option linter.all false
set_option maxRecDepth 100000
set_option maxHeartbeats 1000000
namespace EV
open PySem PySem.Spec PyProof.Rows L2
section
variable {P : Pl} {n : Nat} {cal : Cal} {mak : Mak} {G : Ga} {X : Cx}
/-! each construct, over its parts -/
theorem g_var (g : GX P n cal mak G X) {i : Nat} {x : Str} {pos : Pos} (h1 : G.N[i]? = some x) (h2 : visB G.sc x = true) (h3 : nmOk x = true) : PE X (.Name x pos) (tE P cal mak (.v i)) := by
  obtain ⟨d1, d2, _⟩ := nmOk_of h3
  refine peI (pe_var (i := i) (by rw [g.N]; exact h1) (g.vis h2) d1 d2) fun σ H Q ⟨W, ρ, μ, d, μ', w, en, ee, k⟩ => ?_
  unfold ev at ee
  split at ee
  · rename_i d' he
    cases ee
    obtain ⟨v, hv, r⟩ := en.fz i d he
    exact ⟨v, hv, k v W H .refl w r⟩
  · cases ee
theorem g_own (g : GX P n cal mak G X) {i : Nat} {x : Str} {pos : Pos} (h1 : G.N[i]? = some x) (h2 : visB G.sc x = true) (h3 : nmOk x = true) : PE X (.Name x pos) (tR P cal mak (.own i)) := by
  obtain ⟨d1, d2, _⟩ := nmOk_of h3
  refine peI (pe_var (i := i) (by rw [g.N]; exact h1) (g.vis h2) d1 d2) fun σ H Q ⟨W, ρ, μ, d, μ', w, en, ee, k⟩ => ?_
  unfold evR at ee
  split at ee
  · rename_i d' he
    cases ee
    obtain ⟨a, hv, r⟩ := en.ow i d he
    exact ⟨.ref a, hv, k _ W H .refl w (.inr ⟨a, rfl, r⟩) (fun h => nomatch h)⟩
  · cases ee
theorem g_glob (g : GX P n cal mak G X) {j : Nat} {x : Str} {pos : Pos} {d : D} (h1 : G.T.con[j]? = some (x, d)) (h2 : glB G.sc x = true) (h3 : nmOk x = true) : PE X (.Name x pos) (tE P cal mak (.gl j)) := by
  obtain ⟨d1, d2, _⟩ := nmOk_of h3
  rw [g.T] at h1
  obtain ⟨v, u, hm, r, rep⟩ := g.Y.con j x d h1
  refine peI (pe_glob (g.gl h2) hm r d1) fun σ H Q ⟨W, ρ, μ, d', μ', w, en, ee, k⟩ => ?_
  unfold ev at ee
  rw [h1] at ee
  cases ee
  exact k v W H .refl w (rep W H)
theorem g_e {e : Expr} {c : E} (h : PE X e (tE P cal mak c)) : PE X e (tR P cal mak (.e c)) := by
  refine peI h fun σ H Q ⟨W, ρ, μ, d, μ', w, en, ee, k⟩ => ?_
  unfold evR at ee
  exact ⟨W, ρ, μ, d, μ', w, en, ee, fun v W' H' x w' r => k v W' H' x w' (.inl r) fun _ => r⟩
theorem g_bin (g : GX P n cal mak G X) {op : Operator} {a b : Expr} {ca cb : E} {pos : Pos} (ha : PE X a (tE P cal mak ca)) (hb : PE X b (tE P cal mak cb)) : PE X (.BinOp a op b pos) (tE P cal mak (.bin op ca cb)) := by
  refine peI (pe_op (op_bin g.K op) ha hb) fun σ H Q ⟨W, ρ, μ, d, μ', w, en, ee, k⟩ => ?_
  unfold ev at ee
  obtain ⟨x, e1, ee⟩ := bind_some' ee
  obtain ⟨y, e2, ee⟩ := bind_some' ee
  obtain ⟨z, e3, ee⟩ := bind_some' ee
  cases ee
  exact ⟨W, ρ, μ, x.1, x.2, w, en, e1, fun v1 W1 H1 x1 w1 r1 => ⟨W1, ρ, x.2, y.1, y.2, w1, en.ext x1 w, e2, fun v2 W2 H2 x2 w2 r2 =>
    ⟨W2, y.2, x.1, y.1, d, w2, r1.ext x2 w1, r2, e3, fun v W' H' x' w' r' => k v W' H' ((x1.trans x2 w w1).trans x' w w2) w' r'⟩⟩⟩
theorem g_neg {a : Expr} {ca : E} {pos : Pos} (ha : PE X a (tE P cal mak ca)) : PE X (.UnaryOp .USub a pos) (tE P cal mak (.neg ca)) := by
  refine peI (pe_un un_neg ha) fun σ H Q ⟨W, ρ, μ, d, μ', w, en, ee, k⟩ => ?_
  unfold ev at ee
  obtain ⟨x, e1, ee⟩ := bind_some' ee
  split at ee
  · rename_i i hi
    cases ee
    refine ⟨W, ρ, μ, x.1, x.2, w, en, e1, fun v1 W1 H1 x1 w1 r1 => ?_⟩
    rw [hi] at r1
    cases r1
    exact ⟨i, rfl, k _ W1 H1 x1 w1 (.int _)⟩
  · cases ee
theorem t_bl {c : E} {σ : L2.St} {H : Hp} {Q : Bool → Hp → Prop} {W : Wo} {ρ : Rho} {μ : Sto} {b : Bool} {μ' : Sto} (w : Wd P W H μ) (en : En P W H σ ρ) (ee : ev P.T cal mak c ρ μ = some (.bl b, μ'))
    (k : ∀ W' H', Ext W H W' H' → Wd P W' H' μ' → Q b H') : tT P cal mak c σ H Q := ⟨W, ρ, μ, b, μ', w, en, ee, k⟩
theorem v_bl {c : E} {σ : L2.St} {H : Hp} {Q : Bool → VK} {W : Wo} {ρ : Rho} {μ : Sto} {x : D × Sto} {b : Bool} (w : Wd P W H μ) (en : En P W H σ ρ) (ee : ev P.T cal mak c ρ μ = some x) (hb : x.1 = .bl b)
    (k : ∀ W' H', Ext W H W' H' → Wd P W' H' x.2 → Q b (.bl b) H') : tE P cal mak c σ H fun v H1 => ∃ b, v = .bl b ∧ Q b v H1 := by
  refine ⟨W, ρ, μ, x.1, x.2, w, en, ee, fun v W' H' x' w' r => ?_⟩
  rw [hb] at r
  cases r
  exact ⟨b, rfl, k W' H' x' w'⟩
theorem g_not {a : Expr} {ca : E} {pos : Pos} (ha : Snd P cal mak X a ca) : Snd P cal mak X (.UnaryOp .Not a pos) (.not ca) := by
  refine ⟨peI (pe_not ha.pe) fun σ H Q ⟨W, ρ, μ, d, μ', w, en, ee, k⟩ => ?_, ptI (pt_not ha.pt) fun σ H Q ⟨W, ρ, μ, d, μ', w, en, ee, k⟩ => ?_, fun _ _ _ q => nomatch q⟩
  · unfold ev at ee
    obtain ⟨x, e1, ee⟩ := bind_some' ee
    split at ee
    · rename_i b hb
      cases ee
      refine ⟨W, ρ, μ, x.1, x.2, w, en, e1, fun v W' H' x' w' r => ?_⟩
      rw [hb] at r
      cases r
      exact ⟨b, rfl, k _ W' H' x' w' (.bl _)⟩
    · cases ee
  · unfold ev at ee
    obtain ⟨⟨x, y⟩, e1, ee⟩ := bind_some' ee
    split at ee
    · rename_i b hb
      cases ee
      simp only at hb
      subst hb
      exact ⟨W, ρ, μ, _, _, w, en, e1, fun W' H' x' w' => k W' H' x' w'⟩
    · cases ee
theorem hu_of' {A : Around} {k : Nat} (hr : Room k A) : A.units + 64 < cLine := hr.units
theorem r_cmp {op : CmpOp} {ca cb : R} {σ : L2.St} {H : Hp} {W : Wo} {ρ : Rho} {μ μ' : Sto} {b : Bool} {Q : VK} (w : Wd P W H μ) (en : En P W H σ ρ) (ee : ev P.T cal mak (.cmp op ca cb) ρ μ = some (.bl b, μ'))
    (k : ∀ W' H', Ext W H W' H' → Wd P W' H' μ' → Q (.bl b) H') : tOp (rCmp P op) (tR P cal mak ca) (tR P cal mak cb) σ H Q := by
  unfold ev at ee
  obtain ⟨x, e1, ee⟩ := bind_some' ee
  obtain ⟨y, e2, ee⟩ := bind_some' ee
  obtain ⟨z, e3, ee⟩ := bind_some' ee
  cases ee
  exact ⟨W, ρ, μ, x.1, x.2, w, en, e1, fun v1 W1 H1 x1 w1 r1 _ => ⟨W1, ρ, x.2, y.1, y.2, w1, en.ext x1 w, e2, fun v2 W2 H2 x2 w2 r2 _ =>
    ⟨W2, y.2, x.1, y.1, b, w2, r1.ext x2 w1, r2, e3, k W2 H2 (x1.trans x2 w w1) w2⟩⟩⟩
theorem ev_cmp_bl {op : CmpOp} {ca cb : R} {ρ : Rho} {μ μ' : Sto} {d : D} (ee : ev P.T cal mak (.cmp op ca cb) ρ μ = some (d, μ')) : ∃ b, d = .bl b := by
  unfold ev at ee
  obtain ⟨x, e1, ee⟩ := bind_some' ee
  obtain ⟨y, e2, ee⟩ := bind_some' ee
  obtain ⟨z, e3, ee⟩ := bind_some' ee
  cases ee
  exact ⟨z, rfl⟩
theorem g_cmp (g : GX P n cal mak G X) {op : CmpOp} {a b : Expr} {ca cb : R} {pos : Pos} (hp : mrkB b = true) (ha : PE X a (tR P cal mak ca)) (hb : PE X b (tR P cal mak cb)) : Snd P cal mak X (.Compare a [op] [b] pos) (.cmp op ca cb) := by
  have ho := op_cmp (X := X) g.K (hu_of' g.room) op
  refine ⟨peI (pe_cmpR ho ha hb (mark_ok hp)) fun σ H Q ⟨W, ρ, μ, d, μ', w, en, ee, k⟩ => ?_, ptI (pt_cmpR ho ha hb (mark_ok hp)) fun σ H Q ⟨W, ρ, μ, b, μ', w, en, ee, k⟩ => ?_, fun _ _ _ q => nomatch q⟩
  · obtain ⟨b, rfl⟩ := ev_cmp_bl ee
    exact r_cmp w en ee fun W' H' x' w' => k _ W' H' x' w' (.bl b)
  · exact r_cmp w en ee fun W' H' x' w' => ⟨b, rfl, k W' H' x' w'⟩
theorem ev_chn_bl {o1 o2 : CmpOp} {ca cb cc : E} {ρ : Rho} {μ μ' : Sto} {d : D} (ee : ev P.T cal mak (.chn o1 o2 ca cb cc) ρ μ = some (d, μ')) : ∃ b, d = .bl b := by
  unfold ev at ee
  obtain ⟨x, e1, ee⟩ := bind_some' ee
  obtain ⟨y, e2, ee⟩ := bind_some' ee
  obtain ⟨z, e3, ee⟩ := bind_some' ee
  split at ee
  · obtain ⟨x, e1, ee⟩ := bind_some' ee
    obtain ⟨y, e2, ee⟩ := bind_some' ee
    cases ee
    exact ⟨_, rfl⟩
  · cases ee
    exact ⟨_, rfl⟩
theorem r_chn {o1 o2 : CmpOp} {ca cb cc : E} {σ : L2.St} {H : Hp} {W : Wo} {ρ : Rho} {μ μ' : Sto} {b : Bool} {Q : VK} (w : Wd P W H μ) (en : En P W H σ ρ) (ee : ev P.T cal mak (.chn o1 o2 ca cb cc) ρ μ = some (.bl b, μ'))
    (k : ∀ W' H', Ext W H W' H' → Wd P W' H' μ' → Q (.bl b) H') : tChain (rCmp P o1) (rCmp P o2) (tE P cal mak ca) (tE P cal mak cb) (tE P cal mak cc) σ H Q := by
  unfold ev at ee
  obtain ⟨x, e1, ee⟩ := bind_some' ee
  obtain ⟨y, e2, ee⟩ := bind_some' ee
  obtain ⟨z, e3, ee⟩ := bind_some' ee
  refine ⟨W, ρ, μ, x.1, x.2, w, en, e1, fun v1 W1 H1 x1 w1 r1 => ⟨W1, ρ, x.2, y.1, y.2, w1, en.ext x1 w, e2, fun v2 W2 H2 x2 w2 r2 =>
    ⟨W2, y.2, x.1, y.1, z, w2, .inl (r1.ext x2 w1), .inl r2, e3, z, rfl, ?_⟩⟩⟩
  have x12 := x1.trans x2 w w1
  split at ee
  · rename_i hz
    rw [if_pos hz]
    obtain ⟨u, e4, ee⟩ := bind_some' ee
    obtain ⟨z2, e5, ee⟩ := bind_some' ee
    cases ee
    exact ⟨W2, ρ, y.2, u.1, u.2, w2, en.ext x12 w, e4, fun v3 W3 H3 x3 w3 r3 => ⟨W3, u.2, y.1, u.1, b, w3, .inl (r2.ext x3 w2), .inl r3, e5, k W3 H3 (x12.trans x3 w w2) w3⟩⟩
  · rename_i hz
    rw [if_neg hz]
    cases ee
    exact k W2 H2 x12 w2
theorem g_chn (g : GX P n cal mak G X) {o1 o2 : CmpOp} {a b c : Expr} {ca cb cc : E} {pos : Pos} (hp : plnB c = true) (ha : PE X a (tE P cal mak ca)) (hb : PE X b (tE P cal mak cb)) (hc : PE X c (tE P cal mak cc)) : Snd P cal mak X (.Compare a [o1, o2] [b, c] pos) (.chn o1 o2 ca cb cc) := by
  have h1 := op_cmp (X := X) g.K (hu_of' g.room) o1
  have h2 := op_cmp (X := X) g.K (hu_of' g.room) o2
  have hm : lastMarks [o1, o2] [b, c] = false := by
    show lastMarks [o2] [c] = false
    exact plain_mark hp
  refine ⟨peI (pe_chain h1 h2 ha hb hc hm) fun σ H Q ⟨W, ρ, μ, d, μ', w, en, ee, k⟩ => ?_, ptI (pt_chain h1 h2 ha hb hc hm) fun σ H Q ⟨W, ρ, μ, b, μ', w, en, ee, k⟩ => ?_, fun _ _ _ q => nomatch q⟩
  · obtain ⟨b, rfl⟩ := ev_chn_bl ee
    exact r_chn w en ee fun W' H' x' w' => k _ W' H' x' w' (.bl b)
  · exact r_chn w en ee fun W' H' x' w' => ⟨b, rfl, k W' H' x' w'⟩
theorem g_and {a b : Expr} {r : List Expr} {ca cb : E} {pos : Pos} (ha : Snd P cal mak X a ca) (pe : PE X (.BoolOp .And (b :: r) pos) (tE P cal mak cb)) (pw : PW X (.BoolOp .And (b :: r) pos) (tT P cal mak cb)) : Snd P cal mak X (.BoolOp .And (a :: b :: r) pos) (.and ca cb) := by
  have hw : PW X (.BoolOp .And (a :: b :: r) pos) (tT P cal mak (.and ca cb)) := by
    refine pwI (pw_and ha.pt pw) fun σ H Q ⟨W, ρ, μ, d, μ', w, en, ee, k⟩ => ?_
    unfold ev at ee
    obtain ⟨⟨x, y⟩, e1, ee⟩ := bind_some' ee
    split at ee
    · rename_i hx
      simp only at hx ee
      subst hx
      refine ⟨W, ρ, μ, true, y, w, en, e1, fun W1 H1 x1 w1 => ?_⟩
      refine iteT ?_
      exact ⟨W1, ρ, y, d, μ', w1, en.ext x1 w, ee, fun W' H' x' w' => k W' H' (x1.trans x' w w1) w'⟩
    · rename_i hx
      simp only at hx ee
      subst hx
      cases ee
      refine ⟨W, ρ, μ, false, _, w, en, e1, fun W1 H1 x1 w1 => ?_⟩
      refine iteF ?_
      exact k W1 H1 x1 w1
    · cases ee
  refine ⟨peI (pe_and ha.pe pe) fun σ H Q ⟨W, ρ, μ, d, μ', w, en, ee, k⟩ => ?_, hw.pt, fun op vs pos q => by cases q; exact hw⟩
  unfold ev at ee
  obtain ⟨x, e1, ee⟩ := bind_some' ee
  refine ⟨W, ρ, μ, x.1, x.2, w, en, e1, fun v1 W1 H1 x1 w1 r1 => ?_⟩
  split at ee
  · rename_i hx
    rw [hx] at r1
    cases r1
    refine ⟨true, rfl, ?_⟩
    refine iteT ?_
    exact ⟨W1, ρ, x.2, d, μ', w1, en.ext x1 w, ee, fun v W' H' x' w' => k v W' H' (x1.trans x' w w1) w'⟩
  · rename_i hx
    rw [hx] at r1
    cases r1
    cases ee
    refine ⟨false, rfl, ?_⟩
    refine iteF ?_
    exact k _ W1 H1 x1 w1 (.bl false)
  · cases ee
theorem g_or {a b : Expr} {r : List Expr} {ca cb : E} {pos : Pos} (ha : Snd P cal mak X a ca) (pe : PE X (.BoolOp .Or (b :: r) pos) (tE P cal mak cb)) (pw : PW X (.BoolOp .Or (b :: r) pos) (tT P cal mak cb)) : Snd P cal mak X (.BoolOp .Or (a :: b :: r) pos) (.or ca cb) := by
  have hw : PW X (.BoolOp .Or (a :: b :: r) pos) (tT P cal mak (.or ca cb)) := by
    refine pwI (pw_or ha.pt pw) fun σ H Q ⟨W, ρ, μ, d, μ', w, en, ee, k⟩ => ?_
    unfold ev at ee
    obtain ⟨⟨x, y⟩, e1, ee⟩ := bind_some' ee
    split at ee
    · rename_i hx
      simp only at hx ee
      subst hx
      refine ⟨W, ρ, μ, false, y, w, en, e1, fun W1 H1 x1 w1 => ?_⟩
      refine iteF ?_
      exact ⟨W1, ρ, y, d, μ', w1, en.ext x1 w, ee, fun W' H' x' w' => k W' H' (x1.trans x' w w1) w'⟩
    · rename_i hx
      simp only at hx ee
      subst hx
      cases ee
      refine ⟨W, ρ, μ, true, _, w, en, e1, fun W1 H1 x1 w1 => ?_⟩
      refine iteT ?_
      exact k W1 H1 x1 w1
    · cases ee
  refine ⟨peI (pe_or ha.pe pe) fun σ H Q ⟨W, ρ, μ, d, μ', w, en, ee, k⟩ => ?_, hw.pt, fun op vs pos q => by cases q; exact hw⟩
  unfold ev at ee
  obtain ⟨x, e1, ee⟩ := bind_some' ee
  refine ⟨W, ρ, μ, x.1, x.2, w, en, e1, fun v1 W1 H1 x1 w1 r1 => ?_⟩
  split at ee
  · rename_i hx
    rw [hx] at r1
    cases r1
    refine ⟨false, rfl, ?_⟩
    refine iteF ?_
    exact ⟨W1, ρ, x.2, d, μ', w1, en.ext x1 w, ee, fun v W' H' x' w' => k v W' H' (x1.trans x' w w1) w'⟩
  · rename_i hx
    rw [hx] at r1
    cases r1
    cases ee
    refine ⟨true, rfl, ?_⟩
    refine iteT ?_
    exact k _ W1 H1 x1 w1 (.bl true)
  · cases ee
theorem g_tup {xs : List Expr} {es : Es} {j : Nat} {pos : Pos} (hl : xs.length ≤ 100) (hes : ∀ ds ρ μ μ', evs P.T cal mak es ρ μ = some (ds, μ') → ds.length = xs.length) (ha : PA X xs (tA' P cal mak es)) : PE X (.Tuple xs j pos) (tE P cal mak (.tup es)) := by
  refine peI (pe_tup ha) fun σ H Q ⟨W, ρ, μ, d, μ', w, en, ee, k⟩ => ?_
  unfold ev at ee
  obtain ⟨x, e1, ee⟩ := bind_some' ee
  cases ee
  refine ⟨W, ρ, μ, x.1, x.2, w, en, e1, fun vs W1 H1 x1 w1 r1 => ?_⟩
  have hv : vs.length ≤ 100 := by rw [r1.len, hes _ _ _ _ e1]; exact hl
  refine ⟨by rw [← lim_eq]; show vs.length ≤ 16777216; omega, fun p hp => ?_⟩
  obtain ⟨x2, w2⟩ := addF (o := .tup vs) w1 hp
  exact k _ _ _ (x1.trans x2 w w1) w2 (.tup (.of upd_same) (.inl ⟨.inr rfl, upd_same⟩) (by show vs.length ≤ 16777216; omega) (r1.ext x2 w1))
theorem g_lst {xs : List Expr} {es : Es} {pos : Pos} (hl : xs.length ≤ 100) (hes : ∀ ds ρ μ μ', evs P.T cal mak es ρ μ = some (ds, μ') → ds.length = xs.length) (ha : PA X xs (tA' P cal mak es)) : PE X (.List xs pos) (tO P cal mak (.lst es)) := by
  refine peI (pe_lst ha) fun σ H Q ⟨W, ρ, μ, d, μ', w, en, ee, k⟩ => ?_
  unfold evO at ee
  obtain ⟨x, e1, ee⟩ := bind_some' ee
  cases ee
  refine ⟨W, ρ, μ, x.1, x.2, w, en, e1, fun vs W1 H1 x1 w1 r1 => ?_⟩
  have hv : vs.length ≤ 100 := by rw [r1.len, hes _ _ _ _ e1]; exact hl
  refine ⟨by rw [← lim_eq]; show vs.length ≤ 16777216; omega, fun p hp => ?_⟩
  obtain ⟨x2, w2⟩ := addO (o := .lst vs) w1 hp
  obtain ⟨nF, nι⟩ := w1.notp hp
  have hn : H p = none := (x1.free w1 hp)
  exact k p _ _ (x1.trans x2 w w1) w2 ⟨.lst upd_same (by show vs.length ≤ 16777216; omega) (r1.ext x2 w1), nF, nι⟩ hn
theorem g_frz {e : Expr} {o : O} (h : PE X e (tO P cal mak o)) : PE X e (tE P cal mak (.frz o)) := by
  refine peI (pe_lk h) fun σ H Q ⟨W, ρ, μ, d, μ', w, en, ee, k⟩ => ?_
  unfold ev at ee
  exact ⟨W, ρ, μ, d, μ', w, en, ee, fun a W1 H1 x1 w1 o1 hn => freeze_or w1 o1 fun H2 hb w2 r2 => k _ _ _ (x1.addFu hn hb) w2 r2⟩
theorem g_box {e : Expr} {o : O} (h : PE X e (tO P cal mak o)) : PE X e (tE P cal mak (.box o)) := by
  refine peI h fun σ H Q ⟨W, ρ, μ, d, μ', w, en, ee, k⟩ => ?_
  unfold ev at ee
  obtain ⟨x, e1, ee⟩ := bind_some' ee
  cases ee
  refine ⟨W, ρ, μ, x.1, x.2, w, en, e1, fun a W1 H1 x1 w1 o1 hn => ?_⟩
  obtain ⟨w2, r2⟩ := o1.box w1
  exact k _ _ _ (x1.addC hn) w2 r2
theorem g_sub (g : GX P n cal mak G X) {a b : Expr} {ca : R} {cb : E} {pos : Pos} (hp : plnB b = true) (ha : PE X a (tR P cal mak ca)) (hb : PE X b (tE P cal mak cb)) : PE X (.Subscript a b pos) (tE P cal mak (.sub ca cb)) := by
  refine peI (pe_ix (ix_sub g.K) ha hb (plain_ix hp)) fun σ H Q ⟨W, ρ, μ, d, μ', w, en, ee, k⟩ => ?_
  unfold ev at ee
  obtain ⟨x, e1, ee⟩ := bind_some' ee
  obtain ⟨y, e2, ee⟩ := bind_some' ee
  obtain ⟨z, e3, ee⟩ := bind_some' ee
  cases ee
  exact ⟨W, ρ, μ, x.1, x.2, w, en, e1, fun v1 W1 H1 x1 w1 r1 _ => ⟨W1, ρ, x.2, y.1, y.2, w1, en.ext x1 w, e2, fun v2 W2 H2 x2 w2 r2 =>
    ⟨W2, y.2, x.1, y.1, d, w2, r1.ext x2 w1, .inl r2, e3, fun v W' H' x' w' r' => k v W' H' ((x1.trans x2 w w1).trans x' w w2) w' r'⟩⟩⟩
end
end EV

set_option Elab.async false
set_option linter.all false
set_option maxRecDepth 100000
set_option maxHeartbeats 1000000
namespace EV
open PySem PySem.Spec PyProof.Rows L2
theorem zip_lookup {N : List Str} : ∀ {vs : List V} {x : Str} {v : V}, N.Nodup → (∃ j : Nat, N[j]? = some x ∧ vs[j]? = some v) → (N.zip vs).lookup x = some v := by
  induction N with
  | nil => intro vs x v _ ⟨j, h, _⟩; simp at h
  | cons m N ih =>
    intro vs x v nd ⟨j, h1, h2⟩
    cases vs with
    | nil => simp at h2
    | cons u vs =>
      rw [List.zip_cons_cons, List.lookup_cons]
      cases j with
      | zero =>
        simp at h1 h2
        subst h1 h2
        simp
      | succ j =>
        simp at h1 h2
        have hne : x ≠ m := fun z => (List.nodup_cons.mp nd).1 (z ▸ List.mem_of_getElem? h1)
        have : (x == m) = false := beq_eq_false_iff_ne.mpr hne
        rw [this]
        exact ih (List.nodup_cons.mp nd).2 ⟨j, h1, h2⟩
theorem zipD_lookup {N : List Nat} : ∀ {ds : List D} {x : Nat} {d : D}, (N.zip ds).lookup x = some d → ∃ j : Nat, N[j]? = some x ∧ ds[j]? = some d := by
  induction N with
  | nil => intro ds x d h; simp at h
  | cons m N ih =>
    intro ds x d h
    cases ds with
    | nil => simp at h
    | cons u ds =>
      rw [List.zip_cons_cons, List.lookup_cons] at h
      split at h
      · rename_i hx
        have e := eq_of_beq hx
        cases h
        exact ⟨0, by simp [e], by simp⟩
      · obtain ⟨j, h1, h2⟩ := ih h
        exact ⟨j + 1, by simpa using h1, by simpa using h2⟩
theorem Pl.fld_of (P : Pl) {c : Nat} {k : Cl} (h : P.T.cls[c]? = some k) : P.fld c = k.fields.map P.nm := by
  unfold Pl.fld
  rw [h]
section
variable {P : Pl} {n : Nat} {cal : Cal} {mak : Mak} {G : Ga} {X : Cx}
theorem g_attr (g : GX P n cal mak G X) {a : Expr} {ca : E} {f : Nat} {nm : Str} {pos : Pos} (hp : plnB a = true) (hn : G.T.names[f]? = some nm) (ha : PE X a (tE P cal mak ca)) : PE X (.Attribute a nm pos) (tE P cal mak (.attr ca f)) := by
  rw [g.T] at hn
  have hnm : P.nm f = nm := by unfold Pl.nm; rw [List.getD_eq_getElem?_getD, hn]; rfl
  refine peI (pe_fld ha (plain_attr hp)) fun σ H Q ⟨W, ρ, μ, d, μ', w, en, ee, k⟩ => ?_
  unfold ev at ee
  obtain ⟨x, e1, ee⟩ := bind_some' ee
  obtain ⟨z, e2, ee⟩ := bind_some' ee
  cases ee
  refine ⟨W, ρ, μ, x.1, x.2, w, en, e1, fun v1 W1 H1 x1 w1 r1 => ?_⟩
  obtain ⟨ob, t1, t2⟩ := bind_some' e2
  cases ob <;> first | (cases t2; done) | skip
  rename_i c xs
  obtain ⟨kk, t3, t4⟩ := bind_some' t2
  obtain ⟨j, q1, q2⟩ := zipD_lookup t4
  obtain ⟨ad, dx, vs, rfl, hc, hH, rl, hl⟩ := RRep.obj w1 (.inl r1) t1
  have t3 := Tab.cl_is t3 hc
  obtain ⟨v, hv, rv⟩ := rl.get q2
  refine ⟨ad, P.ca c, dx, _, v, rfl, hH, g.K ▸ g.Y.cl c kk t3, ?_, ?_, k v W1 H1 x1 w1 rv⟩
  · have := g.Y.na c kk f t3 (List.mem_of_getElem? q1)
    rw [hnm] at this
    exact g.K ▸ this
  · refine zip_lookup (g.Y.nd c kk t3).1 ⟨j, ?_, hv⟩
    rw [P.fld_of t3, List.getElem?_map, q1, Option.map_some, hnm]
theorem g_args0 : PA X [] (tA' P cal mak .nil) := paI pa_nil fun σ H Q ⟨W, ρ, μ, d, μ', w, en, ee, k⟩ => by
  unfold evs at ee
  cases ee
  exact k [] W H .refl w .nil
theorem g_args {e : Expr} {es : List Expr} {c : E} {cs : Es} (hs : starB e = true) (he : PE X e (tE P cal mak c)) (hes : PA X es (tA' P cal mak cs)) : PA X (e :: es) (tA' P cal mak (.cons c cs)) :=
  paI (pa_cons he hes (star_cons hs)) fun σ H Q ⟨W, ρ, μ, d, μ', w, en, ee, k⟩ => by
    unfold evs at ee
    obtain ⟨x, e1, ee⟩ := bind_some' ee
    obtain ⟨y, e2, ee⟩ := bind_some' ee
    cases ee
    exact ⟨W, ρ, μ, x.1, x.2, w, en, e1, fun v1 W1 H1 x1 w1 r1 => ⟨W1, ρ, x.2, y.1, y.2, w1, en.ext x1 w, e2, fun vs W2 H2 x2 w2 r2 => k _ W2 H2 (x1.trans x2 w w1) w2 (.cons (r1.ext x2 w1) r2)⟩⟩
theorem call_of (g : GX P n cal mak G X) {f : Nat} {x : Str} (h : chkCall G f x = true) : ∃ F fd, P.T.fns[f]? = some F ∧ FnG X.prog X.w X.K X.mg X.base CX0 n (P.fa f) fd F.ps (spF P F.ps.length cal f) ∧ Binds X.K fd F.ps [] ∧ Gl X x ∧ X.mg x = some (.ref (P.fa f)) ∧
    PySem.W.keepIn X.K (.ref (P.fa f)) = true ∧ (x == ("__debug__" : Str)) = false := by
  unfold chkCall at h
  obtain ⟨h1, h2⟩ := ba h
  obtain ⟨h2, h3⟩ := ba h2
  split at h1
  · rename_i F hF
    obtain ⟨h4, h5⟩ := ba h1
    rw [g.T] at hF
    obtain ⟨fd, F1, F2⟩ := g.hcal f F hF (by simpa using h5)
    obtain ⟨fd', FD⟩ := g.Y.fn f F hF
    split at h4
    · rename_i y hy
      have e := of_decide_eq_true h4
      subst e
      exact ⟨F, fd, hF, F1, F2, g.gl h2, g.Y.fg f F _ hF hy, g.K ▸ FD.kp, (nmOk_of h3).1⟩
    · cases h4
  · cases h1
theorem room_n (g : GX P n cal mak G X) : Room n X.A := g.room.mono (Nat.le_succ n)
theorem ret_back {W W1 W' : Wo} {H H1 H' : Hp} {o : Bool} {v : V} {d : D} {μ : Sto} (x1 : Ext W H W1 H1) (w1 : Wd P W1 H1 μ) (rr : RetRep P W1 H1 W' H' o v d) : RetRep P W H W' H' o v d := by
  unfold RetRep at rr ⊢
  split at rr
  · rename_i ho
    rw [if_pos ho]
    obtain ⟨a, e, o, hn⟩ := rr
    exact ⟨a, e, o, x1.free w1 hn⟩
  · rename_i ho
    rw [if_neg ho]
    exact rr
def tCal (P : Pl) (cal : Cal) (mak : Mak) (f : Nat) (cs : Es) : TE := fun σ H Q => ∃ (W : Wo) (ρ : Rho) (μ : Sto) (y : List D × Sto) (r : (Bool × D) × Sto), Wd P W H μ ∧ En P W H σ ρ ∧ evs P.T cal mak cs ρ μ = some y ∧ cal f y.1 y.2 = some r ∧
      ∀ v W' H', Ext W H W' H' → Wd P W' H' r.2 → RetRep P W H W' H' r.1.1 v r.1.2 → Q v H'
theorem g_callT (g : GX P n cal mak G X) {f : Nat} {x : Str} {es : List Expr} {cs : Es} {p pos : Pos} (h : chkCall G f x = true) (hs : es.all starB = true) (hnil : es = [] → cs = .nil) (ha : PA X es (tA' P cal mak cs)) :
    PE X (.Call (.Name x p) es [] pos) (tCal P cal mak f cs) := by
  obtain ⟨F, fd, hF, F1, F2, gl, hm, hk, hd⟩ := call_of g h
  cases es with
  | nil =>
    cases hnil rfl
    refine peI (pe_fn0 F1 g.gd (room_n g) gl hm hk F2 .nil pass0 hd) fun σ H Q ⟨W, ρ, μ, y, r, w, en, e1, e2, k⟩ => ?_
    unfold evs at e1
    cases e1
    exact ⟨W, μ, [], r, g.calL f F _ _ _ hF e2, w, .nil, e2, k⟩
  | cons e es =>
    rw [List.all_cons, Bool.and_eq_true] at hs
    refine peI (pe_fn F1 g.gd (room_n g) gl hm hk F2 .nil pass0 ha hd (star_cons hs.1) (star_any hs.2)) fun σ H Q ⟨W, ρ, μ, y, r, w, en, e1, e2, k⟩ => ?_
    refine ⟨W, ρ, μ, y.1, y.2, w, en, e1, fun vs W1 H1 x1 w1 r1 => ?_⟩
    show spF P F.ps.length cal f (vs ++ []) H1 Q E0
    rw [List.append_nil]
    exact ⟨W1, y.2, y.1, r, by rw [r1.len]; exact g.calL f F _ _ _ hF e2, w1, r1, e2, fun v W' H' x' w' rr => k v W' H' (x1.trans x' w w1) w' (ret_back x1 w1 rr)⟩
theorem g_call {f : Nat} {cs : Es} {e : Expr} (h : PE X e (tCal P cal mak f cs)) : PE X e (tE P cal mak (.call f cs)) := by
  refine peI (pe_lk h) fun σ H Q ⟨W, ρ, μ, d, μ', w, en, ee, k⟩ => ?_
  unfold ev at ee
  obtain ⟨y, e1, ee⟩ := bind_some' ee
  obtain ⟨r, e2, ee⟩ := bind_some' ee
  cases ee
  refine ⟨W, ρ, μ, y, r, w, en, e1, e2, fun v W' H' x' w' rr => ?_⟩
  unfold RetRep at rr
  split at rr
  · obtain ⟨a, rfl, o, hn⟩ := rr
    exact freeze_or w' o fun H2 hb w2 r2 => k _ _ _ (x'.addFu hn hb) w2 r2
  · exact .inl (k v W' H' x' w' rr)
theorem g_callO {f : Nat} {cs : Es} {e : Expr} (h : PE X e (tCal P cal mak f cs)) : PE X e (tO P cal mak (.call f cs)) := by
  refine peI h fun σ H Q ⟨W, ρ, μ, d, μ', w, en, ee, k⟩ => ?_
  unfold evO at ee
  obtain ⟨y, e1, ee⟩ := bind_some' ee
  obtain ⟨r, e2, ee⟩ := bind_some' ee
  split at ee
  · rename_i ho
    cases ee
    refine ⟨W, ρ, μ, y, r, w, en, e1, e2, fun v W' H' x' w' rr => ?_⟩
    unfold RetRep at rr
    rw [if_pos ho] at rr
    obtain ⟨a, rfl, o, hn⟩ := rr
    exact k a W' H' x' w' o hn
  · cases ee
theorem g_make (g : GX P n cal mak G X) {c : Nat} {kk : Cl} {F : Fn} {x : Str} {es : List Expr} {cs : Es} {p pos : Pos} (h1 : P.T.cls[c]? = some kk) (h2 : kk.mu = false) (h3 : P.T.fns[kk.init]? = some F) (h4 : kk.name = x) (gl : Gl X x) (hd : (x == ("__debug__" : Str)) = false)
    (hs : es.all starB = true) (hnil : es = [] → cs = .nil) (ha : PA X es (tA' P cal mak cs)) : PE X (.Call (.Name x p) es [] pos) (tE P cal mak (.make c cs)) := by
  obtain ⟨fd, F1, F2⟩ := g.hmak c kk F h1 h2 h3
  have hm := g.Y.cg c kk h1
  rw [h4] at hm
  have M : Mk X.K (P.ca c) (P.fa kk.init) := g.K ▸ g.Y.mkr c kk h1 h2
  have fin : ∀ {H : Hp} {Q : VK} {W : Wo} {μ : Sto} {ds : List D} {d : D} {μ' : Sto} {vs : List V}, Wd P W H μ → RepL P W H vs ds → mak c ds μ = some (d, μ') → Post P W H d μ' Q →
      ∀ y dx, H y = none → H dx = none → dx ≠ y → spM P F.ps.length mak c (.ref y :: (vs ++ [])) (upd (upd H dx (.own y)) y (.ins (P.ca c) dx [])) (fun v H2 => v = .non ∧ Q (.ref y) H2) E0 := fun {H Q W μ ds d μ' vs} w r e k y dx hy hdx ne => by
    rw [List.append_nil]
    refine ⟨W, μ, ds, d, μ', y, dx, vs, H, rfl, ?_, rfl, hy, hdx, ne, w, r, e, fun W' H' x' w' r' => ⟨rfl, k _ W' H' x' w' r'⟩⟩
    rw [List.length_cons, r.len]
    exact g.makL c kk F ds μ _ h1 h3 e
  cases es with
  | nil =>
    cases hnil rfl
    refine peI (pe_mkg0 M F1 g.gd g.room gl hm F2 .nil pass0 hd) fun σ H Q ⟨W, ρ, μ, d, μ', w, en, ee, k⟩ => ?_
    unfold ev evs at ee
    exact fin w .nil (show mak c [] μ = some (d, μ') from ee) k
  | cons e es =>
    rw [List.all_cons, Bool.and_eq_true] at hs
    refine peI (pe_mkg M F1 g.gd g.room gl hm F2 .nil pass0 ha hd (star_cons hs.1) (star_any hs.2)) fun σ H Q ⟨W, ρ, μ, d, μ', w, en, ee, k⟩ => ?_
    unfold ev at ee
    obtain ⟨y, e1, ee⟩ := bind_some' ee
    exact ⟨W, ρ, μ, y.1, y.2, w, en, e1, fun vs W1 H1 x1 w1 r1 => fin w1 r1 ee fun v W' H' x' w' r' => k v W' H' (x1.trans x' w w1) w' r'⟩
theorem g_mkM (g : GX P n cal mak G X) {c f : Nat} {kk : Cl} {F : Fn} {x : Str} {es : List Expr} {cs : Es} {p pos : Pos} (hq : (c, f) ∈ P.T.mkm) (h1 : P.T.cls[c]? = some kk) (h3 : P.T.fns[f]? = some F) (h2 : F.ini = false) (h4 : kk.name = x) (gl : Gl X x) (hd : (x == ("__debug__" : Str)) = false)
    (hs : es.all starB = true) (hnil : es = [] → cs = .nil) (ha : PA X es (tA' P cal mak cs)) : PE X (.Call (.Name x p) es [] pos) (tE P cal mak (.mkM c f cs)) := by
  obtain ⟨fd, F1, F2⟩ := g.hcal f F h3 h2
  have hm := g.Y.cg c kk h1
  rw [h4] at hm
  have M : Mk X.K (P.ca c) (P.fa f) := g.K ▸ g.Y.mkm c f kk hq h1
  have fin : ∀ {H : Hp} {Q : VK} {W : Wo} {μ : Sto} {ds : List D} {r : (Bool × D) × Sto} {vs : List V}, Wd P W H μ → RepL P W H vs ds → cal f (.cell μ.length :: ds) (μ ++ [.obj c []]) = some r → r.1 = (false, .non) → Post P W H (.cell μ.length) r.2 Q →
      ∀ y dx, H y = none → H dx = none → dx ≠ y → spF P F.ps.length cal f (.ref y :: (vs ++ [])) (upd (upd H dx (.own y)) y (.ins (P.ca c) dx [])) (fun v H2 => v = .non ∧ Q (.ref y) H2) E0 := fun {H Q W μ ds r vs} w rl e er k y dx hy hdx ne => by
    rw [List.append_nil]
    obtain ⟨x1, w1⟩ := addO (o := .own y) w hdx
    have hy1 : (upd H dx (.own y)) y = none := by rw [upd_ne (Ne.symm ne)]; exact hy
    obtain ⟨x2, w2⟩ := addO (o := .ins (P.ca c) dx []) w1 hy1
    have own : Own P W (upd (upd H dx (.own y)) y (.ins (P.ca c) dx [])) y (.obj c []) := ⟨.obj (vs := []) (by rw [h1]; rfl) (by rw [upd_same, List.zip_nil_right]) (Nat.zero_le _) .nil, (w.notp hy).1, (w.notp hy).2⟩
    obtain ⟨w3, r3⟩ := own.box w2
    have x3 : Ext W H (W.addC y) (upd (upd H dx (.own y)) y (.ins (P.ca c) dx [])) := (x1.trans x2 w w1).addC hy
    refine ⟨W.addC y, μ ++ [.obj c []], .cell μ.length :: ds, r, ?_, w3, .cons r3 (rl.ext x3 w), e, fun v W' H' x' w' rr => ?_⟩
    · rw [List.length_cons, rl.len]
      have := g.calL f F _ _ _ h3 e
      rw [List.length_cons] at this
      exact this
    · rw [er] at rr
      unfold RetRep at rr
      rw [if_neg (by decide)] at rr
      cases rr
      exact ⟨rfl, k _ W' H' (x3.trans x' w w3) w' (r3.ext x' w3)⟩
  cases es with
  | nil =>
    cases hnil rfl
    refine peI (pe_mkg0 M F1 g.gd g.room gl hm F2 .nil pass0 hd) fun σ H Q ⟨W, ρ, μ, d, μ', w, en, ee, k⟩ => ?_
    unfold ev evs at ee
    obtain ⟨r, e2, ee⟩ := bind_some' (show (cal f [.cell μ.length] (μ ++ [.obj c []])).bind _ = some (d, μ') from ee)
    split at ee
    · rename_i er
      cases ee
      exact fin w .nil e2 er k
    · cases ee
  | cons e es =>
    rw [List.all_cons, Bool.and_eq_true] at hs
    refine peI (pe_mkg M F1 g.gd g.room gl hm F2 .nil pass0 ha hd (star_cons hs.1) (star_any hs.2)) fun σ H Q ⟨W, ρ, μ, d, μ', w, en, ee, k⟩ => ?_
    unfold ev at ee
    obtain ⟨y, e1, ee⟩ := bind_some' ee
    obtain ⟨r, e2, ee⟩ := bind_some' ee
    split at ee
    · rename_i er
      cases ee
      exact ⟨W, ρ, μ, y.1, y.2, w, en, e1, fun vs W1 H1 x1 w1 r1 => fin w1 r1 e2 er fun v W' H' x' w' r' => k v W' H' (x1.trans x' w w1) w' r'⟩
    · cases ee
theorem blt_bi (b : Bi) (h : b.one = true) : b.nm ∈ bltNames ∧ b.nm ≠ "__name__" ∧ (b.nm == ("__debug__" : Str)) = false ∧ ((∃ id, b.val = some (.builtin id) ∧ bootBuiltins b.nm = some (.builtin id)) ∨ ∃ id, b.val = some (.type id) ∧ bootBuiltins b.nm = some (.type id)) := by
  cases b <;> first | (cases h; done) | skip
  all_goals refine ⟨by decide +kernel, by decide +kernel, by decide +kernel, ?_⟩
  all_goals first | exact .inl ⟨_, rfl, by decide +kernel⟩ | exact .inr ⟨_, rfl, by decide +kernel⟩
theorem g_bi (g : GX P n cal mak G X) {b : Bi} {x : Str} {y : Expr} {cy : R} {p pos : Pos} (h1 : b.one = true) (h2 : b.nm = x) (gl : Gl X x) (hs : starB y = true) (hy : PE X y (tR P cal mak cy)) : PE X (.Call (.Name x p) [y] [] pos) (tE P cal mak (.bi b cy)) := by
  subst h2
  obtain ⟨m1, m2, m3, m4⟩ := blt_bi b h1
  have hm := g.fr _ m1
  have rd : ∀ σ H Q, tE P cal mak (.bi b cy) σ H Q → tCB (rB1 P b) (tCons (tR P cal mak cy) tNil) σ H Q := fun σ H Q ⟨W, ρ, μ, d, μ', w, en, ee, k⟩ => by
    unfold ev at ee
    obtain ⟨z, e1, ee⟩ := bind_some' ee
    obtain ⟨u, e2, ee⟩ := bind_some' ee
    cases ee
    exact ⟨W, ρ, μ, z.1, z.2, w, en, e1, fun v W1 H1 x1 w1 r1 _ => ⟨W1, z.2, v, z.1, d, rfl, w1, r1, e2, fun v' W' H' x' w' r' => k v' W' H' (x1.trans x' w w1) w' r'⟩⟩
  rcases m4 with ⟨id, q1, q2⟩ | ⟨id, q1, q2⟩
  · exact peI (pe_callB (call_bi g.K g.calm q1) gl hm q2 (pa_cons hy pa_nil (star_cons hs)) m2 m3 (star_cons hs) rfl) rd
  · exact peI (pe_callTy (call_bi g.K g.calm q1) gl hm q2 (pa_cons hy pa_nil (star_cons hs)) m2 m3 (star_cons hs) rfl) rd
theorem g_b2 (g : GX P n cal mak G X) {b : Bi} {x : Str} {y z : Expr} {cy cz : E} {p pos : Pos} (h1 : b.two = true) (h2 : b.nm = x) (gl : Gl X x) (hs : starB y = true) (hs2 : starB z = true) (hy : PE X y (tE P cal mak cy)) (hz : PE X z (tE P cal mak cz)) : PE X (.Call (.Name x p) [y, z] [] pos) (tE P cal mak (.b2 b cy cz)) := by
  have rd : ∀ σ H Q, tE P cal mak (.b2 b cy cz) σ H Q → tCB (rB2 P b) (tCons (tE P cal mak cy) (tCons (tE P cal mak cz) tNil)) σ H Q := fun σ H Q ⟨W, ρ, μ, d, μ', w, en, ee, k⟩ => by
    unfold ev at ee
    obtain ⟨u, e1, ee⟩ := bind_some' ee
    obtain ⟨u2, e2, ee⟩ := bind_some' ee
    obtain ⟨u3, e3, ee⟩ := bind_some' ee
    cases ee
    exact ⟨W, ρ, μ, u.1, u.2, w, en, e1, fun v W1 H1 x1 w1 r1 => ⟨W1, ρ, u.2, u2.1, u2.2, w1, en.ext x1 w, e2, fun v2 W2 H2 x2 w2 r2 =>
      ⟨W2, u2.2, v, v2, u.1, u2.1, d, rfl, w2, r1.ext x2 w1, r2, e3, fun v' W' H' x' w' r' => k v' W' H' ((x1.trans x2 w w1).trans x' w w2) w' r'⟩⟩⟩
  have pa := pa_cons hy (pa_cons hz pa_nil (star_cons hs2)) (star_cons hs)
  have pl : (backTo pos (starEach [z] X.env)).any (·.1) = false := by rw [star_cons hs2]; rfl
  subst h2
  cases b <;> first | (cases h1; done) | skip
  · exact peI (pe_callB (id := "max") (call_b2 g.calm (.inl ⟨rfl, rfl⟩)) gl (g.fr _ (by decide +kernel)) (by decide +kernel) pa (by decide +kernel) (by decide +kernel) (star_cons hs) pl) rd
  · exact peI (pe_callB (id := "min") (call_b2 g.calm (.inr ⟨rfl, rfl⟩)) gl (g.fr _ (by decide +kernel)) (by decide +kernel) pa (by decide +kernel) (by decide +kernel) (star_cons hs) pl) rd
theorem ty_blt {n : String} (h : tyNames.contains n = true) (h2 : n ≠ "NoneType") : Str.ofString n ∈ bltNames ∧ bootBuiltins (Str.ofString n) = some (.type n) ∧ Str.ofString n ≠ "__name__" ∧ (Str.ofString n == ("__debug__" : Str)) = false := by
  simp only [tyNames, List.contains_cons, List.contains_nil, Bool.or_false, Bool.or_eq_true, beq_iff_eq] at h
  rcases h with h | h | h | h | h | h | h <;> subst h <;> first | exact absurd rfl h2 | exact ⟨by decide +kernel, by decide +kernel, by decide +kernel, by decide +kernel⟩
theorem g_isi (g : GX P n cal mak G X) {a : E} {t : Ty} {x z : Str} {y : Expr} {p p' pos : Pos} (hx : x = "isinstance") (gl : Gl X x) (hs : starB y = true) (hy : PE X y (tE P cal mak a)) (ht : tyB t (.Name z p') = true) (gz : Gl X z) (hz : nmOk z = true)
    (hc : ∀ c, t = .cls c → ∃ k, P.T.cls[c]? = some k ∧ k.name = z) : PE X (.Call (.Name x p) [y, .Name z p'] [] pos) (tE P cal mak (.isi a t)) := by
  have pn : PE X (.Name z p') (tC (t.v P)) := by
    cases t with
    | ty n =>
      obtain ⟨h1, h2⟩ := ba (show (decide (z = Str.ofString n) && (tyNames.contains n && decide (n ≠ "NoneType"))) = true from ht)
      obtain ⟨h2, h3⟩ := ba h2
      have e := of_decide_eq_true h1
      subst e
      obtain ⟨q1, q2, q3, q4⟩ := ty_blt h2 (of_decide_eq_true h3)
      exact pe_bltn gz (g.fr _ q1) q2 rfl q3 q4
    | cls c =>
      obtain ⟨k, h1, h2⟩ := hc c rfl
      subst h2
      exact pe_glob gz (g.Y.cg c k h1) rfl (nmOk_of hz).1
  have hin : t.k P := by
    cases t with
    | ty n =>
      obtain ⟨h1, h2⟩ := ba (show (decide (z = Str.ofString n) && (tyNames.contains n && decide (n ≠ "NoneType"))) = true from ht)
      exact List.contains_iff_mem.mp (ba h2).1
    | cls c =>
      obtain ⟨k, h1, h2⟩ := hc c rfl
      show (P.T.cls[c]?).isSome = true
      rw [h1]; rfl
  subst hx
  refine peI (pe_callB (id := "isinstance") (call_ty g.Y g.K t) gl (g.fr _ (by decide +kernel)) (by decide +kernel) (pa_cons hy (pa_cons pn pa_nil) (star_cons hs)) (by decide +kernel) (by decide +kernel) (star_cons hs) rfl) fun σ H Q ⟨W, ρ, μ, d, μ', w, en, ee, k⟩ => ?_
  unfold ev at ee
  obtain ⟨u, e1, ee⟩ := bind_some' ee
  obtain ⟨b, e2, ee⟩ := bind_some' ee
  cases ee
  exact ⟨W, ρ, μ, u.1, u.2, w, en, e1, fun v W1 H1 x1 w1 r1 => ⟨W1, u.2, v, u.1, b, rfl, hin, w1, r1, e2, k _ W1 H1 x1 w1 (.bl b)⟩⟩
end
end EV

set_option Elab.async false
set_option linter.all false
set_option maxRecDepth 100000
set_option maxHeartbeats 1000000
namespace EV
open PySem PySem.Spec PyProof.Rows L2
section
variable {P : Pl} {n : Nat} {cal : Cal} {mak : Mak} {G : Ga} {X : Cx} {W W' W'' : Wo} {H H' H'' : Hp} {μ μ' : Sto} {σ : L2.St} {ρ : Rho}
theorem Keep.refl : Keep W H W H := ⟨fun _ h => h, fun _ _ _ h => h, [], by simp⟩
theorem Keep.trans (a : Keep W H W' H') (b : Keep W' H' W'' H'') : Keep W H W'' H'' := by
  refine ⟨fun x h => b.fz x (a.fz x h), fun x o f h => b.rd x o (a.fz x f) (a.rd x o f h), ?_⟩
  obtain ⟨l, e⟩ := a.pre
  obtain ⟨m, e'⟩ := b.pre
  exact ⟨l ++ m, by rw [e', e, List.append_assoc]⟩
/-- a list + a list -/
theorem op_catL (hK : X.K = P.K) : OpR X (binaryOp .Add) (fun x y H Q => ∃ (W : Wo) (μ : Sto) (dx dy : D) (xs zs : List D), Wd P W H μ ∧ RRep P W H x dx ∧ RRep P W H y dy ∧ (dx.top μ).bind asLst = some xs ∧ (dy.top μ).bind asLst = some zs ∧ xs.length + zs.length ≤ LIM ∧ PostO P W H (.lst (xs ++ zs)) μ Q) := by
  intro pins s σ H x y v u Q I rx ry ⟨W, μ, dx, dy, xs, zs, w, r1, r2, h1, h2, hl, k⟩
  obtain ⟨a, vs, rfl, q1, l1, _⟩ := r1.lst w h1
  obtain ⟨b, ws, rfl, q2, l2, _⟩ := r2.lst w h2
  cases rx
  cases ry
  obtain ⟨its, v1, ⟨o, m, e, hc, hd, hdat⟩, z1⟩ := I.list (hK ▸ q1)
  obtain ⟨its2, v2, ⟨o2, m2, e2, hc2, hd2, hdat2⟩, z2⟩ := I.list (hK ▸ q2)
  have n1 := l1.len
  have n2 := l2.len
  have n3 := v1.length
  have n4 := v2.length
  have lim := lim_eq
  obtain ⟨oc, od, dt, sl⟩ := o
  obtain ⟨oc2, od2, dt2, sl2⟩ := o2
  simp only at hc hd hdat hc2 hd2 hdat2
  subst hc hd hdat hc2 hd2 hdat2
  have ea : its.toArray ++ its2.toArray = (its ++ its2).toArray := by simp
  refine concat_meets ⟨_, e, rfl⟩ ⟨_, e2, rfl⟩ noFill_list_add seq_list_add PySem.F.slot_list_add PySem.F.entry_list_add (PySem.F.args_list_add_2 _ _) (list_addW a b its.toArray its2.toArray m m2 none none sl sl2 (by rw [List.size_toArray, List.size_toArray]; omega)) ⟨e, e2, ?_⟩
  rw [ea]
  have hn : H s.heap.objs.size = none := I.hok.fresh (Nat.le_refl _)
  obtain ⟨x2, w2⟩ := addO (o := .lst (vs ++ ws)) w hn
  obtain ⟨nF, nι⟩ := w.notp hn
  exact ⟨.ref _, _, I.lnew (t' := s.toks) (v1.append v2) (by rw [List.length_append]; omega), rfl, k _ _ _ x2 w2 ⟨.lst upd_same (by rw [List.length_append]; omega) ((l1.ext x2 w).append (l2.ext x2 w)), nF, nι⟩ hn⟩
def Wk (P : Pl) (W1 : Wo) (H1 : Hp) (oa : List Addr) (g : Gd) (xs : List D) (J : L2.It) : Prop :=
  ∀ (i : Nat) (W : Wo) (H : Hp) (μ : Sto), Keep W1 H1 W H → (∀ a ∈ oa, ∀ o, H1 a = some o → H a = some o) → Wd P W H μ → stay g μ = true →
    (i < xs.length → J.go i H ∧ ∀ x H3, J.yld i H x H3 → ∃ W3 d, Ext W H W3 H3 ∧ Wd P W3 H3 μ ∧ xs[i]? = some d ∧ Rep P W3 H3 x d) ∧ (i = xs.length → J.stop i H)
def ownI : It → Bool
  | .lst r => ownR r
  | _ => false
def tI (P : Pl) (cal : Cal) (mak : Mak) (it : It) : TI := fun σ H Rr => ∃ (W : Wo) (ρ : Rho) (μ : Sto) (xs : List D) (g : Gd) (μ' : Sto), Wd P W H μ ∧ En P W H σ ρ ∧ evI P.T cal mak it ρ μ = some ((xs, g), μ') ∧
  ∀ W1 H1 J oa, Ext W H W1 H1 → Wd P W1 H1 μ' → (ownI it = false → oa = []) → (∀ a ∈ oa, a ∉ W1.ι) → Wk P W1 H1 oa g xs J → xs.length ≤ LIM → Rr J H1
theorem stay_eq {m : Nat} {d : D} (h : stay (some (m, d)) μ = true) : μ[m]? = some d := by
  unfold stay at h
  simpa using h
theorem g_ilst (g : GX P n cal mak G X) {tg e : Expr} {r : R} (h : PE X e (tR P cal mak r)) : PI X tg e (tI P cal mak (.lst r)) := by
  refine piI (pi_list h) fun σ H Rr ⟨W, ρ, μ, xs, gd, μ', w, en, ee, k⟩ => ?_
  unfold evI at ee
  obtain ⟨x, e1, ee⟩ := bind_some' ee
  obtain ⟨d, e2, ee⟩ := bind_some' ee
  obtain ⟨ys, e3, ee⟩ := bind_some' ee
  cases ee
  refine ⟨W, ρ, μ, x.1, x.2, w, en, e1, fun v W1 H1 x1 w1 r1 rR => ?_⟩
  obtain ⟨a, vs, rfl, q1, l1, z1⟩ := r1.lst w1 (show (x.1.top x.2).bind asLst = some xs by rw [e2]; exact e3)
  have go : ∀ {oa : List Addr}, (∀ (W2 : Wo) (H2 : Hp) (μ2 : Sto), Keep W1 H1 W2 H2 → (∀ a ∈ oa, ∀ o, H1 a = some o → H2 a = some o) → Wd P W2 H2 μ2 → stay (seqGd x.1 x.2) μ2 = true → ∃ ws, SqL X.K H2 a ws ∧ RepL P W2 H2 ws xs) → Wk P W1 H1 oa (seqGd x.1 x.2) xs (Itl X.K a) := fun {oa} hh i W2 H2 μ2 kp oo w2 st => by
    obtain ⟨ws, hq, hr⟩ := hh W2 H2 μ2 kp oo w2 st
    have wl := walk_list (K := X.K) (a := a) (xs := ws)
    have hlen := hr.len
    refine ⟨fun hi => ⟨wl.goes i H2 (by omega) hq, fun y H3 hy => ?_⟩, fun hi => ⟨ws, hq, by omega⟩⟩
    obtain ⟨e4, e5⟩ := wl.yields i H2 y H3 (by omega) hq hy
    subst e4
    obtain ⟨d', hd'⟩ : ∃ d', xs[i]? = some d' := ⟨_, List.getElem?_eq_getElem hi⟩
    obtain ⟨v', hv', rv'⟩ := hr.get hd'
    rw [e5] at hv'
    cases hv'
    exact ⟨W2, d', .refl, w2, hd', rv'⟩
  have hz : xs.length ≤ LIM := by rw [← l1.len]; exact z1
  have ql : SqL X.K H1 a vs := g.K ▸ q1
  have r1' : Rep P W1 H1 (.ref a) x.1 ∨ ownR r = true ∧ ∃ a', V.ref a = .ref a' ∧ Own P W1 H1 a' x.1 := by
    cases ho : ownR r with
    | false => exact .inl (rR ho)
    | true => exact r1.imp id fun h => ⟨rfl, h⟩
  clear r1 rR
  rcases r1' with r1 | ⟨ho, a', ea, o⟩
  · generalize hx : x.1 = dx at *
    cases dx with
    | cell m =>
      cases r1 with
      | cell hm =>
        refine ⟨a, rfl, ⟨vs, ql⟩, k W1 H1 _ [] x1 w1 (fun _ => rfl) (fun _ h => nomatch h) (go fun W2 H2 μ2 kp _ w2 st => ?_) hz⟩
        have e2' : x.2[m]? = some d := e2
        have sg : seqGd (.cell m) x.2 = some (m, d) := by
          show (x.2[m]?).map (fun d => (m, d)) = _
          rw [e2']; rfl
        rw [sg] at st
        have st := stay_eq st
        obtain ⟨l, el⟩ := kp.pre
        have hm2 : W2.ι[m]? = some a := by
          rw [el, List.getElem?_append_left (List.getElem?_eq_some_iff.mp hm).1]
          exact hm
        cases w2.cell m a d hm2 st with
        | lst hh z rr =>
          cases e3
          exact ⟨_, .of hh, rr⟩
        | obj => cases e3
        | dct => cases e3
    | lst zs =>
      cases e2
      cases e3
      cases r1 with
      | lst q f z rr =>
        refine ⟨a, rfl, ⟨vs, ql⟩, k W1 H1 _ [] x1 w1 (fun _ => rfl) (fun _ h => nomatch h) (go fun W2 H2 μ2 kp _ w2 st => ?_) hz⟩
        refine ⟨_, ?_, rr.keep kp⟩
        rcases f with f | f
        · exact g.K ▸ SqL_rd q fun o hh => kp.rd _ o f hh
        · exact g.K ▸ f H2
    | _ => cases e2; cases e3
  · cases ea
    refine ⟨a, rfl, ⟨vs, ql⟩, k W1 H1 _ [a] x1 w1 (fun ho' => ?_) (fun b hb => ?_) (go fun W2 H2 μ2 kp oo w2 st => ?_) hz⟩
    · rw [show ownI (.lst r) = ownR r from rfl, ho] at ho'
      cases ho'
    · have : b = a := by simpa using hb
      subst this
      exact o.nc
    · have oc := o.c
      generalize hx : x.1 = dx at *
      cases oc with
      | lst hh z rr =>
        cases e2
        cases e3
        exact ⟨_, .of (oo a (by simp) _ hh), rr.keep kp⟩
      | dct => cases e2; cases e3
      | obj => cases e2; cases e3
end
end EV

set_option Elab.async false
set_option linter.all false
set_option maxRecDepth 100000
set_option maxHeartbeats 1000000
namespace EV
open PySem PySem.Spec PyProof.Rows L2
section
variable {P : Pl} {n : Nat} {cal : Cal} {mak : Mak} {G : Ga} {X : Cx} {W W' W'' : Wo} {H H' H'' : Hp} {μ μ' : Sto} {σ : L2.St} {ρ : Rho}
theorem g_itup (g : GX P n cal mak G X) {tg e : Expr} {c : E} (h : PE X e (tE P cal mak c)) : PI X tg e (tI P cal mak (.tup c)) := by
  refine piI (pi_tup h) fun σ H Rr ⟨W, ρ, μ, xs, gd, μ', w, en, ee, k⟩ => ?_
  unfold evI at ee
  obtain ⟨x, e1, ee⟩ := bind_some' ee
  split at ee
  · rename_i ys hx
    cases ee
    refine ⟨W, ρ, μ, x.1, x.2, w, en, e1, fun v W1 H1 x1 w1 r1 => ?_⟩
    rw [hx] at r1
    cases r1 with
    | tup q f z rr =>
      rename_i a vs
      refine ⟨a, rfl, ⟨vs, g.K ▸ q⟩, k W1 H1 _ [] x1 w1 (fun _ => rfl) (fun _ h => nomatch h) (fun i W2 H2 μ2 kp _ w2 st => ?_) (by rw [← rr.len]; exact z)⟩
      have hq : SqT X.K H2 a vs := by
        rcases f with f | f
        · exact g.K ▸ SqT_rd q fun o hh => kp.rd _ o f.1 hh
        · exact g.K ▸ f.2 H2
      have hr := rr.keep kp
      have wl := walk_tup (K := X.K) (a := a) (xs := vs)
      have hlen := hr.len
      refine ⟨fun hi => ⟨wl.goes i H2 (by omega) hq, fun y H3 hy => ?_⟩, fun hi => ⟨vs, hq, by omega⟩⟩
      obtain ⟨e4, e5⟩ := wl.yields i H2 y H3 (by omega) hq hy
      subst e4
      obtain ⟨d', hd'⟩ : ∃ d', xs[i]? = some d' := ⟨_, List.getElem?_eq_getElem hi⟩
      obtain ⟨v', hv', rv'⟩ := hr.get hd'
      rw [e5] at hv'
      cases hv'
      exact ⟨W2, d', .refl, w2, hd', rv'⟩
  · cases ee
theorem g_istr (g : GX P n cal mak G X) {tg e : Expr} {c : E} (h : PE X e (tE P cal mak c)) : PI X tg e (tI P cal mak (.str c)) := by
  refine piI (pi_str h) fun σ H Rr ⟨W, ρ, μ, xs, gd, μ', w, en, ee, k⟩ => ?_
  unfold evI at ee
  obtain ⟨x, e1, ee⟩ := bind_some' ee
  split at ee
  · rename_i z hx
    cases ee
    refine ⟨W, ρ, μ, x.1, x.2, w, en, e1, fun v W1 H1 x1 w1 r1 => ?_⟩
    rw [hx] at r1
    cases r1 with
    | str _ hz =>
      have hz2 : z.length ≤ LIM := of_decide_eq_true (ba hz).2
      have hz3 : z.cps.size ≤ LIM := hz2
      refine ⟨z, rfl, k W1 H1 _ [] x1 w1 (fun _ => rfl) (fun _ h => nomatch h) (fun i W2 H2 μ2 kp _ w2 st => ?_) (by simpa using hz3)⟩
      have wl := walk_str (z := z)
      rw [List.length_map, Array.length_toList]
      refine ⟨fun hi => ⟨hi, fun y H3 hy => ?_⟩, fun hi => Nat.le_of_eq hi.symm⟩
      obtain ⟨e4, ch, e5, e6⟩ := hy
      subst e4 e6
      have e5' : z.cps.toList[i]? = some ch := by rw [Array.getElem?_toList]; exact e5
      exact ⟨W2, _, .refl, w2, by rw [List.getElem?_map, e5']; rfl, .str _ (sok_char hz e5')⟩
  · cases ee
theorem g_irng (g : GX P n cal mak G X) {tg y : Expr} {c : E} {x : Str} {p pos : Pos} (hx : x = "range") (gl : Gl X x) (hs : starB y = true) (h : PE X y (tE P cal mak c)) : PI X tg (.Call (.Name x p) [y] [] pos) (tI P cal mak (.rng c)) := by
  subst hx
  refine piI (pi_range1 gl (g.fr _ (by decide +kernel)) (pa_cons h pa_nil (star_cons hs)) (star_cons hs)) fun σ H Rr ⟨W, ρ, μ, xs, gd, μ', w, en, ee, k⟩ => ?_
  unfold evI at ee
  obtain ⟨x, e1, ee⟩ := bind_some' ee
  split at ee
  · rename_i m hx
    split at ee
    · rename_i hm
      cases ee
      refine ⟨W, ρ, μ, x.1, x.2, w, en, e1, fun v W1 H1 x1 w1 r1 => ?_⟩
      rw [hx] at r1
      cases r1
      refine ⟨m, rfl, by omega, by omega, k W1 H1 _ [] x1 w1 (fun _ => rfl) (fun _ h => nomatch h) (fun i W2 H2 μ2 kp _ w2 st => ?_) (by rw [List.length_map, List.length_range]; show m.toNat ≤ 16777216; omega)⟩
      have wl := walk_range (lo := 0) (n := m.toNat)
      rw [List.length_map, List.length_range]
      refine ⟨fun hi => ⟨hi, fun y H3 hy => ?_⟩, fun hi => Nat.le_of_eq hi.symm⟩
      obtain ⟨e4, e5⟩ := hy
      subst e4 e5
      refine ⟨W2, .int i, .refl, w2, by rw [List.getElem?_map, List.getElem?_range hi]; rfl, ?_⟩
      rw [Int.zero_add]
      exact .int _
    · cases ee
  · cases ee
/-! targets -/
def gL : List Nat → TGs
  | [] => gNil
  | i :: l => gCons (gName i) (gL l)
def gTg (K : PySem.W.Frag) : Tg → TG
  | .v i => gName i
  | .tup l => gTup K l.length (gL l)
theorem pg_tgs (g : GX P n cal mak G X) : ∀ {l : List Nat} {ts : List Expr}, chkTs G l ts = true → PGs X ts (gL l) ∧ (assignEach ts X.env).length = l.length ∧ (assignEach ts X.env).findIdx? (·.1) = none
  | [], ts, h => by
    cases ts with
    | nil => exact ⟨pgs_nil, rfl, rfl⟩
    | cons _ _ => cases h
  | i :: l, ts, h => by
    cases ts with
    | nil => cases h
    | cons t r =>
      cases t <;> first | (cases h; done) | skip
      rename_i x p
      obtain ⟨h1, h⟩ := ba h
      obtain ⟨h2, h⟩ := ba h
      obtain ⟨h3, h4⟩ := ba h
      obtain ⟨a, b, c⟩ := pg_tgs g h4
      have h1 := of_decide_eq_true h1
      refine ⟨pgs_cons (pg_name (i := i) (by rw [g.N]; exact g.nd) (by rw [g.N]; exact h1) (g.loc h2) (g.st x h3)) a rfl, ?_, ?_⟩
      · show (assignEach r X.env).length + 1 = l.length + 1
        rw [b]
      · show List.findIdx? _ ((false, assign (.Name x p) X.env) :: assignEach r X.env) = none
        rw [List.findIdx?_cons]
        simp only [Bool.false_eq_true, if_false]
        rw [c]; rfl
theorem pg_tg (g : GX P n cal mak G X) {tg : Tg} {t : Expr} (h : chkT G tg t = true) : PG X t (gTg P.K tg) := by
  cases tg with
  | v i =>
    cases t <;> first | (cases h; done) | skip
    rename_i x p
    obtain ⟨h1, h⟩ := ba h
    obtain ⟨h2, h3⟩ := ba h
    exact pg_name (i := i) (by rw [g.N]; exact g.nd) (by rw [g.N]; exact of_decide_eq_true h1) (g.loc h2) (g.st x h3)
  | tup l =>
    cases t <;> first | (cases h; done) | skip
    obtain ⟨a, b, c⟩ := pg_tgs g (show chkTs G l _ = true from h)
    have := pg_tup (n := l.length) (k := by assumption) (pos := by assumption) g.calm a b c
    rw [g.K] at this
    exact this
theorem En.setF {i : Nat} {v : V} {d : D} (en : En P W H σ ρ) (r : Rep P W H v d) : En P W H (σ.set i (some v)) (ρ.set i (.fz d)) := by
  refine ⟨by rw [List.length_set, List.length_set]; exact en.len, fun j e h => ?_, fun j e h => ?_, fun j j' d' e a h1 h2 h3 h4 => ?_⟩
  · by_cases hj : i = j
    · subst hj
      have hl : i < ρ.length := by
        have := (List.getElem?_eq_some_iff.mp h).1
        simpa using this
      rw [List.getElem?_set_self hl] at h
      cases h
      exact ⟨v, by rw [List.getElem?_set_self (by rw [en.len]; exact hl)], r⟩
    · rw [List.getElem?_set_ne hj] at h ⊢
      exact en.fz j e h
  · by_cases hj : i = j
    · subst hj
      have hl : i < ρ.length := by
        have := (List.getElem?_eq_some_iff.mp h).1
        simpa using this
      rw [List.getElem?_set_self hl] at h
      cases h
    · rw [List.getElem?_set_ne hj] at h ⊢
      exact en.ow j e h
  · have n1 : i ≠ j := fun z => by
      subst z
      have hl : i < ρ.length := by
        have := (List.getElem?_eq_some_iff.mp h1).1
        simpa using this
      rw [List.getElem?_set_self hl] at h1; cases h1
    have n2 : i ≠ j' := fun z => by
      subst z
      have hl : i < ρ.length := by
        have := (List.getElem?_eq_some_iff.mp h2).1
        simpa using this
      rw [List.getElem?_set_self hl] at h2; cases h2
    rw [List.getElem?_set_ne n1] at h1 h3
    rw [List.getElem?_set_ne n2] at h2 h4
    exact en.ne j j' d' e a h1 h2 h3 h4
theorem wipe_set {σ : L2.St} {x : Option V} {i : Nat} : ∀ {l : List Nat}, i ∈ l → wipe (σ.set i x) l = wipe σ l
  | v :: l, h => by
    show (wipe (σ.set i x) l).set v none = (wipe σ l).set v none
    by_cases hi : i ∈ l
    · rw [wipe_set hi]
    · have e : i = v := by
        rcases List.mem_cons.mp h with e | e
        · exact e
        · exact absurd e hi
      subst e
      have key : ∀ (l : List Nat), i ∉ l → wipe (σ.set i x) l = (wipe σ l).set i x := by
        intro l
        induction l with
        | nil => intro _; rfl
        | cons u l ih =>
          intro hu
          have h1 : i ≠ u := fun z => hu (z ▸ List.mem_cons_self)
          show (wipe (σ.set i x) l).set u none = ((wipe σ l).set u none).set i x
          rw [ih fun z => hu (List.mem_cons_of_mem _ z), List.set_comm _ _ h1]
      rw [key l hi, List.set_set]
/-- what is owned behind was owned ahead -/
def OwSame (ρ : Rho) (σ : L2.St) (ρ' : Rho) (σ' : L2.St) : Prop := ∀ (j : Nat) (d : D), ρ'[j]? = some (.ow d) → ρ[j]? = some (.ow d) ∧ σ'[j]? = σ[j]?
theorem owsame_set {i : Nat} {d : D} {x : Option V} {σ : L2.St} {ρ : Rho} : OwSame ρ σ (ρ.set i (.fz d)) (σ.set i x) := fun j e h => by
  by_cases hj : i = j
  · subst hj
    have hl : i < ρ.length := by
      have := (List.getElem?_eq_some_iff.mp h).1
      simpa using this
    rw [List.getElem?_set_self hl] at h; cases h
  · rw [List.getElem?_set_ne hj] at h
    exact ⟨h, List.getElem?_set_ne hj⟩
theorem OwSame.trans {ρ ρ' ρ'' : Rho} {σ σ' σ'' : L2.St} (a : OwSame ρ σ ρ' σ') (b : OwSame ρ' σ' ρ'' σ'') : OwSame ρ σ ρ'' σ'' := fun j d h => by
  obtain ⟨h1, h2⟩ := b j d h
  obtain ⟨h3, h4⟩ := a j d h1
  exact ⟨h3, h2.trans h4⟩
theorem set_all (l0 : List Nat) : ∀ {l : List Nat} {ds : List D} {vs : List V} {ρ ρ' : Rho} {σ : L2.St} {Q : L2.St → Hp → Prop}, (∀ i ∈ l, i ∈ l0) → setAll ρ l ds = some ρ' → RepL P W H vs ds → En P W H σ ρ →
    (∀ σ', En P W H σ' ρ' → wipe σ' l0 = wipe σ l0 → OwSame ρ σ ρ' σ' → Q σ' H) → gL l vs σ H Q
  | [], ds, vs, ρ, ρ', σ, Q, _, h, r, en, k => by
    cases ds with
    | nil => cases h; cases r; exact ⟨rfl, k σ en rfl fun _ _ h => ⟨h, rfl⟩⟩
    | cons _ _ => cases h
  | i :: l, ds, vs, ρ, ρ', σ, Q, hl, h, r, en, k => by
    cases ds with
    | nil => cases h
    | cons d ds =>
      cases r with
      | cons r1 r2 =>
        have h : (if i < ρ.length then setAll (ρ.set i (.fz d)) l ds else none) = some ρ' := h
        split at h
        · refine ⟨_, _, rfl, ?_⟩
          exact set_all l0 (fun j hj => hl j (List.mem_cons_of_mem _ hj)) h r2 (en.setF r1) fun σ' en' e os => k σ' en' (by rw [e, wipe_set (hl i List.mem_cons_self)]) (owsame_set.trans os)
        · cases h
theorem bind_ok {tg : Tg} {d : D} {v : V} {ρ' : Rho} {Q : L2.St → Hp → Prop} (h : bindTg tg d ρ = some ρ') (r : Rep P W H v d) (en : En P W H σ ρ)
    (k : ∀ σ', En P W H σ' ρ' → wipe σ' tg.slots = wipe σ tg.slots → OwSame ρ σ ρ' σ' → Q σ' H) : gTg P.K tg v σ H Q := by
  cases tg with
  | v i =>
    have h : (if i < ρ.length then some (ρ.set i (.fz d)) else none) = some ρ' := h
    split at h
    · cases h
      exact k _ (en.setF r) (wipe_set List.mem_cons_self) owsame_set
    · cases h
  | tup l =>
    cases d <;> first | (cases h; done) | skip
    rename_i ds
    cases r with
    | tup q f z rr =>
      have hl : ds.length = l.length := by
        have : ∀ (l : List Nat) (ds : List D) (ρ ρ' : Rho), setAll ρ l ds = some ρ' → ds.length = l.length := by
          intro l
          induction l with
          | nil => intro ds ρ ρ' h; cases ds with | nil => rfl | cons _ _ => cases h
          | cons i l ih =>
            intro ds ρ ρ' h
            cases ds with
            | nil => cases h
            | cons d ds =>
              have h : (if i < ρ.length then setAll (ρ.set i (.fz d)) l ds else none) = some ρ' := h
              split at h
              · exact congrArg Nat.succ (ih ds _ _ h)
              · cases h
        exact this l ds ρ ρ' h
      exact ⟨_, _, rfl, q, by rw [rr.len]; exact hl, set_all l (fun _ h => h) h rr en k⟩
theorem En.wipe (en : En P W H σ ρ) : ∀ (l : List Nat), En P W H (wipe σ l) (wipeR ρ l)
  | [] => en
  | v :: l => by
    have ih := En.wipe en l
    show En P W H ((L2.wipe σ l).set v none) ((wipeR ρ l).set v .un)
    have key : ∀ {j : Nat} {s : Slot}, ((wipeR ρ l).set v .un)[j]? = some s → s ≠ .un → j ≠ v ∧ (wipeR ρ l)[j]? = some s := fun {j s} h hs => by
      by_cases hj : v = j
      · subst hj
        have hl : v < (wipeR ρ l).length := by
          have := (List.getElem?_eq_some_iff.mp h).1
          simpa using this
        rw [List.getElem?_set_self hl] at h
        cases h
        exact absurd rfl hs
      · rw [List.getElem?_set_ne hj] at h
        exact ⟨fun z => hj z.symm, h⟩
    refine ⟨by rw [List.length_set, List.length_set]; exact ih.len, fun j e h => ?_, fun j e h => ?_, fun j j' d' e a h1 h2 h3 h4 => ?_⟩
    · obtain ⟨hj, h⟩ := key h (fun z => nomatch z)
      rw [List.getElem?_set_ne (Ne.symm hj)]
      exact ih.fz j e h
    · obtain ⟨hj, h⟩ := key h (fun z => nomatch z)
      rw [List.getElem?_set_ne (Ne.symm hj)]
      exact ih.ow j e h
    · obtain ⟨n1, h1⟩ := key h1 (fun z => nomatch z)
      obtain ⟨n2, h2⟩ := key h2 (fun z => nomatch z)
      rw [List.getElem?_set_ne (Ne.symm n1)] at h3
      rw [List.getElem?_set_ne (Ne.symm n2)] at h4
      exact ih.ne j j' d' e a h1 h2 h3 h4
end
end EV

set_option Elab.async false
set_option linter.all false
set_option maxRecDepth 100000
set_option maxHeartbeats 2000000
namespace EV
open PySem PySem.Spec PyProof.Rows L2
section
variable {P : Pl} {n : Nat} {cal : Cal} {mak : Mak} {G : Ga} {X : Cx} {W W' W'' : Wo} {H H' H'' : Hp} {μ μ' : Sto} {σ : L2.St} {ρ : Rho}
def tC' (P : Pl) (cal : Cal) (mak : Mak) (c : Eo) : TT := fun σ H Q => ∃ (W : Wo) (ρ : Rho) (μ : Sto) (b : Bool) (μ' : Sto), Wd P W H μ ∧ En P W H σ ρ ∧ evC P.T cal mak c ρ μ = some (b, μ') ∧ ∀ W' H', Ext W H W' H' → Wd P W' H' μ' → Q b H'
theorem g_cno : PTs X [] (tC' P cal mak .no) := ptsI pts_nil fun σ H Q ⟨W, ρ, μ, b, μ', w, en, ee, k⟩ => by
  unfold evC at ee
  cases ee
  exact k W H .refl w
theorem g_cso {e : Expr} {c : E} (h : PT X e (tT P cal mak c)) : PTs X [e] (tC' P cal mak (.so c)) := ptsI (pts_one h) fun σ H Q ⟨W, ρ, μ, b, μ', w, en, ee, k⟩ => by
  unfold evC at ee
  obtain ⟨⟨x, y⟩, e1, ee⟩ := bind_some' ee
  split at ee
  · rename_i b' hx
    simp only at hx ee
    subst hx
    cases ee
    exact ⟨W, ρ, μ, _, _, w, en, e1, k⟩
  · cases ee
theorem Ext.updNew {a : Addr} {o : HO} (x : Ext W H W' H') (ha : H a = none) : Ext W H W' (upd H' a o) :=
  ⟨x.fz, x.fresh, fun b u h hb => by rw [upd_ne (ne_of_none h ha)]; exact x.old b u h hb, x.pre, x.newc⟩
theorem Own.write {a : Addr} {d e : D} {o : HO} (w : Wd P W H μ) (own : Own P W H a d) (c : Cell P W (upd H a o) a e) : Wd P W (upd H a o) μ ∧ Own P W (upd H a o) a e ∧ Keep W H W (upd H a o) := by
  have k : Keep W H W (upd H a o) := ⟨fun _ h => h, fun b u f h => by rw [upd_ne (show b ≠ a from fun z => own.nf (z ▸ f))]; exact h, [], by simp⟩
  refine ⟨⟨w.len, w.nd, w.nf, fun b h => ?_, fun m b e h1 h2 => ?_⟩, ⟨c, own.nf, own.nc⟩, k⟩
  · rw [upd_ne (show b ≠ a from fun z => own.nf (z ▸ h))]; exact w.tr b h
  · have hb : b ≠ a := fun z => own.nc (z ▸ List.mem_of_getElem? h1)
    exact (w.cell m b e h1 h2).keep k fun u h => by rw [upd_ne hb]; exact h
theorem lcL_len {g : Gd} {f : D → Sto → Option (Option D × Sto)} : ∀ {xs : List D} {μ : Sto} {q : List D × Sto}, lcL g f xs μ = some q → q.1.length ≤ xs.length
  | [], μ, q, h => by
    unfold lcL at h
    split at h
    · cases h; exact Nat.le_refl _
    · cases h
  | x :: xs, μ, q, h => by
    unfold lcL at h
    split at h
    · obtain ⟨r, _, h⟩ := bind_some' h
      obtain ⟨q', h2, h⟩ := bind_some' h
      have ih := lcL_len h2
      cases h
      cases r.1 with
      | none => exact Nat.le_succ_of_le ih
      | some y => exact Nat.succ_le_succ ih
    · cases h
theorem wipe_none {σ : L2.St} : ∀ {l : List Nat} {i : Nat}, i ∈ l → (wipe σ l).set i none = wipe σ l
  | v :: l, i, h => by
    show ((wipe σ l).set v none).set i none = (wipe σ l).set v none
    by_cases e : i = v
    · subst e; rw [List.set_set]
    · have hi : i ∈ l := by
        rcases List.mem_cons.mp h with q | q
        · exact absurd q e
        · exact q
      rw [List.set_comm _ _ (Ne.symm e), wipe_none hi]
theorem wipe_wipe {σ : L2.St} : ∀ (l : List Nat), wipe (wipe σ l) l = wipe σ l := by
  have key : ∀ (m l : List Nat), (∀ i ∈ m, i ∈ l) → wipe (wipe σ l) m = wipe σ l := by
    intro m
    induction m with
    | nil => intro l _; rfl
    | cons v m ih =>
      intro l h
      show (wipe (wipe σ l) m).set v none = _
      rw [ih l fun i hi => h i (List.mem_cons_of_mem _ hi)]
      exact wipe_none (h v List.mem_cons_self)
  exact fun l => key l l fun _ h => h
/-- the turns of a comprehension -/
theorem g_lc {elt t iter : Expr} {ifs : List Expr} {scope : Scope} {pos : Pos} {el : E} {tg : Tg} {it : It} {c : Eo} (g : GX P n cal mak G X) (hp : plnB iter = true) (hi : PI X t iter (tI P cal mak it)) (ok : BlkOk X.N X.env.scope scope (ownOf G.N tg.slots)) (hsl : (ownOf G.N tg.slots).map (·.2) = tg.slots)
    (hb : ∀ (s : Shared) (H : Hp) (C : Addr) (cl : List (Str × Addr)) (fp : List Addr), PG (X.blk s H scope (compEnvC scope cl C X.env) fp) t (gTg P.K tg) ∧ PTs (X.blk s H scope (compEnvC scope cl C X.env) fp) ifs (tC' P cal mak c) ∧ PE (X.blk s H scope (compEnvC scope cl C X.env) fp) elt (tE P cal mak el)) :
    PE X (.ListComp elt [⟨t, iter, ifs, 0⟩] scope pos) (tO P cal mak (.lc el tg it c)) ∧
    ∀ (σ : L2.St) (H : Hp) (Q : VK), tO P cal mak (.lc el tg it c) σ H Q → tLc (tI P cal mak it) (gTg P.K tg) (tC' P cal mak c) (tE P cal mak el) ((ownOf G.N tg.slots).map (·.2)) σ H Q := by
  have rd : ∀ (σ : L2.St) (H : Hp) (Q : VK), tO P cal mak (.lc el tg it c) σ H Q → tLc (tI P cal mak it) (gTg P.K tg) (tC' P cal mak c) (tE P cal mak el) ((ownOf G.N tg.slots).map (·.2)) σ H Q := fun σ H Q ⟨W, ρ, μ, d, μ', w, en, ee, k⟩ => by
    rw [hsl]
    unfold evO at ee
    obtain ⟨⟨⟨xs, gd⟩, μ1⟩, e1, ee⟩ := bind_some' ee
    obtain ⟨⟨zs, μ2⟩, e2, ee⟩ := bind_some' ee
    cases ee
    simp only at e2
    refine ⟨W, ρ, μ, xs, gd, μ1, w, en, e1, fun W1 H1 J oa x1 w1 ho hoa wk hlim A0 hD => ?_⟩
    generalize hf : (fun (d : D) (μ : Sto) => (bindTg tg d (wipeR ρ tg.slots)).bind fun ρ' => (evC P.T cal mak c ρ' μ).bind fun b => if b.1 = true then (ev P.T cal mak el ρ' b.2).bind fun y => some (some y.1, y.2) else some (none, b.2)) = f at e2
    have hDn := w1.notp hD
    have en1 := en.ext x1 w
    refine ⟨fun i m H2 => m = xs.length - i ∧ ∃ (W2 : Wo) (μi : Sto) (vs : List V) (ys : List D) (q : List D × Sto), Ext W1 H1 W2 H2 ∧ Wd P W2 H2 μi ∧ H2 A0 = some (.lst vs) ∧ Own P W2 H2 A0 (.lst ys) ∧ RepL P W2 H2 vs ys ∧ i ≤ xs.length ∧ ys.length ≤ i ∧
      lcL gd f (xs.drop i) μi = some q ∧ ys ++ q.1 = zs ∧ q.2 = μ2, ⟨xs.length, by simp, ?_⟩, ?_⟩
    · obtain ⟨xa, wa⟩ := addO (o := .lst []) w1 hD
      exact ⟨W1, μ1, [], [], (zs, μ2), xa, wa, upd_same, ⟨.lst upd_same (Nat.zero_le _) .nil, hDn.1, hDn.2⟩, .nil, Nat.zero_le _, Nat.zero_le _, by simpa using e2, rfl, rfl⟩
    · rintro i m H2 ⟨rfl, W2, μi, vs, ys, q, x2, w2, hv, ow, rl, hi1, hi2, hq, hz, hm⟩
      have kp : Keep W1 H1 W2 H2 := x2.keep w1
      have oo : ∀ a ∈ oa, ∀ o, H1 a = some o → H2 a = some o := fun a ha o h => x2.old a o h (hoa a ha)
      by_cases hlt : i < xs.length
      · right
        rw [List.drop_eq_getElem_cons hlt] at hq
        unfold lcL at hq
        split at hq
        · rename_i st
          obtain ⟨go, yl⟩ := (wk i W2 H2 μi kp oo w2 st).1 hlt
          obtain ⟨r, hr, hq⟩ := bind_some' hq
          obtain ⟨q', hq', hq⟩ := bind_some' hq
          rw [← hf] at hr
          obtain ⟨ρ', hb1, hr⟩ := bind_some' hr
          obtain ⟨b, hb2, hr⟩ := bind_some' hr
          refine ⟨go, fun H3 => ∃ W3 μ3 vs' ys', Ext W1 H1 W3 H3 ∧ Wd P W3 H3 μ3 ∧ H3 A0 = some (.lst vs') ∧ Own P W3 H3 A0 (.lst ys') ∧ RepL P W3 H3 vs' ys' ∧ ys'.length ≤ i + 1 ∧ ∃ q, lcL gd f (xs.drop (i + 1)) μ3 = some q ∧ ys' ++ q.1 = zs ∧ q.2 = μ2, fun H3 ⟨W3, μ3, vs', ys', y1, y2, y3, y4, y5, y6, q3, y7, y8, y9⟩ => ?_, fun x H3 hy => ?_⟩
          · exact ⟨xs.length - (i + 1), by omega, rfl, W3, μ3, vs', ys', q3, y1, y2, y3, y4, y5, hlt, y6, y7, y8, y9⟩
          · obtain ⟨W3, d, x3, w3, hd, rx⟩ := yl x H3 hy
            rw [List.getElem?_eq_getElem hlt] at hd
            cases hd
            have x13 := x2.trans x3 w1 w2
            have enb := (en1.ext x13 w1).wipe tg.slots
            refine bind_ok hb1 rx enb fun σ2 en2 he _ => ⟨by rw [he, wipe_wipe], ?_⟩
            refine ⟨W3, ρ', μi, b.1, b.2, w3, en2, hb2, fun W4 H4 x4 w4 => ?_⟩
            have x14 := x13.trans x4 w1 w3
            refine ite2 (fun hbt => ?_) (fun hbt => ?_)
            · rw [if_pos hbt] at hr
              obtain ⟨y, hy1, hr⟩ := bind_some' hr
              cases hr
              refine ⟨W4, ρ', b.2, y.1, y.2, w4, en2.ext x4 w3, hy1, fun v W5 H5 x5 w5 rv => ?_⟩
              have x25 := (x3.trans x4 w2 w3).trans x5 w2 w4
              have x15 := x14.trans x5 w1 w4
              have hv5 : H5 A0 = some (.lst vs) := x25.old A0 _ hv ow.nc
              have ow5 := ow.ext x25 w2
              have rl5 := rl.ext x25 w2
              have hl := rl.len
              refine ⟨vs, hv5, ?_, ?_⟩
              · rw [← lim_eq]; omega
              · have kpw : Keep W5 H5 W5 (upd H5 A0 (.lst (vs ++ [v]))) := ⟨fun _ h => h, fun b u ff h => by rw [upd_ne (show b ≠ A0 from fun z => ow5.nf (z ▸ ff))]; exact h, [], by simp⟩
                have rl6 := (rl5.append (.cons rv .nil)).keep kpw
                obtain ⟨w6, ow6, _⟩ := ow5.write (o := .lst (vs ++ [v])) w5 (e := .lst (ys ++ [y.1])) (.lst upd_same (by rw [List.length_append]; show _ + 1 ≤ LIM; omega) rl6)
                refine ⟨W5, y.2, vs ++ [v], ys ++ [y.1], x15.updNew hD, w6, upd_same, ow6, rl6, by rw [List.length_append]; exact Nat.succ_le_succ hi2, q', ?_⟩
                cases hq
                exact ⟨hq', by rw [← hz]; simp, hm⟩
            · rw [if_neg hbt] at hr
              cases hr
              have x24 := x3.trans x4 w2 w3
              cases hq
              exact ⟨W4, b.2, vs, ys, x14, w4, x24.old A0 _ hv ow.nc, ow.ext x24 w2, rl.ext x24 w2, by omega, q', hq', hz, hm⟩
        · cases hq
      · left
        have e : i = xs.length := by omega
        subst e
        rw [List.drop_length] at hq
        unfold lcL at hq
        split at hq
        · rename_i st
          cases hq
          refine ⟨(wk _ W2 H2 μi kp oo w2 st).2 rfl, ?_⟩
          have hz : ys = zs := by simpa using hz
          subst hz
          have hm : μi = μ2 := hm
          subst hm
          exact k A0 W2 H2 (x1.trans x2 w w1) w2 ow (x1.free w1 hD)
        · cases hq
  exact ⟨peI (pe_lc g.calm (by rw [g.N]; exact g.nd) hi ok (fun s H C cl fp => (hb s H C cl fp).1) (fun s H C cl fp => (hb s H C cl fp).2.1) (fun s H C cl fp => (hb s H C cl fp).2.2) (plain_fold hp)) rd, rd⟩
end
end EV

set_option Elab.async false
set_option linter.all false
set_option maxRecDepth 100000
set_option maxHeartbeats 2000000
namespace EV
open PySem PySem.Spec PyProof.Rows L2
/-! dicts: reading and writing -/
section
variable {P : Pl} {W : Wo} {H : Hp} {μ : Sto}
theorem RRep.dct {v : V} {d : D} {p : Bool × List (DKey × D)} (w : Wd P W H μ) (r : RRep P W H v d) (h : (d.top μ).bind asDct = some p) : ∃ a u vs, v = .ref a ∧ Rd H a u ∧ DHO p.1 u (p.2.map Prod.fst) vs ∧ RepL P W H vs (p.2.map Prod.snd) := by
  obtain ⟨e, h1, h2⟩ := bind_some' h
  have key : ∀ {a : Addr}, Cell P W H a e → ∃ u vs, Rd H a u ∧ DHO p.1 u (p.2.map Prod.fst) vs ∧ RepL P W H vs (p.2.map Prod.snd) := fun {a} c => by
    cases c with
    | dct hh q rr => cases h2; exact ⟨_, _, .inl hh, q, rr⟩
    | lst => cases h2
    | obj => cases h2
  cases d with
  | cell n =>
    rcases r with r | ⟨a, _, o⟩
    · cases r with
      | @cell _ a hn =>
        obtain ⟨u, vs, q⟩ := key (w.cell n a e hn h1)
        exact ⟨a, u, vs, rfl, q⟩
    · cases o.c
  | dct t es =>
    cases h1
    rcases r with r | ⟨a, rfl, o⟩
    · cases h2
      cases r with
      | dct hh q f rr => exact ⟨_, _, _, rfl, .inr ⟨_, hh⟩, q, rr⟩
    · obtain ⟨u, vs, q⟩ := key o.c
      exact ⟨a, u, vs, rfl, q⟩
  | _ => cases h1; cases h2
theorem asStrs_tup {xs : List D} {ss : List Str} {vs : List V} (h : asStrs xs = some ss) (r : RepL P W H vs xs) : vs = ss.map V.str ∧ ss.all sok = true := by
  induction xs generalizing ss vs with
  | nil => cases h; cases r; exact ⟨rfl, rfl⟩
  | cons d xs ih =>
    cases d <;> first | (cases h; done) | skip
    obtain ⟨l, e1, e2⟩ := bind_some' (show (asStrs xs).bind _ = some ss from h)
    cases e2
    cases r with
    | cons r1 r2 =>
      cases r1 with
      | str z hz =>
        obtain ⟨q1, q2⟩ := ih e1 r2
        subst q1
        exact ⟨rfl, by rw [List.all_cons, hz, q2]; rfl⟩
theorem map_inr (ss : List Str) : (ss.map Sum.inr : List Key).map kV = ss.map V.str := by rw [List.map_map]; rfl
/-- a thing that is a key -/
theorem key_rep {v : V} {d : D} {k : DKey} (ht : P.T.tupC = false) (r : Rep P W H v d) (h : keyD d = some k) : k.ok = true ∧ (k.isT = false → v = kV k.kk) ∧ (k.isT = true → ∃ b, v = .ref b ∧ H b = some (.tup (k.tt.map kV))) := by
  cases r with
  | str z hz => cases h; exact ⟨hz, fun _ => rfl, fun q => nomatch q⟩
  | int i => cases h; exact ⟨rfl, fun _ => rfl, fun q => nomatch q⟩
  | tup q f z rr =>
    obtain ⟨ss, e1, e2⟩ := bind_some' h
    cases e2
    obtain ⟨q1, q2⟩ := asStrs_tup e1 rr
    subst q1
    rcases f with f | f
    · refine ⟨by show (ss.all sok && decide (ss.length ≤ LIM)) = true; rw [q2, decide_eq_true (by rw [List.length_map] at z; exact z)]; rfl, fun q => (nomatch q), fun _ => ⟨_, rfl, ?_⟩⟩
      show H _ = some (.tup ((ss.map Sum.inr : List Key).map kV))
      rw [map_inr]
      exact f.2
    · rw [ht] at f; cases f.1
  | _ => cases h
theorem kk_inj {a b : DKey} (ha : a.isT = false) (hb : b.isT = false) (h : a.kk = b.kk) : a = b := by
  cases a <;> cases b <;> first | (cases ha; done) | (cases hb; done) | (cases h; done) | (cases h; rfl)
theorem tt_inj {a b : DKey} (ha : a.isT = true) (hb : b.isT = true) (h : a.tt = b.tt) : a = b := by
  cases a <;> cases b <;> first | (cases ha; done) | (cases hb; done) | skip
  rename_i x y
  have key : ∀ x y : List Str, (x.map Sum.inr : List Key) = y.map Sum.inr → x = y := by
    intro x
    induction x with
    | nil => intro y e; cases y with
      | nil => rfl
      | cons _ _ => cases e
    | cons a x ih => intro y e; cases y with
      | nil => cases e
      | cons b y =>
        have e1 : a = b := Sum.inr.inj (List.cons.inj e).1
        rw [e1, ih y (List.cons.inj e).2]
  rw [key x y h]
section
variable {κ : Type} [DecidableEq κ] (f : DKey → κ) {k : DKey}
theorem look_rel : ∀ {kvs : List (κ × V)} {es : List (DKey × D)}, kvs.map (·.1) = (es.map Prod.fst).map f → RepL P W H (kvs.map (·.2)) (es.map Prod.snd) → (∀ k' ∈ es.map Prod.fst, f k' = f k → k' = k) →
    (∀ d, lookD k es = some d → ∃ v, valV kvs (f k) = some v ∧ Rep P W H v d) ∧ (lookD k es = none → valV kvs (f k) = none)
  | [], [], _, _, _ => ⟨fun d h => (by cases h), fun _ => rfl⟩
  | [], _ :: _, h, _, _ => nomatch h
  | _ :: _, [], h, _, _ => nomatch h
  | (c, v) :: kvs, (k', d') :: es, h, r, inj => by
    have h1 : c = f k' := (List.cons.inj h).1
    have h2 : kvs.map (·.1) = (es.map Prod.fst).map f := (List.cons.inj h).2
    cases r with
    | cons r1 r2 =>
      by_cases e : k' = k
      · subst e
        have e1 : lookD k' ((k', d') :: es) = some d' := by simp [lookD]
        rw [e1, valV_pos (show (c, v).1 = f k' from h1)]
        exact ⟨fun d q => by cases q; exact ⟨v, rfl, r1⟩, fun q => nomatch q⟩
      · have e1 : lookD k ((k', d') :: es) = lookD k es := by simp [lookD, e]
        rw [e1, valV_neg (show ¬ (c, v).1 = f k from fun z => e (inj k' (.head _) (h1.symm.trans z)))]
        exact look_rel h2 r2 fun x hx => inj x (.tail _ hx)
theorem any_rel : ∀ {kvs : List (κ × V)} {es : List (DKey × D)}, kvs.map (·.1) = (es.map Prod.fst).map f → (∀ k' ∈ es.map Prod.fst, f k' = f k → k' = k) → (kvs.any fun p => decide (p.1 = f k)) = es.any fun p => decide (p.1 = k)
  | [], [], _, _ => rfl
  | [], _ :: _, h, _ => nomatch h
  | _ :: _, [], h, _ => nomatch h
  | (c, v) :: kvs, (k', d') :: es, h, inj => by
    have h1 : c = f k' := (List.cons.inj h).1
    have h2 : kvs.map (·.1) = (es.map Prod.fst).map f := (List.cons.inj h).2
    rw [List.any_cons, List.any_cons, any_rel h2 fun x hx => inj x (.tail _ hx)]
    congr 1
    show decide (c = f k) = decide (k' = k)
    rw [h1]
    by_cases e : k' = k
    · rw [decide_eq_true e, decide_eq_true (by rw [e])]
    · rw [decide_eq_false e, decide_eq_false fun z => e (inj k' (.head _) z)]
theorem put_map : ∀ {kvs : List (κ × V)} {es : List (DKey × D)} {v : V} {d : D}, kvs.map (·.1) = (es.map Prod.fst).map f → RepL P W H (kvs.map (·.2)) (es.map Prod.snd) → Rep P W H v d → (∀ k' ∈ es.map Prod.fst, f k' = f k → k' = k) →
    (kvs.map fun p => if p.1 = f k then (p.1, v) else p).map (·.1) = ((es.map fun p => if p.1 = k then (p.1, d) else p).map Prod.fst).map f ∧ RepL P W H ((kvs.map fun p => if p.1 = f k then (p.1, v) else p).map (·.2)) ((es.map fun p => if p.1 = k then (p.1, d) else p).map Prod.snd)
  | [], [], _, _, _, _, _, _ => ⟨rfl, .nil⟩
  | [], _ :: _, _, _, h, _, _, _ => nomatch h
  | _ :: _, [], _, _, h, _, _, _ => nomatch h
  | (c, u) :: kvs, (k', d') :: es, v, d, h, r, rv, inj => by
    have h1 : c = f k' := (List.cons.inj h).1
    have h2 : kvs.map (·.1) = (es.map Prod.fst).map f := (List.cons.inj h).2
    cases r with
    | cons r1 r2 =>
      obtain ⟨q1, q2⟩ := put_map (v := v) (d := d) h2 r2 rv fun x hx => inj x (.tail _ hx)
      rw [List.map_cons, List.map_cons, List.map_cons, List.map_cons, List.map_cons, List.map_cons, List.map_cons, q1]
      by_cases e : k' = k
      · subst e
        rw [if_pos (show (c, u).1 = f k' from h1), if_pos (show (k', d').1 = k' from rfl)]
        exact ⟨by rw [show ((c, u).1, v).1 = c from rfl, h1], .cons rv q2⟩
      · rw [if_neg (show ¬ (c, u).1 = f k from fun z => e (inj k' (.head _) (h1.symm.trans z))), if_neg (show ¬ (k', d').1 = k from e)]
        exact ⟨by rw [show (c, u).1 = c from rfl, h1], .cons r1 q2⟩
theorem put_rel {kvs : List (κ × V)} {es : List (DKey × D)} {v : V} {d : D} (h : kvs.map (·.1) = (es.map Prod.fst).map f) (r : RepL P W H (kvs.map (·.2)) (es.map Prod.snd)) (rv : Rep P W H v d) (inj : ∀ k' ∈ es.map Prod.fst, f k' = f k → k' = k) :
    (putK kvs (f k) v).map (·.1) = ((putDk es k d).map Prod.fst).map f ∧ RepL P W H ((putK kvs (f k) v).map (·.2)) ((putDk es k d).map Prod.snd) := by
  unfold putK putDk
  rw [any_rel f h inj]
  by_cases e : (es.any fun p => decide (p.1 = k)) = true
  · rw [if_pos e, if_pos e]
    exact put_map f h r rv inj
  · rw [if_neg e, if_neg e, List.map_append, List.map_append, List.map_append, List.map_append, List.map_append, h]
    exact ⟨rfl, r.append (.cons rv .nil)⟩
end
theorem putDk_keys {es : List (DKey × D)} {k : DKey} {d : D} : ∀ x ∈ (putDk es k d).map Prod.fst, x = k ∨ x ∈ es.map Prod.fst := by
  intro x hx
  unfold putDk at hx
  split at hx
  · obtain ⟨p, hp, rfl⟩ := List.mem_map.mp hx
    obtain ⟨q, hq, rfl⟩ := List.mem_map.mp hp
    right
    by_cases e : q.1 = k
    · rw [if_pos e]; exact List.mem_map.mpr ⟨q, hq, rfl⟩
    · rw [if_neg e]; exact List.mem_map.mpr ⟨q, hq, rfl⟩
  · rw [List.map_append] at hx
    rcases List.mem_append.mp hx with h | h
    · exact .inr h
    · exact .inl (by simpa using h)
/-- what is read at a key -/
theorem dget_rel {a : Addr} {u : HO} {t : Bool} {es : List (DKey × D)} {vs : List V} {y : V} {dy : D} {k : DKey} (ht : P.T.tupC = false) (rd : Rd H a u) (q : DHO t u (es.map Prod.fst) vs) (rr : RepL P W H vs (es.map Prod.snd)) (ry : Rep P W H y dy) (hk : keyD dy = some k) (hkt : k.isT = t) :
    ∃ o, DGet H a y o ∧ (∀ d, lookD k es = some d → ∃ v, o = some v ∧ Rep P W H v d) ∧ (lookD k es = none → o = none) := by
  obtain ⟨ok, k1, k2⟩ := key_rep ht ry hk
  cases t with
  | true =>
    obtain ⟨kvs, rfl, e1, e2, hT⟩ := q
    subst e2
    obtain ⟨b, rfl, hb⟩ := k2 hkt
    obtain ⟨l1, l2⟩ := look_rel DKey.tt (k := k) e1 rr fun k' hk' e => tt_inj (hT k' hk').1 hkt e
    exact ⟨_, .inr ⟨kvs, k.tt, b, rd, rfl, hb, rfl⟩, fun d h => by obtain ⟨v, h1, h2⟩ := l1 d h; exact ⟨v, h1, h2⟩, l2⟩
  | false =>
    obtain ⟨kvs, rfl, e1, e2, hT⟩ := q
    subst e2
    obtain ⟨l1, l2⟩ := look_rel DKey.kk (k := k) e1 rr fun k' hk' e => kk_inj (hT k' hk').1 hkt e
    exact ⟨_, .inl ⟨kvs, k.kk, rd, k1 hkt, rfl⟩, fun d h => by obtain ⟨v, h1, h2⟩ := l1 d h; exact ⟨v, h1, h2⟩, l2⟩
/-- what is stored at a key -/
theorem dput_rel {a : Addr} {t : Bool} {es : List (DKey × D)} {y v : V} {dy d : D} {k : DKey} (ht : P.T.tupC = false) (c : Cell P W H a (.dct t es)) (ry : Rep P W H y dy) (hk : keyD dy = some k) (hkt : k.isT = t) (rv : Rep P W H v d) (hl : es.length < LIM) :
    ∃ (o : HO) (vs : List V), DPut H a y v (upd H a o) ∧ DHO t o ((putDk es k d).map Prod.fst) vs ∧ RepL P W H vs ((putDk es k d).map Prod.snd) := by
  obtain ⟨ok, k1, k2⟩ := key_rep ht ry hk
  cases c with
  | @dct u _ vs _ ha q rr =>
    cases t with
    | true =>
      obtain ⟨kvs, rfl, e1, e2, hT⟩ := q
      subst e2
      obtain ⟨b, rfl, hb⟩ := k2 hkt
      have hlen : kvs.length < sizeLine := by
        have := congrArg List.length e1
        rw [List.length_map, List.length_map, List.length_map] at this
        rw [← lim_eq]; omega
      obtain ⟨p1, p2⟩ := put_rel DKey.tt (k := k) e1 rr rv fun k' hk' e => tt_inj (hT k' hk').1 hkt e
      refine ⟨_, _, .inr ⟨kvs, k.tt, b, ha, rfl, hb, hlen, rfl⟩, ⟨_, rfl, p1, rfl, fun x hx => ?_⟩, p2⟩
      rcases putDk_keys x hx with rfl | h
      · exact ⟨hkt, ok⟩
      · exact hT x h
    | false =>
      obtain ⟨kvs, rfl, e1, e2, hT⟩ := q
      subst e2
      have hlen : kvs.length < sizeLine := by
        have := congrArg List.length e1
        rw [List.length_map, List.length_map, List.length_map] at this
        rw [← lim_eq]; omega
      obtain ⟨p1, p2⟩ := put_rel DKey.kk (k := k) e1 rr rv fun k' hk' e => kk_inj (hT k' hk').1 hkt e
      refine ⟨_, _, .inl ⟨kvs, k.kk, ha, k1 hkt, hlen, rfl⟩, ⟨_, rfl, p1, rfl, fun x hx => ?_⟩, p2⟩
      rcases putDk_keys x hx with rfl | h
      · exact ⟨hkt, ok⟩
      · exact hT x h
end
section
variable {P : Pl} {n : Nat} {cal : Cal} {mak : Mak} {G : Ga} {X : Cx}
theorem plain_nosl {e : Expr} (h : plnB e = true) : NoSl e := by
  intro ov iv
  cases e <;> first | rfl | cases h
theorem hu1 (g : GX P n cal mak G X) : X.A.units + 1 < cLine := by have := hu_of' g.room; omega
theorem g_dget (g : GX P n cal mak G X) {x y : Expr} {a : R} {k : E} {pos : Pos} (ht : P.T.tupC = false) (hp : plnB y = true) (ha : PE X x (tR P cal mak a)) (hk : PE X y (tE P cal mak k)) : PE X (.Subscript x y pos) (tE P cal mak (.dget a k)) := by
  refine peI (pe_dget (hu1 g) ha hk (plain_nosl hp)) fun σ H Q ⟨W, ρ, μ, d, μ', w, en, ee, kk⟩ => ?_
  unfold ev at ee
  obtain ⟨x, e1, ee⟩ := bind_some' ee
  obtain ⟨y, e2, ee⟩ := bind_some' ee
  obtain ⟨d', e3, ee⟩ := bind_some' ee
  obtain ⟨p, e4, ee⟩ := bind_some' ee
  obtain ⟨ky, e5, ee⟩ := bind_some' ee
  split at ee
  · rename_i hT
    obtain ⟨v, e6, ee⟩ := bind_some' ee
    cases ee
    refine ⟨W, ρ, μ, x.1, x.2, w, en, e1, fun v1 W1 H1 x1 w1 r1 _ => ⟨W1, ρ, x.2, y.1, y.2, w1, en.ext x1 w, e2, fun v2 W2 H2 x2 w2 r2 => ?_⟩⟩
    obtain ⟨a, u, vs, rfl, rd, q, rr⟩ := (r1.ext x2 w1).dct w2 (show (x.1.top y.2).bind asDct = some p by rw [e3]; exact e4)
    obtain ⟨o, g1, g2, _⟩ := dget_rel ht rd q rr r2 e5 hT
    obtain ⟨z, rfl, rz⟩ := g2 _ e6
    exact ⟨a, z, rfl, g1, kk _ _ _ (x1.trans x2 w w1) w2 rz⟩
  · cases ee
theorem look_some {P : Pl} {W : Wo} {H : Hp} {k : DKey} {es : List (DKey × D)} {o : Option V} (g2 : ∀ d, lookD k es = some d → ∃ v, o = some v ∧ Rep P W H v d) (g3 : lookD k es = none → o = none) : o.isSome = (lookD k es).isSome := by
  cases h : lookD k es with
  | none => rw [g3 h]; rfl
  | some d => obtain ⟨v, rfl, _⟩ := g2 d h; rfl
theorem snd_cmp {a b : Expr} {op : CmpOp} {t : TE} {c : E} {pos : Pos} (h : PC X op a b t) (h1 : behindInMarks op b = false) (mk : ∀ σ H Q, tE P cal mak c σ H Q → t σ H Q) : Snd P cal mak X (.Compare a [op] [b] pos) c :=
  ⟨peI (pe_cmp h h1) mk, ptI (pt_cmp h h1) fun σ H Q ⟨W, ρ, μ, b, μ', w, en, ee, k⟩ => mk _ _ _ ⟨W, ρ, μ, .bl b, μ', w, en, ee, fun v W' H' x w' r => by cases r; exact ⟨b, rfl, k W' H' x w'⟩⟩, fun _ _ _ q => nomatch q⟩
theorem g_din (g : GX P n cal mak G X) {x y : Expr} {a : R} {k : E} {op : CmpOp} {neg : Bool} {pos : Pos} (hop : op = if neg = true then CmpOp.NotIn else CmpOp.In) (ht : P.T.tupC = false) (hp : plnB y = true) (hk : PE X x (tE P cal mak k)) (ha : PE X y (tR P cal mak a)) : Snd P cal mak X (.Compare x [op] [y] pos) (.din neg k a) := by
  subst hop
  have mk : ∀ σ H Q, tE P cal mak (.din neg k a) σ H Q → (tE P cal mak k σ H fun y H1 => tR P cal mak a σ H1 fun x H2 => ∃ b o, x = .ref b ∧ DGet H2 b y o ∧ Q (.bl (if neg = true then !o.isSome else o.isSome)) H2) := fun σ H Q ⟨W, ρ, μ, d, μ', w, en, ee, kk⟩ => by
    unfold ev at ee
    obtain ⟨y, e1, ee⟩ := bind_some' ee
    obtain ⟨x, e2, ee⟩ := bind_some' ee
    obtain ⟨d', e3, ee⟩ := bind_some' ee
    obtain ⟨p, e4, ee⟩ := bind_some' ee
    obtain ⟨ky, e5, ee⟩ := bind_some' ee
    split at ee
    · rename_i hT
      cases ee
      refine ⟨W, ρ, μ, y.1, y.2, w, en, e1, fun v1 W1 H1 x1 w1 r1 => ⟨W1, ρ, y.2, x.1, x.2, w1, en.ext x1 w, e2, fun v2 W2 H2 x2 w2 r2 _ => ?_⟩⟩
      obtain ⟨a, u, vs, rfl, rd, q, rr⟩ := r2.dct w2 (show (x.1.top x.2).bind asDct = some p by rw [e3]; exact e4)
      obtain ⟨o, g1, g2, g3⟩ := dget_rel ht rd q rr (r1.ext x2 w1) e5 hT
      refine ⟨a, o, rfl, g1, ?_⟩
      rw [look_some g2 g3]
      exact kk _ _ _ (x1.trans x2 w w1) w2 (.bl _)
    · cases ee
  cases neg with
  | true => exact snd_cmp (pc_dnotin (hu1 g) hk ha) (plain_mark hp) fun σ H Q q => mk σ H Q q
  | false => exact snd_cmp (pc_din (hu1 g) hk ha) (plain_mark hp) fun σ H Q q => mk σ H Q q
theorem g_dne (g : GX P n cal mak G X) {x : Expr} {a : R} {p1 pos : Pos} (ha : PE X x (tR P cal mak a)) : Snd P cal mak X (.Compare x [.NotEq] [.Dict [] [] p1] pos) (.dne a) := by
  refine snd_cmp (pc_neE (hu1 g) ha) (nobehind _ (by decide) (by decide)) fun σ H Q ⟨W, ρ, μ, d, μ', w, en, ee, kk⟩ => ?_
  unfold ev at ee
  obtain ⟨x, e1, ee⟩ := bind_some' ee
  obtain ⟨d', e3, ee⟩ := bind_some' ee
  obtain ⟨p, e4, ee⟩ := bind_some' ee
  cases ee
  refine ⟨W, ρ, μ, x.1, x.2, w, en, e1, fun v1 W1 H1 x1 w1 r1 _ => ?_⟩
  obtain ⟨a, u, vs, rfl, rd, q, rr⟩ := r1.dct w1 (show (x.1.top x.2).bind asDct = some p by rw [e3]; exact e4)
  obtain ⟨t, es⟩ := p
  have em : ∀ m : Nat, m = es.length → (!decide (m = 0)) = !es.isEmpty := fun m hm => by subst hm; cases es <;> rfl
  cases t with
  | true =>
    obtain ⟨kvs, rfl, e1, _⟩ := q
    refine ⟨a, rfl, .inl ⟨kvs, rd, ?_⟩⟩
    rw [em kvs.length (by have := congrArg List.length e1; simpa using this)]
    exact kk _ _ _ x1 w1 (.bl _)
  | false =>
    obtain ⟨kvs, rfl, e1, _⟩ := q
    refine ⟨a, rfl, .inr ⟨kvs, rd, ?_⟩⟩
    rw [em kvs.length (by have := congrArg List.length e1; simpa using this)]
    exact kk _ _ _ x1 w1 (.bl _)
theorem isD_of {P : Pl} {H : Hp} {a : Addr} {u : HO} {t : Bool} {ks : List DKey} {vs : List V} (rd : Rd H a u) (q : DHO t u ks vs) : IsD H a := by
  cases t with
  | true => obtain ⟨kvs, rfl, _⟩ := q; exact .inr ⟨_, rd⟩
  | false => obtain ⟨kvs, rfl, _⟩ := q; exact .inl ⟨_, rd⟩
theorem g_dgd (g : GX P n cal mak G X) {so y z : Expr} {a : R} {k c : E} {nm : Str} {ap cp : Pos} (ht : P.T.tupC = false) (hnm : nm = "get") (hp : plnB so = true) (hs1 : starB y = true) (hs2 : starB z = true) (hl : (ap.endLine == cp.line) = true) (ha : PE X so (tR P cal mak a)) (hk : PE X y (tE P cal mak k)) (hc : PE X z (tE P cal mak c)) :
    PE X (.Call (.Attribute so nm ap) [y, z] [] cp) (tE P cal mak (.dgd a k c)) := by
  subst hnm
  have tr : backTo cp (starEach [y, z] X.env) = [(false, eval y X.env), (false, eval z X.env)] := by rw [star_cons hs1, star_cons hs2]; rfl
  refine peI (pe_dget2 (hu1 g) ha hk hc ⟨plain_attr hp, by rw [tr]; rfl, hl, tr⟩) fun σ H Q ⟨W, ρ, μ, d, μ', w, en, ee, kk⟩ => ?_
  unfold ev at ee
  obtain ⟨x, e1, ee⟩ := bind_some' ee
  obtain ⟨d0, e7, ee⟩ := bind_some' ee
  obtain ⟨p0, e8, ee⟩ := bind_some' ee
  obtain ⟨y, e2, ee⟩ := bind_some' ee
  obtain ⟨z, e6, ee⟩ := bind_some' ee
  obtain ⟨d', e3, ee⟩ := bind_some' ee
  obtain ⟨p, e4, ee⟩ := bind_some' ee
  obtain ⟨ky, e5, ee⟩ := bind_some' ee
  split at ee
  · rename_i hT
    cases ee
    refine ⟨W, ρ, μ, x.1, x.2, w, en, e1, fun v1 W1 H1 x1 w1 r1 _ => ?_⟩
    obtain ⟨a, u, vs, rfl, rd, q, rr⟩ := r1.dct w1 (show (x.1.top x.2).bind asDct = some p0 by rw [e7]; exact e8)
    refine ⟨a, rfl, isD_of (P := P) rd q, W1, ρ, x.2, y.1, y.2, w1, en.ext x1 w, e2, fun v2 W2 H2 x2 w2 r2 => ⟨W2, ρ, y.2, z.1, z.2, w2, (en.ext x1 w).ext x2 w1, e6, fun v3 W3 H3 x3 w3 r3 => ?_⟩⟩
    obtain ⟨a', u', vs', ea, rd', q', rr'⟩ := ((r1.ext x2 w1).ext x3 w2).dct w3 (show (x.1.top z.2).bind asDct = some p by rw [e3]; exact e4)
    cases ea
    obtain ⟨o, g1, g2, g3⟩ := dget_rel ht rd' q' rr' (r2.ext x3 w2) e5 hT
    refine ⟨o, g1, ?_⟩
    have x13 := (x1.trans x2 w w1).trans x3 w w2
    cases hlk : lookD ky p.2 with
    | none =>
      rw [hlk] at kk
      rw [g3 hlk]
      exact kk _ _ _ x13 w3 r3
    | some d1 =>
      rw [hlk] at kk
      obtain ⟨v, rfl, rv⟩ := g2 d1 hlk
      exact kk _ _ _ x13 w3 rv
  · cases ee
theorem g_dct0 {t : Bool} {pos : Pos} : PE X (.Dict [] [] pos) (tO P cal mak (.dct0 t)) := by
  cases t with
  | true =>
    refine peI pe_dnewT fun σ H Q ⟨W, ρ, μ, d, μ', w, en, ee, k⟩ p hp => ?_
    unfold evO at ee
    cases ee
    obtain ⟨x2, w2⟩ := addO (o := .dT []) w hp
    obtain ⟨nF, nι⟩ := w.notp hp
    exact k p _ _ x2 w2 ⟨.dct (vs := []) upd_same ⟨[], rfl, rfl, rfl, fun _ h => nomatch h⟩ .nil, nF, nι⟩ hp
  | false =>
    refine peI pe_dnewK fun σ H Q ⟨W, ρ, μ, d, μ', w, en, ee, k⟩ p hp => ?_
    unfold evO at ee
    cases ee
    obtain ⟨x2, w2⟩ := addO (o := .dK []) w hp
    obtain ⟨nF, nι⟩ := w.notp hp
    exact k p _ _ x2 w2 ⟨.dct (vs := []) upd_same ⟨[], rfl, rfl, rfl, fun _ h => nomatch h⟩ .nil, nF, nι⟩ hp
theorem g_dct1 (g : GX P n cal mak G X) {x y : Expr} {k v : E} {pos : Pos} (ht : P.T.tupC = false) (hk : PE X x (tE P cal mak k)) (hv : PE X y (tE P cal mak v)) : PE X (.Dict [some x] [y] pos) (tO P cal mak (.dct1 k v)) := by
  refine peI (pe_disp1T (hu1 g) hk hv) fun σ H Q ⟨W, ρ, μ, d, μ', w, en, ee, kk⟩ p hp => ?_
  unfold evO at ee
  obtain ⟨y, e1, ee⟩ := bind_some' ee
  obtain ⟨z, e2, ee⟩ := bind_some' ee
  obtain ⟨ky, e3, ee⟩ := bind_some' ee
  split at ee
  · rename_i hT
    cases ee
    obtain ⟨x0, w0⟩ := addO (o := .dT []) w hp
    obtain ⟨nF, nι⟩ := w.notp hp
    have o0 : Own P W (upd H p (.dT [])) p (.dct true []) := ⟨.dct (vs := []) upd_same ⟨[], rfl, rfl, rfl, fun _ h => nomatch h⟩ .nil, nF, nι⟩
    refine ⟨W, ρ, μ, y.1, y.2, w0, en.ext x0 w, e1, fun v1 W1 H1 x1 w1 r1 => ⟨W1, ρ, y.2, z.1, z.2, w1, (en.ext x0 w).ext x1 w0, e2, fun v2 W2 H2 x2 w2 r2 => ?_⟩⟩
    obtain ⟨ok, _, k2⟩ := key_rep ht (r1.ext x2 w1) e3
    obtain ⟨b, rfl, hb⟩ := k2 hT
    have o2 := (o0.ext x1 w0).ext x2 w1
    have hp2 : H2 p = some (.dT []) := x2.old p _ (x1.old p _ upd_same nι) (o0.ext x1 w0).nc
    refine ⟨b, ky.tt, rfl, hb, hp2, ?_⟩
    have c2 : Cell P W2 (upd H2 p (.dT [(ky.tt, v2)])) p (.dct true [(ky, z.1)]) := by
      have kp : Keep W2 H2 W2 (upd H2 p (.dT [(ky.tt, v2)])) := ⟨fun _ h => h, fun b u ff h => by rw [upd_ne (show b ≠ p from fun e => o2.nf (e ▸ ff))]; exact h, [], by simp⟩
      exact .dct (vs := [v2]) upd_same ⟨_, rfl, rfl, rfl, fun x hx => by obtain rfl := List.mem_singleton.mp hx; exact ⟨hT, ok⟩⟩ (.cons (r2.keep kp) .nil)
    obtain ⟨w3, o3, kp3⟩ := Own.write w2 o2 c2
    exact kk p W2 _ (((x0.trans x1 w w0).trans x2 w w1).updNew hp) w3 o3 hp
  · cases ee
theorem g_dctS (g : GX P n cal mak G X) {x y : Expr} {k v : E} {pos : Pos} (ht : P.T.tupC = false) (hk : PE X x (tE P cal mak k)) (hv : PE X y (tE P cal mak v)) : PE X (.Dict [some x] [y] pos) (tO P cal mak (.dctS k v)) := by
  refine peI (pe_disp (pps_cons hk hv pps_nil) rfl rfl (by simp) (by simp)) fun σ H Q ⟨W, ρ, μ, d, μ', w, en, ee, kk⟩ p hp => ?_
  unfold evO at ee
  obtain ⟨y, e1, ee⟩ := bind_some' ee
  obtain ⟨z, e2, ee⟩ := bind_some' ee
  obtain ⟨ky, e3, ee⟩ := bind_some' ee
  split at ee
  · rename_i hT
    cases ee
    obtain ⟨x0, w0⟩ := addO (o := .dK []) w hp
    obtain ⟨nF, nι⟩ := w.notp hp
    have o0 : Own P W (upd H p (.dK [])) p (.dct false []) := ⟨.dct (vs := []) upd_same ⟨[], rfl, rfl, rfl, fun _ h => nomatch h⟩ .nil, nF, nι⟩
    refine ⟨W, ρ, μ, y.1, y.2, w0, en.ext x0 w, e1, fun v1 W1 H1 x1 w1 r1 => ⟨W1, ρ, y.2, z.1, z.2, w1, (en.ext x0 w).ext x1 w0, e2, fun v2 W2 H2 x2 w2 r2 => ?_⟩⟩
    obtain ⟨ok, k1, _⟩ := key_rep ht (r1.ext x2 w1) e3
    have o2 := (o0.ext x1 w0).ext x2 w1
    have hp2 : H2 p = some (.dK []) := x2.old p _ (x1.old p _ upd_same nι) (o0.ext x1 w0).nc
    refine ⟨hp2, [(ky.kk, v2)], by rw [k1 hT]; rfl, by simp, ?_⟩
    have c2 : Cell P W2 (upd H2 p (.dK (mergeK [] [(ky.kk, v2)]))) p (.dct false [(ky, z.1)]) := by
      have kp : Keep W2 H2 W2 (upd H2 p (.dK (mergeK [] [(ky.kk, v2)]))) := ⟨fun _ h => h, fun b u ff h => by rw [upd_ne (show b ≠ p from fun e => o2.nf (e ▸ ff))]; exact h, [], by simp⟩
      exact .dct (vs := [v2]) upd_same ⟨_, rfl, rfl, rfl, fun x hx => by obtain rfl := List.mem_singleton.mp hx; exact ⟨hT, ok⟩⟩ (.cons (r2.keep kp) .nil)
    obtain ⟨w3, o3, kp3⟩ := Own.write w2 o2 c2
    exact kk p W2 _ (((x0.trans x1 w w0).trans x2 w w1).updNew hp) w3 o3 hp
  · cases ee
theorem mergeK_new : ∀ {more acc : List (Key × V)}, (more.map (·.1)).Nodup → (∀ q ∈ more, ∀ p ∈ acc, p.1 ≠ q.1) → mergeK acc more = acc ++ more
  | [], acc, _, _ => by show acc = _; rw [List.append_nil]
  | q :: more, acc, nd, hn => by
    obtain ⟨n1, n2⟩ := List.nodup_cons.mp (show (q.1 :: more.map (·.1)).Nodup from nd)
    have e : putK acc q.1 q.2 = acc ++ [q] := by
      unfold putK
      rw [if_neg]
      intro z
      obtain ⟨p, hp, hz⟩ := List.any_eq_true.mp z
      exact hn q (.head _) p hp (of_decide_eq_true hz)
    show mergeK (putK acc q.1 q.2) more = _
    rw [e, mergeK_new n2 fun a ha p hp => ?_, List.append_assoc]
    · rfl
    · rcases List.mem_append.mp hp with hp | hp
      · exact hn a (.tail _ ha) p hp
      · rw [List.mem_singleton.mp hp]
        exact fun z => n1 (z ▸ List.mem_map.mpr ⟨a, ha, rfl⟩)
/-- the pairs of a display whose keys are written texts -/
structure Disp (P : Pl) (cal : Cal) (mak : Mak) (X : Cx) (pos : Pos) (ks : List Str) (es : Es) (keys : List (Option Expr)) (xs : List Expr) (trs : List (TE × TE)) : Prop where
  pps : PPs X pos keys xs trs
  tok : ∀ k ∈ ks, sok k = true
  run : ∀ (σ : L2.St) (H : Hp) (Q : List (V × V) → Hp → Prop), (∃ (W : Wo) (ρ : Rho) (μ : Sto) (d : List D) (μ' : Sto), Wd P W H μ ∧ En P W H σ ρ ∧ evs P.T cal mak es ρ μ = some (d, μ') ∧
    ∀ vs W' H', Ext W H W' H' → Wd P W' H' μ' → RepL P W' H' vs d → Q ((ks.map V.str).zip vs) H') → tPairs trs σ H Q
theorem disp_nil {pos : Pos} : Disp P cal mak X pos [] .nil [] [] [] := ⟨pps_nil, fun _ h => (nomatch h), fun σ H Q ⟨W, ρ, μ, d, μ', w, en, ee, k⟩ => by
  unfold evs at ee
  cases ee
  exact k [] W H .refl w .nil⟩
theorem disp_cons {pos p : Pos} {j : Nat} {k : Str} {c : Const} {e : E} {x : Expr} {ks : List Str} {es : Es} {keys : List (Option Expr)} {xs : List Expr} {trs : List (TE × TE)} (hc : constB (.str k) c = true) (he : PE X x (tE P cal mak e)) (D : Disp P cal mak X pos ks es keys xs trs) :
    ∃ trs, Disp P cal mak X pos (k :: ks) (.cons e es) (some (.Constant c j p) :: keys) (x :: xs) trs := by
  obtain ⟨v, hv, hr⟩ := const_rep (P := P) (X := X) (j := j) (pos := p) hc
  have r0 := hr ⟨fun _ => False, []⟩ (fun _ => none)
  cases r0 with
  | str _ hk =>
    refine ⟨_, pps_cons hv he D.pps, fun z hz => ?_, fun σ H Q ⟨W, ρ, μ, d, μ', w, en, ee, kk⟩ => ?_⟩
    · rcases List.mem_cons.mp hz with rfl | hz
      · exact hk
      · exact D.tok z hz
    · unfold evs at ee
      obtain ⟨y, e1, ee⟩ := bind_some' ee
      obtain ⟨ys, e2, ee⟩ := bind_some' ee
      cases ee
      exact ⟨W, ρ, μ, y.1, y.2, w, en, e1, fun v1 W1 H1 x1 w1 r1 => D.run σ H1 _ ⟨W1, ρ, y.2, ys.1, ys.2, w1, en.ext x1 w, e2, fun vs W' H' x' w' rr => kk (v1 :: vs) W' H' (x1.trans x' w w1) w' (.cons (r1.ext x' w1) rr)⟩⟩
theorem keysB_all : ∀ {ks : List Str} {keys : List (Option Expr)}, keysB ks keys = true → keys.all (·.isSome) = true ∧ keys.length = ks.length
  | [], [], _ => ⟨rfl, rfl⟩
  | [], _ :: _, h => by cases h
  | _ :: _, [], h => by cases h
  | k :: ks, e :: es, h => by
    unfold keysB at h
    obtain ⟨h1, h2⟩ := ba h
    obtain ⟨i1, i2⟩ := keysB_all h2
    cases e with
    | none => cases h1
    | some e => exact ⟨by rw [List.all_cons, i1]; rfl, by rw [List.length_cons, List.length_cons, i2]⟩
theorem g_dctC (g : GX P n cal mak G X) {ks : List Str} {es : Es} {keys : List (Option Expr)} {xs : List Expr} {trs : List (TE × TE)} {pos : Pos} (D : Disp P cal mak X pos ks es keys xs trs) (hk : keysB ks keys = true) (hl : keys.length = xs.length) (h15 : ks.length ≤ 15) (h0 : ks ≠ []) :
    PE X (.Dict keys xs pos) (tO P cal mak (.dctC ks es)) := by
  obtain ⟨a1, a2⟩ := keysB_all hk
  refine peI (pe_disp D.pps a1 hl (fun z => h0 (List.length_eq_zero_iff.mp (by rw [← a2, z]; rfl))) (by omega)) fun σ H Q ⟨W, ρ, μ, d, μ', w, en, ee, kk⟩ p hp => ?_
  unfold evO at ee
  obtain ⟨y, e1, ee⟩ := bind_some' ee
  split at ee
  · rename_i hc
    cases ee
    obtain ⟨x0, w0⟩ := addO (o := .dK []) w hp
    obtain ⟨nF, nι⟩ := w.notp hp
    have o0 : Own P W (upd H p (.dK [])) p (.dct false []) := ⟨.dct (vs := []) upd_same ⟨[], rfl, rfl, rfl, fun _ h => nomatch h⟩ .nil, nF, nι⟩
    refine D.run σ _ _ ⟨W, ρ, μ, y.1, y.2, w0, en.ext x0 w, e1, fun vs W2 H2 x2 w2 rl => ?_⟩
    have o2 := o0.ext x2 w0
    have hp2 : H2 p = some (.dK []) := x2.old p _ upd_same nι
    have hlen := rl.len
    have kn : ((ks.map (Sum.inr : Str → Key)).zip vs).map (·.1) = ks.map Sum.inr := List.map_fst_zip (by rw [List.length_map]; omega)
    have vn : ((ks.map (Sum.inr : Str → Key)).zip vs).map (·.2) = vs := List.map_snd_zip (by rw [List.length_map]; omega)
    have nd : (ks.map (Sum.inr : Str → Key)).Nodup := List.Pairwise.map _ (fun a b (h : a ≠ b) z => h (Sum.inr.inj z)) hc.2
    have em : mergeK [] ((ks.map (Sum.inr : Str → Key)).zip vs) = (ks.map Sum.inr).zip vs := by
      rw [mergeK_new (acc := []) (by rw [kn]; exact nd) (fun _ _ _ h => nomatch h), List.nil_append]
    refine ⟨hp2, (ks.map (Sum.inr : Str → Key)).zip vs, ?_, by rw [List.length_zip, List.length_map]; omega, ?_⟩
    · rw [List.zip_map_left, List.zip_map_left, List.map_map]; rfl
    · rw [em]
      have en2 : ((ks.map DKey.s).zip y.1).map Prod.fst = ks.map DKey.s := List.map_fst_zip (by rw [List.length_map]; omega)
      have ev2 : ((ks.map DKey.s).zip y.1).map Prod.snd = y.1 := List.map_snd_zip (by rw [List.length_map]; omega)
      have c2 : Cell P W2 (upd H2 p (.dK ((ks.map (Sum.inr : Str → Key)).zip vs))) p (.dct false ((ks.map DKey.s).zip y.1)) := by
        have kp : Keep W2 H2 W2 (upd H2 p (.dK ((ks.map (Sum.inr : Str → Key)).zip vs))) := ⟨fun _ h => h, fun b u ff h => by rw [upd_ne (show b ≠ p from fun e => o2.nf (e ▸ ff))]; exact h, [], by simp⟩
        refine .dct (vs := vs) upd_same ⟨_, rfl, ?_, vn, fun k hk => ?_⟩ ?_
        · rw [en2, kn, List.map_map]; rfl
        · rw [en2] at hk
          obtain ⟨z, hz, rfl⟩ := List.mem_map.mp hk
          exact ⟨rfl, D.tok z hz⟩
        · rw [ev2]; exact rl.keep kp
      obtain ⟨w3, o3, kp3⟩ := Own.write w2 o2 c2
      exact kk p W2 _ ((x0.trans x2 w w0).updNew hp) w3 o3 hp
  · cases ee
theorem pairs_rel {W : Wo} {H : Hp} (ht : P.T.tupC = false) : ∀ {vs : List V} {xs : List D} {kvs : List (DKey × D)}, RepL P W H vs xs → pairsD xs = some kvs → kvs.all (fun p => !p.1.isT) = true → ∃ (ps : List Addr) (ws : List V), vs = ps.map V.ref ∧ ws.length = kvs.length ∧ Paired (fun p kv => SqT P.K H p [kV kv.1, kv.2]) ps ((kvs.map fun q => q.1.kk).zip ws) ∧ RepL P W H ws (kvs.map (·.2)) ∧ ∀ q ∈ kvs.map (·.1), q.isT = false ∧ q.ok = true
  | _, _, _, .nil, h, _ => by
    cases h
    exact ⟨[], [], rfl, rfl, .nil, .nil, fun _ h => nomatch h⟩
  | _, _, kvs, .cons (d := d) r t, h, ha => by
    cases d <;> first | (cases h; done) | skip
    rename_i ys
    match ys, h, r with
    | [k, v], h, r =>
      obtain ⟨kk, e1, h⟩ := bind_some' (show (keyD k).bind _ = some _ from h)
      obtain ⟨l, e2, h⟩ := bind_some' h
      cases h
      rw [List.all_cons, Bool.and_eq_true] at ha
      obtain ⟨ps, ws, q1, q2, q3, q4, q5⟩ := pairs_rel ht t e2 ha.2
      have hT : kk.isT = false := by simpa using ha.1
      cases r with
      | @tup b us _ s f z rl =>
        cases rl with
        | @cons a1 _ _ _ r1 rl =>
          cases rl with
          | @cons a2 _ _ _ r2 rl =>
            cases rl
            obtain ⟨ok, k1, _⟩ := key_rep ht r1 e1
            refine ⟨b :: ps, a2 :: ws, by rw [q1]; rfl, by simp [q2], .cons (by show SqT P.K H b [kV kk.kk, a2]; rw [← k1 hT]; exact s) q3, .cons r2 q4, fun q hq => ?_⟩
            rcases List.mem_cons.mp hq with rfl | hq
            · exact ⟨hT, ok⟩
            · exact q5 q hq
    | [], h, _ => cases h
    | [_], h, _ => cases h
    | _ :: _ :: _ :: _, h, _ => cases h
theorem kk_nodup : ∀ {ks : List DKey}, ks.Nodup → (∀ q ∈ ks, q.isT = false) → (ks.map DKey.kk).Nodup
  | [], _, _ => List.nodup_nil
  | k :: ks, nd, h => by
    obtain ⟨n1, n2⟩ := List.nodup_cons.mp nd
    refine List.nodup_cons.mpr ⟨fun z => ?_, kk_nodup n2 fun q hq => h q (.tail _ hq)⟩
    obtain ⟨q, hq, e⟩ := List.mem_map.mp z
    exact n1 (kk_inj (h q (.tail _ hq)) (h k (.head _)) e ▸ hq)
theorem g_dctL (g : GX P n cal mak G X) {x : Str} {y : Expr} {a : R} {p pos : Pos} (hx : x = "dict") (gl : Gl X x) (hs : starB y = true) (ht : P.T.tupC = false) (hy : PE X y (tR P cal mak a)) : PE X (.Call (.Name x p) [y] [] pos) (tO P cal mak (.dctL a)) := by
  subst hx
  refine peI (pe_callTy (T := "dict") (call_dictP g.calm) gl (g.fr _ (by decide +kernel)) (by decide +kernel) (pa_cons hy pa_nil (star_cons hs)) (by decide +kernel) (by decide +kernel) (star_cons hs) rfl) fun σ H Q ⟨W, ρ, μ, d, μ', w, en, ee, k⟩ => ?_
  unfold evO at ee
  obtain ⟨x, e1, ee⟩ := bind_some' ee
  obtain ⟨d', e4, ee⟩ := bind_some' ee
  obtain ⟨xs, e5, ee⟩ := bind_some' ee
  obtain ⟨kvs, e6, ee⟩ := bind_some' ee
  split at ee
  · rename_i hc
    cases ee
    refine ⟨W, ρ, μ, x.1, x.2, w, en, e1, fun v W1 H1 x1 w1 r1 _ => ?_⟩
    obtain ⟨b, vs, rfl, q1, l1, z1⟩ := r1.lst w1 (show (x.1.top x.2).bind asLst = some xs by rw [e4]; exact e5)
    obtain ⟨ps, ws, p1, p2, p3, p4, p5⟩ := pairs_rel ht l1 e6 hc.2
    have kn : ((kvs.map fun q => q.1.kk).zip ws).map (·.1) = (kvs.map (·.1)).map DKey.kk := by
      rw [List.map_fst_zip (by rw [List.length_map, p2]; exact Nat.le_refl _), List.map_map]; rfl
    have em : mergeK [] ((kvs.map fun q => q.1.kk).zip ws) = (kvs.map fun q => q.1.kk).zip ws := by
      rw [mergeK_new (acc := []) (by rw [kn]; exact kk_nodup hc.1 fun q hq => (p5 q hq).1) (fun _ _ _ h => nomatch h), List.nil_append]
    refine ⟨b, ps, _, rfl, p1 ▸ g.K ▸ q1, g.K ▸ p3, fun q hq => ?_⟩
    rw [em]
    obtain ⟨x2, w2⟩ := addO (o := .dK ((kvs.map fun q => q.1.kk).zip ws)) w1 hq
    obtain ⟨nF, nι⟩ := w1.notp hq
    exact k q _ _ (x1.tr x2 w1) w2 ⟨.dct (vs := ws) upd_same ⟨_, rfl, kn, List.map_snd_zip (by rw [List.length_map, p2]; exact Nat.le_refl _), p5⟩ (p4.ext x2 w1), nF, nι⟩ (x1.free w1 hq)
  · cases ee
theorem g_dcp (g : GX P n cal mak G X) {x : Str} {y : Expr} {a : R} {p pos : Pos} (hx : x = "dict") (gl : Gl X x) (hs : starB y = true) (hy : PE X y (tR P cal mak a)) : PE X (.Call (.Name x p) [y] [] pos) (tO P cal mak (.dcp a)) := by
  subst hx
  refine peI (pe_callTy (T := "dict") call_dictD gl (g.fr _ (by decide +kernel)) (by decide +kernel) (pa_cons hy pa_nil (star_cons hs)) (by decide +kernel) (by decide +kernel) (star_cons hs) rfl) fun σ H Q ⟨W, ρ, μ, d, μ', w, en, ee, k⟩ => ?_
  unfold evO at ee
  obtain ⟨x, e1, ee⟩ := bind_some' ee
  obtain ⟨d', e4, ee⟩ := bind_some' ee
  obtain ⟨p, e5, ee⟩ := bind_some' ee
  split at ee
  · rename_i hc
    cases ee
    refine ⟨W, ρ, μ, x.1, x.2, w, en, e1, fun v W1 H1 x1 w1 r1 _ => ?_⟩
    obtain ⟨a, u, vs, rfl, rd, q, rr⟩ := r1.dct w1 (show (x.1.top x.2).bind asDct = some p by rw [e4]; exact e5)
    rw [hc] at q
    obtain ⟨kvs, rfl, q1, q2, q3⟩ := q
    refine ⟨a, kvs, rfl, rd, fun b hb => ?_⟩
    obtain ⟨x2, w2⟩ := addO (o := .dK kvs) w1 hb
    obtain ⟨nF, nι⟩ := w1.notp hb
    exact k b _ _ (x1.tr x2 w1) w2 ⟨.dct (vs := vs) upd_same ⟨kvs, rfl, q1, q2, q3⟩ (rr.ext x2 w1), nF, nι⟩ (x1.free w1 hb)
  · cases ee
theorem keyStrs_of : ∀ {ks : List DKey} {ss : List Str}, keyStrs ks = some ss → ks = ss.map DKey.s
  | [], ss, h => by cases h; rfl
  | k :: r, ss, h => by
    cases k <;> first | (cases h; done) | skip
    obtain ⟨l, e1, e2⟩ := bind_some' (show (keyStrs r).bind _ = some ss from h)
    cases e2
    rw [keyStrs_of e1]
    rfl
theorem addT {P : Pl} {W : Wo} {H : Hp} {μ : Sto} {q : Addr} {xs : List V} (w : Wd P W H μ) (hq : H q = some (.tup xs)) : Ext W H (W.add q) H ∧ Wd P (W.add q) H μ := by
  have k : Keep W H (W.add q) H := ⟨fun _ h => .inl h, fun _ _ _ h => h, [], by simp [Wo.add]⟩
  have nc : q ∉ W.ι := fun hz => by
    obtain ⟨n, hn⟩ := List.getElem?_of_mem hz
    have hl : n < μ.length := by rw [← w.len]; exact (List.getElem?_eq_some_iff.mp hn).1
    exact (w.cell n q _ hn (List.getElem?_eq_getElem hl)).nt hq
  refine ⟨⟨fun _ h => .inl h, fun a h => ?_, fun _ _ h _ => h, ⟨[], by simp [Wo.add]⟩, fun _ h => .inl h⟩, ⟨w.len, w.nd, fun a h z => ?_, fun a h => ?_, fun n a d h1 h2 => (w.cell n a d h1 h2).keep k fun _ h => h⟩⟩
  · rcases h with h | h
    · exact .inl h
    · subst h; exact .inr (.inr ⟨xs, hq⟩)
  · rcases z with z | z
    · exact w.nf a h z
    · subst z; exact nc h
  · rcases h with h | h
    · exact w.tr a h
    · subst h; rw [hq]; exact fun z => nomatch z
theorem dho_len {t : Bool} {u : HO} {ks : List DKey} {vs : List V} (q : DHO t u ks vs) : sizeD u = ks.length := by
  cases t with
  | true => obtain ⟨kvs, rfl, e, _⟩ := q; have := congrArg List.length e; simpa [sizeD] using this
  | false => obtain ⟨kvs, rfl, e, _⟩ := q; have := congrArg List.length e; simpa [sizeD] using this
theorem repl_sok {P : Pl} {W : Wo} {H : Hp} : ∀ {ss : List Str}, ss.all sok = true → RepL P W H (ss.map V.str) (ss.map D.str)
  | [], _ => .nil
  | s :: r, h => by
    rw [List.all_cons, Bool.and_eq_true] at h
    exact .cons (.str s h.1) (repl_sok h.2)
/-- the pairs of a dict that never changes -/
theorem wk_dct {P : Pl} {W1 : Wo} {H1 : Hp} {a : Addr} {o : Obj} {u : HO} {t : Bool} {es : List (DKey × D)} {vs : List V} (ha : H1 a = some (.frz o u)) (q : DHO t u (es.map Prod.fst) vs) (f : W1.F a) (rr : RepL P W1 H1 vs (es.map Prod.snd)) :
    Wk P W1 H1 [] none (es.map fun p => D.tup [p.1.d, p.2]) (ItA a o u) := by
  intro i W H μ kp _ w _
  have hz := dho_len q
  rw [List.length_map] at hz
  have ha2 := kp.rd _ _ f ha
  rw [List.length_map]
  refine ⟨fun hi => ⟨⟨ha2, by omega⟩, fun x H3 hy => ?_⟩, fun hi => ⟨ha2, by omega⟩⟩
  obtain ⟨T, k, v, ⟨rfl, hT, rfl⟩, hp⟩ := hy
  obtain ⟨p, hpi⟩ : ∃ p, es[i]? = some p := ⟨_, List.getElem?_eq_getElem hi⟩
  obtain ⟨v', hv', rv⟩ := (rr.keep kp).get (i := i) (d := p.2) (by rw [List.getElem?_map, hpi]; rfl)
  have step : ∀ {W2 : Wo}, Ext W H W2 H → Wd P W2 H μ → Rep P W2 H k p.1.d → v = v' → ∃ W3 d, Ext W H W3 (upd H T (.tup [k, v])) ∧ Wd P W3 (upd H T (.tup [k, v])) μ ∧ (es.map fun p => D.tup [p.1.d, p.2])[i]? = some d ∧ Rep P W3 (upd H T (.tup [k, v])) (.ref T) d := fun {W2} x2 w2 rk ev => by
    subst ev
    obtain ⟨x3, w3⟩ := addF (o := .tup [k, v]) w2 hT
    exact ⟨_, .tup [p.1.d, p.2], x2.trans x3 w w2, w3, by rw [List.getElem?_map, hpi]; rfl, .tup (.inl (.inl upd_same)) (.inl ⟨.inr rfl, upd_same⟩) (show 2 ≤ LIM by decide) (.cons (rk.ext x3 w2) (.cons ((rv.ext x2 w).ext x3 w2) .nil))⟩
  cases t with
  | false =>
    obtain ⟨kvs, rfl, e1, e2, hK⟩ := q
    rcases hp with ⟨kvs', kk, e, hk, rfl⟩ | ⟨_, _, _, e, _⟩
    · cases e
      have h1 : (kvs.map (·.1))[i]? = some kk := by rw [List.getElem?_map, hk]; rfl
      have h2 : (kvs.map (·.2))[i]? = some v := by rw [List.getElem?_map, hk]; rfl
      rw [e1, List.getElem?_map, List.getElem?_map, hpi] at h1
      rw [e2, hv'] at h2
      cases h1
      cases h2
      obtain ⟨k1, k2⟩ := hK p.1 (List.mem_map.mpr ⟨p, List.mem_of_getElem? hpi, rfl⟩)
      refine step .refl w ?_ rfl
      cases hp1 : p.1 with
      | s z => rw [hp1] at k2; exact .str z k2
      | i n => exact .int n
      | t xs => rw [hp1] at k1; cases k1
    · cases e
  | true =>
    obtain ⟨kvs, rfl, e1, e2, hK⟩ := q
    rcases hp with ⟨_, _, e, _⟩ | ⟨kvs', kk, b, e, hk, rfl, hb⟩
    · cases e
    · cases e
      have h1 : (kvs.map (·.1))[i]? = some kk := by rw [List.getElem?_map, hk]; rfl
      have h2 : (kvs.map (·.2))[i]? = some v := by rw [List.getElem?_map, hk]; rfl
      rw [e1, List.getElem?_map, List.getElem?_map, hpi] at h1
      rw [e2, hv'] at h2
      cases h1
      cases h2
      obtain ⟨k1, k2⟩ := hK p.1 (List.mem_map.mpr ⟨p, List.mem_of_getElem? hpi, rfl⟩)
      obtain ⟨x2, w2⟩ := addT w hb
      refine step x2 w2 ?_ rfl
      cases hp1 : p.1 with
      | s z => rw [hp1] at k1; cases k1
      | i n => rw [hp1] at k1; cases k1
      | t xs =>
        rw [hp1] at k2 hb
        have k2 : (xs.all sok && decide (xs.length ≤ LIM)) = true := k2
        rw [Bool.and_eq_true] at k2
        have hb : H b = some (.tup ((xs.map Sum.inr : List Key).map kV)) := hb
        rw [map_inr] at hb
        exact .tup (.inl (.inl hb)) (.inl ⟨.inr rfl, hb⟩) (by rw [List.length_map]; exact of_decide_eq_true k2.2) (repl_sok k2.1)
theorem g_items (g : GX P n cal mak G X) {so : Expr} {a : E} {nm : Str} {ap cp tp : Pos} {elts : List Expr} {kk : Nat} (hnm : nm = "items") (hp : plnB so = true) (hl : (ap.endLine == cp.line) = true) (ha : PE X so (tE P cal mak a)) :
    PI X (.Tuple elts kk tp) (.Call (.Attribute so nm ap) [] [] cp) (tI P cal mak (.items a)) := by
  subst hnm
  refine piI (pi_itA ha (plain_attr hp) hl) fun σ H Rr ⟨W, ρ, μ, xs, gd, μ', w, en, ee, k⟩ => ?_
  unfold evI at ee
  obtain ⟨x, e1, ee⟩ := bind_some' ee
  split at ee
  · rename_i t es hx
    split at ee
    · rename_i hlen
      cases ee
      refine ⟨W, ρ, μ, x.1, x.2, w, en, e1, fun v W1 H1 x1 w1 r1 => ?_⟩
      rw [hx] at r1
      cases r1 with
      | @dct a o u _ vs _ hh q f rr =>
        exact ⟨a, u, rfl, dho_dct q, .inl ⟨o, hh, k W1 H1 _ [] x1 w1 (fun _ => rfl) (fun _ h => nomatch h) (wk_dct hh q f rr) (by rw [List.length_map]; exact hlen)⟩⟩
    · cases ee
  · cases ee
/-- the keys of a dict that never changes -/
theorem wk_keys {P : Pl} {W1 : Wo} {H1 : Hp} {a : Addr} {o : Obj} {kvs : List (Key × V)} {es : List (DKey × D)} {vs : List V} (ha : H1 a = some (.frz o (.dK kvs))) (q : DHO false (.dK kvs) (es.map Prod.fst) vs) (f : W1.F a) :
    Wk P W1 H1 [] none (es.map fun p => p.1.d) (Itk a o kvs) := by
  intro i W H μ kp _ w _
  obtain ⟨kvs', e0, e1, e2, hK⟩ := q
  cases e0
  have hz : kvs.length = es.length := by have := congrArg List.length e1; simpa using this
  have ha2 := kp.rd _ _ f ha
  rw [List.length_map]
  refine ⟨fun hi => ⟨⟨ha2, by omega⟩, fun x H3 hy => ?_⟩, fun hi => ⟨ha2, by omega⟩⟩
  obtain ⟨p, hpi⟩ : ∃ p, es[i]? = some p := ⟨_, List.getElem?_eq_getElem hi⟩
  obtain ⟨rfl, k, v, hk, rfl⟩ := hy
  have h1 : (kvs.map (·.1))[i]? = some k := by rw [List.getElem?_map, hk]; rfl
  rw [e1, List.getElem?_map, List.getElem?_map, hpi] at h1
  cases h1
  obtain ⟨k1, k2⟩ := hK p.1 (List.mem_map.mpr ⟨p, List.mem_of_getElem? hpi, rfl⟩)
  refine ⟨W, p.1.d, .refl, w, by rw [List.getElem?_map, hpi]; rfl, ?_⟩
  cases hp1 : p.1 with
  | s z => rw [hp1] at k2; exact .str z k2
  | i n => exact .int n
  | t xs => rw [hp1] at k1; cases k1
theorem wk_keysT {P : Pl} {W1 : Wo} {H1 : Hp} {a : Addr} {o : Obj} {kvs : List (List Key × V)} {es : List (DKey × D)} {vs : List V} (ha : H1 a = some (.frz o (.dT kvs))) (q : DHO true (.dT kvs) (es.map Prod.fst) vs) (f : W1.F a) :
    Wk P W1 H1 [] none (es.map fun p => p.1.d) (Itkt a o kvs) := by
  intro i W H μ kp _ w _
  obtain ⟨kvs', e0, e1, e2, hK⟩ := q
  cases e0
  have hz : kvs.length = es.length := by have := congrArg List.length e1; simpa using this
  have ha2 := kp.rd _ _ f ha
  rw [List.length_map]
  refine ⟨fun hi => ⟨⟨ha2, by omega⟩, fun x H3 hy => ?_⟩, fun hi => ⟨ha2, by omega⟩⟩
  obtain ⟨p, hpi⟩ : ∃ p, es[i]? = some p := ⟨_, List.getElem?_eq_getElem hi⟩
  obtain ⟨rfl, k, v, b, hk, rfl, hb⟩ := hy
  have h1 : (kvs.map (·.1))[i]? = some k := by rw [List.getElem?_map, hk]; rfl
  rw [e1, List.getElem?_map, List.getElem?_map, hpi] at h1
  cases h1
  obtain ⟨k1, k2⟩ := hK p.1 (List.mem_map.mpr ⟨p, List.mem_of_getElem? hpi, rfl⟩)
  obtain ⟨x2, w2⟩ := addT w hb
  refine ⟨_, p.1.d, x2, w2, by rw [List.getElem?_map, hpi]; rfl, ?_⟩
  cases hp1 : p.1 with
  | s z => rw [hp1] at k1; cases k1
  | i n => rw [hp1] at k1; cases k1
  | t xs =>
    rw [hp1] at k2 hb
    have k2 : (xs.all sok && decide (xs.length ≤ LIM)) = true := k2
    rw [Bool.and_eq_true] at k2
    have hb : H3 _ = some (HO.tup ((xs.map Sum.inr : List Key).map kV)) := hb
    rw [map_inr] at hb
    exact .tup (.inl (.inl hb)) (.inl ⟨.inr rfl, hb⟩) (by rw [List.length_map]; exact of_decide_eq_true k2.2) (repl_sok k2.1)
theorem g_keys (g : GX P n cal mak G X) {so tg : Expr} {a : E} (ha : PE X so (tE P cal mak a)) : PI X tg so (tI P cal mak (.keys a)) := by
  refine piI (pi_keys ha) fun σ H Rr ⟨W, ρ, μ, xs, gd, μ', w, en, ee, k⟩ => ?_
  unfold evI at ee
  obtain ⟨x, e1, ee⟩ := bind_some' ee
  split at ee
  · rename_i t es hx
    split at ee
    · rename_i hlen
      cases ee
      refine ⟨W, ρ, μ, x.1, x.2, w, en, e1, fun v W1 H1 x1 w1 r1 => ?_⟩
      rw [hx] at r1
      cases r1 with
      | @dct a o u _ vs _ hh q f rr =>
        refine ⟨a, o, rfl, ?_⟩
        cases t with
        | false =>
          obtain ⟨kvs, rfl, _⟩ := id q
          exact .inl ⟨kvs, hh, k W1 H1 _ [] x1 w1 (fun _ => rfl) (fun _ h => nomatch h) (wk_keys hh q f) (by rw [List.length_map]; exact hlen)⟩
        | true =>
          obtain ⟨kvs, rfl, _⟩ := id q
          exact .inr ⟨kvs, hh, k W1 H1 _ [] x1 w1 (fun _ => rfl) (fun _ h => nomatch h) (wk_keysT hh q f) (by rw [List.length_map]; exact hlen)⟩
    · cases ee
  · cases ee
theorem g_itemsO (g : GX P n cal mak G X) {so : Expr} {a : O} {nm : Str} {ap cp tp : Pos} {elts : List Expr} {kk : Nat} (hnm : nm = "items") (hp : plnB so = true) (hl : (ap.endLine == cp.line) = true) (ha : PE X so (tO P cal mak a)) :
    PI X (.Tuple elts kk tp) (.Call (.Attribute so nm ap) [] [] cp) (tI P cal mak (.itemsO a)) := by
  subst hnm
  refine piI (pi_itA ha (plain_attr hp) hl) fun σ H Rr ⟨W, ρ, μ, xs, gd, μ', w, en, ee, k⟩ => ?_
  unfold evI at ee
  obtain ⟨x, e1, ee⟩ := bind_some' ee
  split at ee
  · rename_i t es hx
    split at ee
    · rename_i hlen
      cases ee
      refine ⟨W, ρ, μ, x.1, x.2, w, en, e1, fun a W1 H1 x1 w1 o1 hn => ?_⟩
      rw [hx] at o1
      obtain ⟨u, h1, h2, h3⟩ := o1.lockF w1
      refine ⟨a, u, rfl, h2, .inr ⟨h1, fun o => ?_⟩⟩
      obtain ⟨w2, r2⟩ := h3 o
      have x2 := x1.addFu (H'' := upd H1 a (.frz o u)) hn (fun b hb => upd_ne hb)
      cases r2 with
      | dct hh q f rr =>
        have e : upd H1 a (.frz o u) a = some (.frz o u) := upd_same
        rw [hh] at e
        cases e
        exact k _ _ _ [] x2 w2 (fun _ => rfl) (fun _ h => nomatch h) (wk_dct hh q f rr) (by rw [List.length_map]; exact hlen)
    · cases ee
  · cases ee
/-! tables of the module -/
theorem tbF_some {T : Tab} {g : Nat} {d : D} {o : Option Nat} (h : T.tbF g d = some o) : ∃ z x kvs, d = .str z ∧ T.tbl[g]? = some (x, kvs) ∧ o = tbLook kvs z := by
  unfold Tab.tbF at h
  split at h
  · obtain ⟨t, h1, h2⟩ := Option.map_eq_some_iff.mp h
    exact ⟨_, t.1, t.2, rfl, h1, h2.symm⟩
  · cases h
theorem g_tget (g : GX P n cal mak G X) {x : Str} {y : Expr} {j : Nat} {k : E} {p pos : Pos} {kvs : List (Str × Nat)} (h1 : P.T.tbl[j]? = some (x, kvs)) (h2 : glB G.sc x = true) (h3 : nmOk x = true) (hp : plnB y = true) (hk : PE X y (tE P cal mak k)) : PE X (.Subscript (.Name x p) y pos) (tE P cal mak (.tget j k)) := by
  obtain ⟨d1, d2, _⟩ := nmOk_of h3
  obtain ⟨a, es, m, hm, kd, hv⟩ := g.tb j x kvs h1
  refine peI (pe_ix ix_kdict (pe_glob (v := .ref a) (g.gl h2) hm rfl d1) hk (plain_ix hp)) fun σ H Q ⟨W, ρ, μ, d, μ', w, en, ee, kk⟩ => ?_
  unfold ev at ee
  obtain ⟨y, e1, ee⟩ := bind_some' ee
  obtain ⟨o, e2, ee⟩ := bind_some' ee
  obtain ⟨f, e3, ee⟩ := bind_some' ee
  cases ee
  obtain ⟨z, x', kvs', e4, e5, e6⟩ := tbF_some e2
  rw [h1] at e5
  cases e5
  obtain ⟨q1, q2⟩ := (hv z).1 f (e6 ▸ e3)
  refine ⟨W, ρ, μ, y.1, y.2, w, en, e1, fun v1 W1 H1 x1 w1 r1 => ?_⟩
  rw [e4] at r1
  cases r1 with
  | str _ _ => exact ⟨a, z, .ref (P.fa f), rfl, rfl, ⟨es, m, _, g.K ▸ kd.at_, kd.lit, g.K ▸ q1, rfl⟩, kk _ W1 H1 x1 w1 (.fn f q2)⟩
theorem g_tin (g : GX P n cal mak G X) {x : Str} {y : Expr} {j : Nat} {k : E} {op : CmpOp} {neg : Bool} {p pos : Pos} {kvs : List (Str × Nat)} (hop : op = if neg = true then CmpOp.NotIn else CmpOp.In) (h1 : P.T.tbl[j]? = some (x, kvs)) (h2 : glB G.sc x = true) (h3 : nmOk x = true) (hk : PE X y (tE P cal mak k)) :
    Snd P cal mak X (.Compare y [op] [.Name x p] pos) (.tin neg k j) := by
  obtain ⟨d1, d2, _⟩ := nmOk_of h3
  obtain ⟨a, es, m, hm, kd, hv⟩ := g.tb j x kvs h1
  have kd' : KDict X.K X.w a es m := by rw [g.K]; exact kd
  have hn : PE X (.Name x p) (tC (.ref a)) := pe_glob (v := .ref a) (g.gl h2) hm rfl d1
  have mk : ∀ σ H Q, tE P cal mak (.tin neg k j) σ H Q → tOp (fun x y H Q => ∃ (z : Str) (r : Option Value), x = .str z ∧ y = .ref a ∧ PySem.W.nsIn X.K a z = some r ∧ Q (.bl (if neg = true then !r.isSome else r.isSome)) H) (tE P cal mak k) (tC (.ref a)) σ H Q := fun σ H Q ⟨W, ρ, μ, d, μ', w, en, ee, kk⟩ => by
    unfold ev at ee
    obtain ⟨y, e1, ee⟩ := bind_some' ee
    obtain ⟨o, e2, ee⟩ := bind_some' ee
    cases ee
    obtain ⟨z, x', kvs', e4, e5, e6⟩ := tbF_some e2
    rw [h1] at e5
    cases e5
    refine ⟨W, ρ, μ, y.1, y.2, w, en, e1, fun v1 W1 H1 x1 w1 r1 => ?_⟩
    rw [e4] at r1
    cases r1 with
    | str _ _ =>
      cases ho : tbLook kvs z with
      | none =>
        refine ⟨z, none, rfl, rfl, g.K ▸ (hv z).2 ho, ?_⟩
        rw [e6, ho] at kk
        exact kk _ W1 H1 x1 w1 (.bl _)
      | some f =>
        refine ⟨z, _, rfl, rfl, g.K ▸ ((hv z).1 f ho).1, ?_⟩
        rw [e6, ho] at kk
        exact kk _ W1 H1 x1 w1 (.bl _)
  subst hop
  cases neg with
  | false => exact ⟨peI (pe_cmpR (op_in_kd kd') hk hn rfl) fun σ H Q q => mk σ H _ q, ptI (pt_cmpR (op_in_kd kd') hk hn rfl) fun σ H Q ⟨W, ρ, μ, b, μ', w, en, ee, k⟩ => mk _ _ _ ⟨W, ρ, μ, .bl b, μ', w, en, ee, fun v W' H' x w' r => by cases r; exact ⟨b, rfl, k W' H' x w'⟩⟩, fun _ _ _ q => nomatch q⟩
  | true => exact ⟨peI (pe_cmpR (op_notIn_kd kd') hk hn rfl) fun σ H Q q => mk σ H _ q, ptI (pt_cmpR (op_notIn_kd kd') hk hn rfl) fun σ H Q ⟨W, ρ, μ, b, μ', w, en, ee, k⟩ => mk _ _ _ ⟨W, ρ, μ, .bl b, μ', w, en, ee, fun v W' H' x w' r => by cases r; exact ⟨b, rfl, k W' H' x w'⟩⟩, fun _ _ _ q => nomatch q⟩
theorem maxI_top : ∀ {r : List Int} {n : Int}, maxI r n ∈ n :: r ∧ ∀ j ∈ n :: r, j ≤ maxI r n
  | [], n => ⟨.head _, fun j hj => by rw [List.mem_singleton.mp hj]; exact Int.le_refl _⟩
  | x :: r, n => by
    unfold maxI
    by_cases h : x > n
    · rw [if_pos h]
      obtain ⟨h1, h2⟩ := maxI_top (r := r) (n := x)
      refine ⟨.tail _ h1, fun j hj => ?_⟩
      rcases List.mem_cons.mp hj with rfl | hj
      · have := h2 x (.head _); omega
      · exact h2 j hj
    · rw [if_neg h]
      obtain ⟨h1, h2⟩ := maxI_top (r := r) (n := n)
      refine ⟨?_, fun j hj => ?_⟩
      · rcases List.mem_cons.mp h1 with e | e
        · rw [e]; exact .head _
        · exact .tail _ (.tail _ e)
      · rcases List.mem_cons.mp hj with rfl | hj
        · exact h2 _ (.head _)
        · rcases List.mem_cons.mp hj with rfl | hj
          · have := h2 n (.head _); omega
          · exact h2 j (.tail _ hj)
theorem g_mxv (g : GX P n cal mak G X) {i : Nat} {x y nm : Str} {p p2 pos ap cp : Pos} (hx : x = "max") (hnm : nm = "values") (h1 : glB G.sc x = true) (hl : (ap.endLine == cp.line) = true) (h2 : G.N[i]? = some y) (h3 : visB G.sc y = true) (h4 : nmOk y = true) :
    PE X (.Call (.Name x p) [.Call (.Attribute (.Name y p2) nm ap) [] [] cp] [] pos) (tE P cal mak (.mxv i)) := by
  subst hx hnm
  obtain ⟨d1, d2, _⟩ := nmOk_of h4
  refine peI (pe_topVals g.calm (g.gl h1) (g.fr _ (by decide)) (pe_var (i := i) (by rw [g.N]; exact h2) (g.vis h3) d1 d2) rfl hl) fun σ H Q ⟨W, ρ, μ, d, μ', w, en, ee, kk⟩ => ?_
  unfold ev at ee
  split at ee
  · rename_i kvs hk
    obtain ⟨ns, e1, ee⟩ := bind_some' ee
    split at ee
    · cases ee
    · rename_i m r
      cases ee
      obtain ⟨a, hv, o⟩ := en.ow i _ hk
      cases o.c with
      | dct hh q rr =>
        obtain ⟨es, rfl, _, q2, _⟩ := q
        refine ⟨.ref a, hv, a, es, m :: r, rfl, hh, ?_, (fun z => nomatch z), fun m' h5 h6 => ?_⟩
        · rw [q2]; exact ints_of rr e1
        · have e : m' = maxI r m := by
            obtain ⟨q3, q4⟩ := maxI_top (r := r) (n := m)
            have := h6 _ q3
            have := q4 _ h5
            omega
          rw [e]
          exact kk _ W H .refl w (.int _)
  · cases ee
end
end EV

set_option Elab.async false
set_option linter.all false
set_option maxRecDepth 100000
set_option maxHeartbeats 1000000
namespace EV
open PySem PySem.Spec PyProof.Rows L2 PySem.Froz
/-! enumerate(tuple) -/
set_option maxHeartbeats 1000000 in
theorem meets_enum1 {v : Value} {o : Obj} {H : Heap → Prop} (B : Begins v o H) :
    Meets (Builtin.«enumerate.__new__» ⟨[.type "enumerate", v], []⟩) (fun _ R s => H s.heap ∧
      R (.ok (.ret (.ref (s.heap.push o).objs.size))) { s with heap := (s.heap.push o).push { cls := .type "enumerate", data := .fields #[.none, .bool false, .ref s.heap.objs.size, rawInt 0, .none, .none] } }) :=
  .of_wp fun prog w A R s h => by
    obtain ⟨hp, g, d, tk, os⟩ := s; obtain ⟨h1, h⟩ := h
    have hsub := sub_enumerate
    have q1 : ∀ {A' : Around} {E : Value → Shared → Prop} {Q : Value → Shared → Prop}, Q (.ref hp.objs.size) ⟨hp.push o, g, d, tk, os⟩ → wpAny (model prog w) A' (pyIter v) Q E ⟨hp, g, d, tk, os⟩ :=
      fun q => B.iter prog w _ _ ⟨hp, g, d, tk, os⟩ _ h1 q
    wp_walk using q1
    refine wpAny_stack_any fun st => wpAny_pure ?_
    split
    · rename_i c _ _ _ _ _
      cases (c == Value.type "enumerate")
      · wp_walk using q1
        exact ⟨_, rfl, h⟩
      · wp_walk using q1
        exact ⟨_, rfl, h⟩
    · wp_walk using q1
      exact ⟨_, rfl, h⟩
section
variable {prog : Program} {w : World} {A : Around} {E : Value → Shared → Prop} {s : Shared}
theorem enum_begins1 {v : Value} {o : Obj} {H : Heap → Prop} {Q : Value → Shared → Prop} (B : Begins v o H) (h1 : H s.heap)
    (h : ∀ h', IsEnum h' (s.heap.objs.size + 1) s.heap.objs.size 0 .none → h'.get? s.heap.objs.size = some o → h'.objs.size = s.heap.objs.size + 2 →
      (∀ b o, s.heap.get? b = some o → h'.get? b = some o) → Q (.ref (s.heap.objs.size + 1)) { s with heap := h' }) :
    wpAny (model prog w) A (call (.type "enumerate") [v]) Q E s := by
  refine callType_new F.called_enumerate (by decide) (F.typeCall_enumerate_1 _) (F.newCall_enumerate_1 _) (fun obj => F.args_object_init_2 obj _) F.entry_enumerate_new
    (meets_enum1 B) ⟨h1, ?_⟩
  have hz : (s.heap.push o).objs.size = s.heap.objs.size + 1 := Heap.size_push ..
  show _ ∧ _
  rw [hz]
  have he : IsEnum ((s.heap.push o).push { cls := .type "enumerate", data := .fields #[.none, .bool false, .ref s.heap.objs.size, rawInt 0, .none, .none] }) (s.heap.objs.size + 1) s.heap.objs.size 0 .none := by
    have := Heap.get?_push_size (s.heap.push o) (o := { cls := .type "enumerate", data := .fields #[.none, .bool false, .ref s.heap.objs.size, rawInt 0, .none, .none] }) rfl
    rw [hz] at this; exact this
  refine ⟨⟨_, he, rfl⟩, h _ he (Heap.get?_push_of_some _ (Heap.get?_push_size _ B.free)) (by rw [Heap.size_push, hz]) fun b o x => Heap.get?_push_of_some _ (Heap.get?_push_of_some _ x)⟩
end
/-- the tuple at a, each item in a new pair -/
def IteT (K : PySem.W.Frag) (a : Addr) : L2.It where
  go := fun i H => ∃ (xs : List V) (x : V), SqT K H a xs ∧ xs[i]? = some x
  yld := fun i H v H' => ∃ (T : Addr) (x : V), (v = .ref T ∧ H T = none ∧ H' = upd H T (.tup [.int (i : Nat), x])) ∧ ∀ xs, SqT K H a xs → xs[i]? = some x
  stop := fun i H => ∃ xs : List V, SqT K H a xs ∧ i = xs.length
theorem turn_enumT {P : Program} {w : World} {K : PySem.W.Frag} {elts : List Expr} {kk : Nat} {tpos : Pos} {a e it : Addr} (hai : a ≠ it) (hea : e ≠ a) :
    Turn P w K (.Tuple elts kk tpos) (IteT K a) [e, it] e (fun i h => (∃ old, IsEnum h e it ((i : Nat) : Int) old) ∧ h.IsTupleIter it a i ∧ e ≠ it) where
  mem := by simp
  obj := fun i h st b hb => by
    obtain ⟨⟨old, he⟩, ⟨o, ho, hc, hd⟩, _⟩ := st
    have e' : b = e ∨ b = it := by simpa using hb
    rcases e' with z | z
    · rw [z]; exact ⟨_, he, fun v q => nomatch q⟩
    · rw [z]; exact ⟨o, ho, fun v q => by rw [hd] at q; cases q⟩
  keep := fun i h h' st k => let ⟨⟨old, he⟩, hi, hne⟩ := st; ⟨⟨old, k e (by simp) _ he⟩, hi.at fun o q => k it (by simp) o q, hne⟩
  item := by
    intro X hP hw hK hc i pins s σ H E I hf st hg
    subst hP hw hK
    obtain ⟨⟨old, he⟩, hit, hne⟩ := st
    obtain ⟨xs, x, hq, hx⟩ := hg
    obtain ⟨its, rv, p, hz⟩ := I.tuple hq
    have p' : s.heap.IsTuple a its.toArray := p
    obtain ⟨u, hu, ru⟩ := rv.get hx
    have hel : e < s.heap.objs.size := Heap.lt_size he
    have hil : it < s.heap.objs.size := by obtain ⟨_, q, _⟩ := hit; exact Heap.lt_size q
    have hh := I.ok.hd hc
    refine wpAny_pyNext_enum_itemD (A := X.A) (Draws.tuple (A := X.A.in1) hh it a hai its.toArray) he ⟨hit, p'⟩ (by have := (List.getElem?_eq_some_iff.mp hu).1; simpa using this) hne (by simp [hne, hea]) fun u' h' tk e1 ho st' hT hsz hk => ?_
    have e1 : u' = u := by
      have : its.toArray[i]? = some u' := e1
      rw [List.getElem?_toArray, hu] at this
      exact (Option.some.inj this).symm
    subst e1
    refine ⟨_, rfl, wpAny_letOwnedTupleGo_enum (s := { s with heap := h', toks := tk + 1 }) ho fun h'' he' sb => ?_⟩
    have hT2 : h''.get? s.heap.objs.size = some { cls := .type "tuple", data := .seq #[.int i tk, u'] } := (sb.2 _ (Nat.ne_of_gt hel)).trans hT
    have new : ObjOk X.prog X.w (upd H s.heap.objs.size (.tup [.int (i : Nat), x])) h'' s.heap.objs.size (.tup [.int (i : Nat), x]) :=
      ⟨by show 2 ≤ sizeLine; decide, [.int i tk, u'], .cons ⟨_, rfl⟩ (.cons ru .nil), ⟨_, hT2, rfl, _, rfl⟩⟩
    have I1 : Inv X pins σ (upd H s.heap.objs.size (.tup [.int (i : Nat), x])) { s with heap := h'', toks := tk + 1 } :=
      I.turnedNew (t' := tk + 1) (ch := [e, it]) (fun b ob hb q => (sb.2 b (fun z => hb (by simp [z]))).trans (hk b ob (fun z => hb (by simp [z])) (fun z => hb (by simp [z])) q)) hf (Nat.le_refl _) new
    refine ⟨.ref s.heap.objs.size, _, I1, rfl, ⟨_, x, ⟨rfl, I.hok.fresh (Nat.le_refl _), rfl⟩, fun ys hy => by rw [I.tuple_inj hy hq]; exact hx⟩, ⟨⟨u', ?_⟩, st'.1.at fun o q => (sb.2 it (Ne.symm hne)).trans q, hne⟩, fun b hb => ?_⟩
    · have e1 : ((i + 1 : Nat) : Int) = (i : Int) + 1 := by omega
      rw [e1]; exact he'
    · have hb' : b < s.heap.objs.size := by
        have e' : b = e ∨ b = it := by simpa using hb
        rcases e' with z | z
        · rw [z]; exact hel
        · rw [z]; exact hil
      rw [upd_ne (Nat.ne_of_lt hb')]
      exact (hf b hb).1
  done := by
    intro X hP hw hK hc i pins s σ H E I hf st hg
    subst hP hw hK
    obtain ⟨⟨old, he⟩, hit, hne⟩ := st
    obtain ⟨xs, hq, hx⟩ := hg
    obtain ⟨its, rv, p, hz⟩ := I.tuple hq
    have p' : s.heap.IsTuple a its.toArray := p
    obtain ⟨f0, f1, f2, f3, f4, f5⟩ := hf it (by simp)
    have hl := rv.length
    have hh := I.ok.hd hc
    have e0 : i = its.toArray.size := by rw [List.size_toArray]; omega
    exact wpAny_pyNext_enum_endD (A := X.A) (Draws.tuple (A := X.A.in1) hh it a hai its.toArray) he (by rw [← e0]; exact ⟨hit, p'⟩) fun h' eb => ⟨rfl, I.turned (t' := s.toks) (fun b o hb q => eb b o hb q) f0 f1 f3 f4 f5⟩
  self := fun A i s Q E st h => let ⟨⟨_, he⟩, _⟩ := st; wpAny_pyIter_enum he h
def iEnumT (K : PySem.W.Frag) (ta : TA) : TI := fun σ H R => ta σ H fun vs H1 => ∃ (a : Addr) (xs : List V), vs = [.ref a] ∧ SqT K H1 a xs ∧ R (IteT K a) H1
theorem pi_enumT {X : Cx} {e : Expr} {ta : TA} {p pos tpos : Pos} {elts : List Expr} {kk : Nat} (hg : Gl X "enumerate") (hm : X.mg "enumerate" = none) (ha : PA X [e] ta) (hs : starEach [e] X.env = [(false, eval e X.env)] := by rfl) :
    PI X (.Tuple elts kk tpos) (.Call (.Name "enumerate" p) [e] [] pos) (iEnumT X.K ta) := by
  refine ⟨fun pins s σ H R I h => ?_⟩
  refine Call_ (ld_blt I hg hm boot_enumerate (PyProof.Rows.callWith_type1 (thn (ha.run pos pins s σ H _ I h) fun us s1 ⟨vs, H1, I1, r1, q1⟩ => ?_) hs rfl))
  obtain ⟨a, xs, ex, hq, q⟩ := q1
  subst ex
  cases r1 with
  | cons r rr =>
    cases rr
    cases r
    obtain ⟨its, rv, p', hz⟩ := I1.tuple hq
    have p2 : s1.heap.IsTuple a its.toArray := p'
    obtain ⟨oa, hoa, _⟩ := id p'
    have hlt : a < s1.heap.objs.size := Heap.lt_size hoa
    refine enum_begins1 (begins_tuple a its.toArray) p2 fun h' he hit hsz hk => wpAny_pyIter_enum he ?_
    have I2 : Inv X pins σ H1 { s1 with heap := h' } := I1.kept (t' := s1.toks) hk
    refine ⟨s1.heap.objs.size + 1, [s1.heap.objs.size + 1, s1.heap.objs.size], _, _, H1, rfl, I2, turn_enumT (a := a) (e := s1.heap.objs.size + 1) (it := s1.heap.objs.size) (Nat.ne_of_lt hlt) (Nat.ne_of_gt (Nat.lt_succ_of_lt hlt)), ⟨⟨.none, he⟩, ⟨_, hit, rfl, rfl⟩, Nat.succ_ne_self _⟩, fun b hb => ?_, q⟩
    have e' : b = s1.heap.objs.size + 1 ∨ b = s1.heap.objs.size := by simpa using hb
    have hle : s1.heap.objs.size ≤ b := by
      rcases e' with z | z
      · rw [z]; exact Nat.le_add_right _ _
      · rw [z]; exact Nat.le_refl _
    exact I1.fpOk hle (I1.hok.fresh hle)
/-! sorted of a list of alike data -/
section
variable {X : Cx}
abbrev leP : V × D → V × D → Bool := PySem.W.dataLe false (fun p : V × D => p.2.py)
def rSrtG (K : PySem.W.Frag) : List V → Hp → VK → Prop := fun vs H Q => ∃ (a : Addr) (ps : List (V × D)), vs = [V.ref a] ∧ SqL K H a (ps.map (·.1)) ∧ (∀ p ∈ ps, Dp K H p.1 p.2.py) ∧ PySem.W.AllAlike (ps.map fun p => p.2.py) ∧ PySem.W.Sortable (ps.map fun p => p.2.py) ∧ (∀ p ∈ ps, p.2.py.depth ≤ 64) ∧
  ∀ q, H q = none → Q (.ref q) (upd H q (.lst ((ps.mergeSort leP).map (·.1))))
theorem each_of {R : Value → V × D → Prop} : ∀ {ps : List (V × D)} {us : List Value}, Vals (ps.map (·.1)) us → (∀ p ∈ ps, ∀ u, RelV p.1 u → R u p) → PySem.W.EachIs R us ps
  | [], _, .nil, _ => .nil
  | p :: ps, _, .cons r t, h => .cons (h p (.head _) _ r) (each_of t fun q hq => h q (.tail _ hq))
theorem vals_each : ∀ {ps : List (V × D)} {us : List Value}, PySem.W.EachIs (fun u p => RelV p.1 u) us ps → Vals (ps.map (·.1)) us
  | _, _, .nil => .nil
  | _, _, .cons r t => .cons r (vals_each t)
theorem cr_srtG (hu : X.A.units + 100 < cLine) : CallR X (.builtin "sorted") (rSrtG X.K) := by
  intro pins s σ H vs us Q I r h
  obtain ⟨a, ps, rfl, hs, hdp, hal, hk, hd, q⟩ := h
  obtain ⟨its, rv, pl, hz⟩ := I.list hs
  rw [Vals.ref1 r]
  have hl := rv.length
  rw [List.length_map] at hl
  have hz2 : ps.length ≤ sizeLine := by rw [List.length_map] at hz; exact hz
  refine PySem.W.sorted_data (R := fun u (p : V × D) => RelV p.1 u) (enc := fun p => p.2.py) (vs := its) (bs := ps) pl.isList (each_of rv fun p _ u h => h) (each_of rv fun p hp u h => by
    obtain ⟨as, rd⟩ := Dp.reads I _ p.1 u (hdp p hp) h
    exact ⟨as, rd⟩) hal hk hz2 (fun p hp => by have := hd p hp; omega) fun out hlen eo => ?_
  obtain ⟨ep, he⟩ := PyProof.Rows.sortedAll_at s.heap its (List.toArray out)
  have hlen2 : ((ps.mergeSort leP).map (·.1)).length ≤ sizeLine := by rw [List.length_map, List.length_mergeSort]; exact hz2
  exact ⟨.ref _, upd H (s.heap.objs.size + 1) (.lst ((ps.mergeSort leP).map (·.1))), I.laid (t' := s.toks) (fun _ _ => PyProof.Rows.sortedAll_old) (Nat.le_succ _) ⟨hlen2, out, ep, vals_each eo, he⟩, rfl, q _ (I.hok.fresh (Nat.le_succ _))⟩
def rMinD (K : PySem.W.Frag) : List V → List V → Hp → VK → Prop := fun vs zs H Q => ∃ (a : Addr) (ns : List Int) (d : V), vs = [V.ref a] ∧ zs = [d] ∧ SqL K H a (ns.map V.int) ∧ Q (match minDf ns with | none => d | some n => .int n) H
theorem cr_minD (hc : X.calm = true) (hu : X.A.units + 64 < cLine) : CallRK X (.builtin "min") [Str.ofString "default"] (rMinD X.K) := by
  intro pins s σ H vs zs us ws Q I r rz h
  obtain ⟨a, ns, d, rfl, rfl, hs, q⟩ := h
  obtain ⟨its, rv, pl, hz⟩ := I.list hs
  obtain rfl := Vals.ref1 r
  obtain ⟨w1, rfl, hw1⟩ := vals1 rz
  obtain ⟨as, ra⟩ := reads_ints (h := s.heap) rv.ints
  refine PySem.W.min_list_default (vs := its.toArray) (xs := ns.map PyData.int) (as := as) (I.ok.hd hc) pl.isList (by simpa using ra) ⟨fun x hx y hy => ?_, fun x hx => ?_⟩ (by have := depth_ints ns; omega) (fun hn h' tk k => ?_) fun y ys i v h' tk bs e hv rd k => ?_
  · obtain ⟨n, _, rfl⟩ := List.mem_map.mp hx
    obtain ⟨m, _, rfl⟩ := List.mem_map.mp hy
    rfl
  · obtain ⟨n, _, rfl⟩ := List.mem_map.mp hx
    exact fun z => nomatch z
  · cases ns with
    | nil => exact ⟨d, H, I.kept k, hw1, q⟩
    | cons _ _ => cases hn
  · cases ns with
    | nil => cases e
    | cons n r =>
      cases e
      rw [PySem.W.minD_ints] at rd
      cases rd
      exact ⟨.int _, H, I.kept k, ⟨_, rfl⟩, q⟩
end
end EV

/-! a list, read, times an int -/
namespace EV
open PySem PySem.Spec PyProof.Rows L2
theorem mul_any (l : Addr) (its : Array Value) (n : Nat) (sl : Array (Option Value)) (x : Int) (u : Tok) (h1 : ¬(!Builtin.List.listFitsIndex x) = true) (h2 : ¬its.size * x.toNat > (2 ^ 63 - 1) / 8) (h3 : ¬Builtin.List.listTooLong (its.size * x.toNat) = true) :
    Meets (Builtin.«list.__mul__» ⟨[.ref l, .int x u], []⟩) (fun _ R s => s.heap.get? l = some { cls := .type "list", dict := none, data := .seq its n, slots := sl } ∧
      R (.ok (.ret (Value.ref s.heap.objs.size))) { s with heap := s.heap.push { cls := Value.type "list", data := Data.seq (List.foldl (fun x1 x2 => x1 ++ x2) #[] (List.replicate (if its.isEmpty = true then 0 else x.toNat) its)) }, toks := s.toks }) :=
  .of_wp fun prog w A R s ⟨hl, h⟩ => by
    obtain ⟨hp, g, d, tk, os⟩ := s
    have fits := AutoListH.joined_fits h3
    wp_walk
    refine wpAny_ite_false (decide_eq_false (Nat.not_lt.mpr fits)) ?_
    wp_walk
    exact ⟨_, rfl, h⟩
theorem rmul_any (i : Int) (t : Tok) (l : Addr) (its : Array Value) (n : Nat) (sl : Array (Option Value)) :
    Meets (Builtin.«int.__rmul__» ⟨[.int i t, .ref l], []⟩) (fun _ R s => s.heap.get? l = some { cls := .type "list", dict := none, data := .seq its n, slots := sl } ∧ R (.ok (.ret Value.notImplemented)) s) :=
  .of_wp fun prog w A R s ⟨hl, h⟩ => by
    obtain ⟨hp, g, d, tk, os⟩ := s
    wp_walk
    exact ⟨_, rfl, h⟩
def rRepG (K : PySem.W.Frag) : R2 := fun x y H Q => ∃ l k xs, x = .ref l ∧ y = .int k ∧ SqL K H l xs ∧ -(2 ^ 63) ≤ k ∧ k < 2 ^ 63 ∧ xs.length * k.toNat ≤ sizeLine ∧ ∀ p, H p = none → Q (.ref p) (upd H p (.lst (List.replicate k.toNat xs).flatten))
theorem op_repG {X : Cx} : OpR X (binaryOp .Mult) (rRepG X.K) := by
  intro pins s σ H x y v u Q I rx ry ⟨l, k, xs, ex, ey, hS, b1, b2, hz, q⟩
  subst ex ey
  cases rx
  obtain ⟨t, rfl⟩ := ry
  obtain ⟨its, r, ⟨o, n, e, hc, hd, hdat⟩, z⟩ := I.list hS
  obtain ⟨oc, od, dt, sl⟩ := o
  simp only at hc hd hdat
  subst hc hd hdat
  have hl := r.length
  have lim : its.toArray.size * k.toNat ≤ sizeLine := by rw [List.size_toArray, ← hl]; exact hz
  have c2 : ¬ its.toArray.size * k.toNat > (2 ^ 63 - 1) / 8 := by
    have : (sizeLine : Nat) ≤ (2 ^ 63 - 1) / 8 := by decide
    omega
  have c1 : ¬ (!Builtin.List.listFitsIndex k) = true := by rw [fitsIndex_both b1 b2]; decide
  have c3 : ¬ Builtin.List.listTooLong (its.toArray.size * k.toNat) = true := by rw [notLongL lim]; decide
  have new : List.foldl (fun x1 x2 => x1 ++ x2) #[] (List.replicate (if its.toArray.isEmpty = true then 0 else k.toNat) its.toArray) = (List.replicate k.toNat its).flatten.toArray := by
    have flat : ∀ m : Nat, List.foldl (fun x1 x2 => x1 ++ x2) #[] (List.replicate m its.toArray) = (List.replicate m its).flatten.toArray := fun m => (foldl_rep its m []).trans (by rw [List.nil_append])
    rw [flat]
    cases its with
    | nil => simp
    | cons _ _ => rw [if_neg (by simp)]
  refine wpAny_binaryOp_repeat_ref (T := "list") (U := "int") (by decide) ⟨_, e, rfl⟩ (fun s' => typeIs_int s' k t) noFill_list_mul F.fills_int_mul F.slot_int_rmul repeat_list F.slot_int_index.lookup
    (call_meets F.slot_int_rmul (typeIs_int s k t) F.entry_int_rmul (F.args_int_rmul_2 _ _) (rmul_any k t l its.toArray n sl)
      ⟨e, rfl, ⟨_, e, rfl⟩, call_meets F.slot_list_mul ⟨_, e, rfl⟩ F.entry_list_mul (F.args_list_mul_2 _ _) (mul_any l its.toArray n sl k t c1 c2 c3) ⟨e, ?_⟩⟩)
  rw [new]
  exact ⟨.ref _, _, I.lnew (t' := s.toks) (r.rep k.toNat) (by rw [PyProof.Rows.lm_len_rep_flat, Nat.mul_comm]; exact hz), rfl, q _ I.fresh⟩
end EV

set_option Elab.async false
set_option linter.all false
set_option maxRecDepth 100000
set_option maxHeartbeats 2000000
namespace EV
open PySem PySem.Spec PyProof.Rows L2
def tMD (X : Cx) (n : Nat) (m : Str) (ta : TE) (t : TA) : TE := fun σ H Q => ta σ H fun x H1 => ∃ (a C dx : Addr) (fs : List (Str × V)) (f : Addr) (fd : FuncData) (ps : List Str) (sp : Sp), x = .ref a ∧ H1 a = some (.ins C dx fs) ∧ fs.lookup m = none ∧ Cls X.K C ∧ L2.Meth X.K C m f ∧
  FnG X.prog X.w X.K X.mg X.base CX0 n f fd ps sp ∧ Binds X.K fd ps [] ∧ t σ H1 fun vs H2 => sp (x :: vs) H2 Q E0
section
variable {X : Cx} {n : Nat} {o e : Expr} {es : List Expr} {m : Str} {apos pos : Pos} {ta : TE} {t : TA}
theorem star_form {env : PySem.Env} {p : Pos} : ∀ {xs : List Expr}, xs.all starB = true → (backTo p (starEach xs env)).all (fun x => !x.1) = true
  | [], _ => rfl
  | e :: es, h => by
    rw [List.all_cons, Bool.and_eq_true] at h
    rw [star_cons h.1]
    exact star_form h.2
theorem meth_ev (hp : plnB o = true) {xs : List Expr} (hs : xs.all starB = true) (hn : xs.length < 30) (hl : (apos.endLine == pos.line) = true) : eval (.Call (.Attribute o m apos) xs [] pos) X.env = (do
      let ov ← eval o X.env
      standAt apos.atName
      let (f, first) ← holding [ov] (getMethod ov m (do return (← importBound o X.env).getD true))
      callWith pos f first (backTo pos (starEach xs X.env)) (backToKw pos (keywordEach [] X.env))) := by
  have few : methodCallForm (xs.length + ([] : List Keyword).length) (backTo pos (starEach xs X.env)) (backToKw pos (keywordEach [] X.env)) = true := by
    unfold methodCallForm
    rw [star_form hs]
    show (true && (true && decide (xs.length + 0 + 0 < 30))) = true
    simpa using hn
  show (do
    let ov ← attributeBase o m X.env (eval o X.env)
    standAt apos.atName
    methodCall o m apos pos X.env ov (xs.length + ([] : List Keyword).length) (backTo pos (starEach xs X.env)) (backToKw pos (keywordEach [] X.env))) = _
  rw [plain_attr hp]
  unfold methodCall calleeOf methodCallPos
  simp only [few, hl, if_true, Bool.not_true, Bool.false_or]
  simp
theorem pe_methD (hp : plnB o = true) (hs : (e :: es).all starB = true) (hn : (e :: es).length < 30) (hl : (apos.endLine == pos.line) = true) (he : PE X o ta) (hc : Calm X.A) (hr : Room n X.A) (ha : PA X (e :: es) t) : PE X (.Call (.Attribute o m apos) (e :: es) [] pos) (tMD X n m ta t) := by
  have ht := meth_ev (X := X) (m := m) (apos := apos) (pos := pos) hp hs hn hl
  rw [List.all_cons, Bool.and_eq_true] at hs
  refine ⟨fun pins s σ H Q I h => ?_⟩
  refine PySem.W.methodCall_KW (thn (he.run pins s σ H _ I h) fun u s1 ⟨x, H1, I1, rx, a, C, dx, fs, f, fd, ps, sp, ex, ea, l, c, hm, F, hb, q⟩ => ?_) ht
  subst ex
  obtain rfl : u = Value.ref a := rx
  refine getmeth_ok I1 ea c hm l ?_
  refine PySem.W.callWith_K (first := [.ref a]) (h₀ := X.base) I.ok.mod.kin hm.kp (thn (ha.run pos pins s1 σ H1 _ I1 q) fun us s2 ⟨vs, H2, I2, r, q2⟩ => ⟨I2.kIn, ?_⟩) (star_cons hs.1) (star_any hs.2)
  exact go_fn (us := .ref a :: us) (vs := .ref a :: vs) (dvs := []) F hc hr hb .nil (atP pass0) I2 (.cons rfl r) (by rw [List.append_nil]; exact q2)
theorem pe_methD0 (hp : plnB o = true) (hl : (apos.endLine == pos.line) = true) (he : PE X o ta) (hc : Calm X.A) (hr : Room n X.A) : PE X (.Call (.Attribute o m apos) [] [] pos) (tMD X n m ta tNil) := by
  have ht := meth_ev (X := X) (m := m) (apos := apos) (pos := pos) (xs := []) hp rfl (by decide) hl
  refine ⟨fun pins s σ H Q I h => ?_⟩
  refine PySem.W.methodCall_KW (thn (he.run pins s σ H _ I h) fun u s1 ⟨x, H1, I1, rx, a, C, dx, fs, f, fd, ps, sp, ex, ea, l, c, hm, F, hb, q⟩ => ?_) ht
  subst ex
  obtain rfl : u = Value.ref a := rx
  refine getmeth_ok I1 ea c hm l ?_
  exact PySem.W.callWith_K0 (first := [.ref a]) I1.kIn hm.kp (go_fn (us := [.ref a]) (vs := [.ref a]) (dvs := []) F hc hr hb .nil (atP pass0) I1 (.cons rfl .nil) (by rw [List.append_nil]; exact q))
end
section
variable {P : Pl} {n : Nat} {cal : Cal} {mak : Mak} {G : Ga} {X : Cx}
theorem g_cat (g : GX P n cal mak G X) {a b : Expr} {ca cb : R} {pos : Pos} (ha : PE X a (tR P cal mak ca)) (hb : PE X b (tR P cal mak cb)) : PE X (.BinOp a .Add b pos) (tO P cal mak (.cat ca cb)) := by
  refine peI (pe_op (op_catL g.K) ha hb) fun σ H Q ⟨W, ρ, μ, d, μ', w, en, ee, k⟩ => ?_
  unfold evO at ee
  obtain ⟨x, e1, ee⟩ := bind_some' ee
  obtain ⟨y, e2, ee⟩ := bind_some' ee
  obtain ⟨x', e3, ee⟩ := bind_some' ee
  obtain ⟨y', e4, ee⟩ := bind_some' ee
  obtain ⟨xs, e5, ee⟩ := bind_some' ee
  obtain ⟨zs, e6, ee⟩ := bind_some' ee
  split at ee
  · rename_i hl
    cases ee
    exact ⟨W, ρ, μ, x.1, x.2, w, en, e1, fun v1 W1 H1 x1 w1 r1 _ => ⟨W1, ρ, x.2, y.1, y.2, w1, en.ext x1 w, e2, fun v2 W2 H2 x2 w2 r2 _ =>
      ⟨W2, y.2, x.1, y.1, xs, zs, w2, r1.ext x2 w1, r2, by rw [e3]; exact e5, by rw [e4]; exact e6, hl, fun a W' H' x' w' o' hn => k a W' H' ((x1.trans x2 w w1).trans x' w w2) w' o' ((x1.trans x2 w w1).free w2 hn)⟩⟩⟩
  · cases ee
def tX (P : Pl) (cal : Cal) (mak : Mak) (c : Eo) : TO := fun σ H Q => ∃ (W : Wo) (ρ : Rho) (μ : Sto) (o : Option Int) (μ' : Sto), Wd P W H μ ∧ En P W H σ ρ ∧ evX P.T cal mak c ρ μ = some (o, μ') ∧ ∀ W' H', Ext W H W' H' → Wd P W' H' μ' → Q o H'
theorem poI {X : Cx} {e : Option Expr} {t t' : TO} (h : PO X e t) (k : ∀ σ H Q, t' σ H Q → t σ H Q) : PO X e t' := ⟨fun pins s σ H Q I q => h.run pins s σ H Q I (k σ H Q q)⟩
theorem g_xno : PO X none (tX P cal mak .no) := poI po_none fun σ H Q ⟨W, ρ, μ, o, μ', w, en, ee, k⟩ => by
  unfold evX at ee
  cases ee
  exact k _ _ .refl w
theorem g_xso {e : Expr} {c : E} (h : PE X e (tE P cal mak c)) : PO X (some e) (tX P cal mak (.so c)) := poI (po_some h) fun σ H Q ⟨W, ρ, μ, o, μ', w, en, ee, k⟩ => by
  unfold evX at ee
  obtain ⟨x, e1, ee⟩ := bind_some' ee
  split at ee
  · rename_i i hx
    cases ee
    refine ⟨W, ρ, μ, x.1, x.2, w, en, e1, fun v W1 H1 x1 w1 r1 => ?_⟩
    rw [hx] at r1
    cases r1
    exact ⟨i, rfl, k _ _ x1 w1⟩
  · cases ee
theorem RepL.drop {W : Wo} {H : Hp} : ∀ (n : Nat) {vs : List V} {ds : List D}, RepL P W H vs ds → RepL P W H (vs.drop n) (ds.drop n)
  | 0, _, _, h => h
  | _ + 1, _, _, .nil => .nil
  | n + 1, _, _, .cons _ t => RepL.drop n t
theorem RepL.take {W : Wo} {H : Hp} : ∀ (n : Nat) {vs : List V} {ds : List D}, RepL P W H vs ds → RepL P W H (vs.take n) (ds.take n)
  | 0, _, _, h => .nil
  | _ + 1, _, _, .nil => .nil
  | n + 1, _, _, .cons r t => .cons r (RepL.take n t)
theorem RepL.rev {W : Wo} {H : Hp} : ∀ {vs : List V} {ds : List D}, RepL P W H vs ds → RepL P W H vs.reverse ds.reverse
  | _, _, .nil => .nil
  | _, _, .cons r t => by
    rw [List.reverse_cons, List.reverse_cons]
    exact (RepL.rev t).append (.cons r .nil)
theorem new_lst {W W1 : Wo} {H H1 : Hp} {μ μ1 : Sto} {vs : List V} {ds : List D} {Q : VK} (w : Wd P W H μ) (x : Ext W H W1 H1) (w1 : Wd P W1 H1 μ1) (r : RepL P W1 H1 vs ds) (z : vs.length ≤ LIM) (k : PostO P W H (.lst ds) μ1 Q) : ∀ p, H1 p = none → Q (.ref p) (upd H1 p (.lst vs)) := fun p hp => by
  obtain ⟨x2, w2⟩ := addO (o := .lst vs) w1 hp
  obtain ⟨nF, nι⟩ := w1.notp hp
  exact k p _ _ (x.tr x2 w1) w2 ⟨.lst upd_same z (r.ext x2 w1), nF, nι⟩ (x.free w1 hp)
theorem g_slc (g : GX P n cal mak G X) {e : Expr} {a : R} {lo hi : Eo} {l h : Option Expr} {p2 pos : Pos} (he : PE X e (tR P cal mak a)) (hl : PO X l (tX P cal mak lo)) (hh : PO X h (tX P cal mak hi)) : PE X (.Subscript e (.Slice l h none p2) pos) (tO P cal mak (.slc a lo hi)) := by
  refine peI (pe_slice sl_list he hl hh) fun σ H Q ⟨W, ρ, μ, d, μ', w, en, ee, k⟩ => ?_
  unfold evO at ee
  obtain ⟨x, e1, ee⟩ := bind_some' ee
  obtain ⟨y, e2, ee⟩ := bind_some' ee
  obtain ⟨z, e3, ee⟩ := bind_some' ee
  obtain ⟨d', e4, ee⟩ := bind_some' ee
  obtain ⟨xs, e5, ee⟩ := bind_some' ee
  cases ee
  refine ⟨W, ρ, μ, x.1, x.2, w, en, e1, fun v W1 H1 x1 w1 r1 _ => ⟨W1, ρ, x.2, y.1, y.2, w1, en.ext x1 w, e2, fun W2 H2 x2 w2 => ⟨W2, ρ, y.2, z.1, z.2, w2, (en.ext x1 w).ext x2 w1, e3, fun W3 H3 x3 w3 => ?_⟩⟩⟩
  obtain ⟨b, vs, rfl, q1, l1, z1⟩ := ((r1.ext x2 w1).ext x3 w2).lst w3 (show (x.1.top z.2).bind asLst = some xs by rw [e4]; exact e5)
  have hlen := l1.len
  refine ⟨b, vs, rfl, g.K ▸ q1, new_lst w ((x1.tr x2 w1).tr x3 w2) w3 ?_ (Nat.le_trans (cutV_length vs y.1 z.1) z1) k⟩
  unfold cutV cutD
  rw [hlen]
  exact (l1.drop _).take _
theorem g_lst1 (g : GX P n cal mak G X) {x : Str} {y : Expr} {a : R} {p pos : Pos} (hx : x = "list") (gl : Gl X x) (hs : starB y = true) (hy : PE X y (tR P cal mak a)) : PE X (.Call (.Name x p) [y] [] pos) (tO P cal mak (.lst1 a)) := by
  subst hx
  refine peI (pe_callTy (T := "list") call_list_of gl (g.fr _ (by decide +kernel)) (by decide +kernel) (pa_cons hy pa_nil (star_cons hs)) (by decide +kernel) (by decide +kernel) (star_cons hs) rfl) fun σ H Q ⟨W, ρ, μ, d, μ', w, en, ee, k⟩ => ?_
  unfold evO at ee
  obtain ⟨x, e1, ee⟩ := bind_some' ee
  obtain ⟨d', e4, ee⟩ := bind_some' ee
  obtain ⟨xs, e5, ee⟩ := bind_some' ee
  cases ee
  refine ⟨W, ρ, μ, x.1, x.2, w, en, e1, fun v W1 H1 x1 w1 r1 _ => ?_⟩
  obtain ⟨b, vs, rfl, q1, l1, z1⟩ := r1.seq w1 (show (x.1.top x.2).bind asSeq = some xs by rw [e4]; exact e5)
  exact ⟨b, vs, rfl, g.K ▸ q1, new_lst w x1 w1 l1 z1 k⟩
theorem g_rev (g : GX P n cal mak G X) {e : Expr} {a : R} {k : Nat} {p1 p2 p3 pos : Pos} (he : PE X e (tR P cal mak a)) : PE X (.Subscript e (.Slice none none (some (.UnaryOp .USub (.Constant (.int 1) k p1) p2)) p3) pos) (tO P cal mak (.rev a)) := by
  refine peI (pe_revL he) fun σ H Q ⟨W, ρ, μ, d, μ', w, en, ee, k⟩ => ?_
  unfold evO at ee
  obtain ⟨x, e1, ee⟩ := bind_some' ee
  obtain ⟨d', e4, ee⟩ := bind_some' ee
  obtain ⟨xs, e5, ee⟩ := bind_some' ee
  cases ee
  refine ⟨W, ρ, μ, x.1, x.2, w, en, e1, fun v W1 H1 x1 w1 r1 _ => ?_⟩
  obtain ⟨b, vs, rfl, q1, l1, z1⟩ := r1.lst w1 (show (x.1.top x.2).bind asLst = some xs by rw [e4]; exact e5)
  exact ⟨b, vs, rfl, g.K ▸ q1, new_lst w x1 w1 l1.rev (by rw [List.length_reverse]; exact z1) k⟩
theorem RepL.strs {W : Wo} {H : Hp} : ∀ {vs : List V} {ds : List D} {ys : List Str}, RepL P W H vs ds → asStrs ds = some ys → vs = ys.map V.str
  | _, _, _, .nil, h => by cases h; rfl
  | _, _, _, .cons (d := d) r t, h => by
    cases d <;> first | (cases h; done) | skip
    obtain ⟨l, e1, e2⟩ := bind_some' (show (asStrs _).bind _ = some _ from h)
    cases e2
    cases r
    rw [RepL.strs t e1]
    rfl
theorem g_join (g : GX P n cal mak G X) {so y : Expr} {s : E} {a : R} {nm : Str} {ap cp : Pos} (hnm : nm = "join") (hp : plnB so = true) (hs : starB y = true) (hl : (ap.endLine == cp.line) = true) (h1 : PE X so (tE P cal mak s)) (h2 : PE X y (tR P cal mak a)) :
    PE X (.Call (.Attribute so nm ap) [y] [] cp) (tE P cal mak (.join s a)) := by
  subst hnm
  refine peI (pe_join h1 h2 (star_cons hs) (plain_attr hp) hl) fun σ H Q ⟨W, ρ, μ, d, μ', w, en, ee, k⟩ => ?_
  unfold ev at ee
  obtain ⟨x, e1, ee⟩ := bind_some' ee
  obtain ⟨z, e2, ee⟩ := bind_some' ee
  obtain ⟨d', e3, ee⟩ := bind_some' ee
  obtain ⟨xs, e4, ee⟩ := bind_some' ee
  obtain ⟨ys, e5, ee⟩ := bind_some' ee
  split at ee
  · rename_i sp hsp
    split at ee
    · rename_i hc
      cases ee
      refine ⟨W, ρ, μ, x.1, x.2, w, en, e1, fun v W1 H1 x1 w1 r1 => ?_⟩
      rw [hsp] at r1
      cases r1 with
      | str _ hv =>
        refine ⟨⟨_, rfl⟩, W1, ρ, x.2, z.1, z.2, w1, en.ext x1 w, e2, fun u W2 H2 x2 w2 r2 _ => ?_⟩
        obtain ⟨b, vs, rfl, q1, l1, z1⟩ := r2.seq w2 (show (z.1.top z.2).bind asSeq = some xs by rw [e3]; exact e4)
        have es := l1.strs e5
        subst es
        exact ⟨_, _, ys, rfl, rfl, g.K ▸ q1, hc.1, k _ _ _ (x1.trans x2 w w1) w2 (.str _ hc.2)⟩
    · cases ee
  · cases ee
/-- the text of a nested thing -/
def rShw (P : Pl) : List V → Hp → VK → Prop := fun xs H Q => ∃ (v : V) (d : D), xs = [v] ∧ Dp P.K H v d.py ∧ d.shw = true ∧ (∃ a, v = .ref a) ∧ Q (.str d.py.shown) H
theorem dat_noDict : ∀ d : D, d.dat = true → d.py.hasDict = false
  | .non, _ => rfl
  | .bl _, _ => rfl
  | .int _, _ => rfl
  | .str _, _ => rfl
  | .lst xs, h => by
    simp only [D.py, PyData.hasDict]
    exact go xs h
  | .tup xs, h => by
    simp only [D.py, PyData.hasDict]
    exact go xs h
  | .dct _ _, h => nomatch h
  | .obj _ _, h => nomatch h
  | .cell _, h => nomatch h
  | .fn _, h => nomatch h
where
  go : ∀ ds : List D, D.dats ds = true → PyData.hasDictAll (D.pys ds) = false
  | [], _ => rfl
  | d :: ds, h => by
    have h : (d.dat && D.dats ds) = true := h
    rw [Bool.and_eq_true] at h
    simp only [D.pys, PyData.hasDictAll]
    rw [dat_noDict d h.1, go ds h.2]
    rfl
theorem shw_of {d : D} (h : d.shw = true) : d.dat = true ∧ d.py.showable = true ∧ d.py.depth ≤ 64 ∧ sok d.py.shown = true := by
  unfold D.shw at h
  obtain ⟨h1, h⟩ := ba h
  obtain ⟨h2, h⟩ := ba h
  obtain ⟨h3, h4⟩ := ba h
  exact ⟨h1, h2, of_decide_eq_true h3, h4⟩
theorem cr_shw {X : Cx} (hK : X.K = P.K) (hg : Calm X.A) (hu : X.A.units + 100 < cLine) : CallR X (.type "str") (rShw P) := by
  intro pins s σ H xs us Q I r ⟨v, d, e, dp, hs, ⟨a, ea⟩, q⟩
  subst e
  subst ea
  obtain ⟨h1, h2, h3, h4⟩ := shw_of hs
  rw [Vals.ref1 r]
  obtain ⟨as, rd⟩ := Dp.reads I _ (V.ref a) (Value.ref a) (hK ▸ dp) rfl
  have hz : d.py.shown.length ≤ sizeLine := by
    have := (ba h4).2
    rw [← lim_eq]
    exact of_decide_eq_true this
  exact str_of_reads rd h2 (PyData.noDict_hsm (dat_noDict d h1)) hg (by omega) (fun _ _ z => z) (fun h' u tk hk => ⟨.str d.py.shown, H, I.kept (t' := tk) hk, ⟨u, rfl⟩, q⟩) hz
theorem g_str1 (g : GX P n cal mak G X) {x : Str} {y : Expr} {a : E} {p pos : Pos} (hx : x = "str") (gl : Gl X x) (hs : starB y = true) (hy : PE X y (tE P cal mak a)) : PE X (.Call (.Name x p) [y] [] pos) (tE P cal mak (.str1 a)) := by
  subst hx
  have cr : CallR X (.type "str") (fun xs H Q => (∃ i, xs = [.int i] ∧ i.natAbs.log2 < 1920 ∧ Q (.str (toString i)) H) ∨ (∃ a, xs = [.str a] ∧ Q (.str a) H) ∨ rShw P xs H Q) := by
    intro pins s σ H xs us Q I r h
    rcases h with h | h | h
    · exact call_str_int pins s σ H xs us Q I r h
    · exact SkE.call_str_str pins s σ H xs us Q I r h
    · exact cr_shw g.K g.gd (by have := g.room.un; omega) pins s σ H xs us Q I r h
  refine peI (pe_callTy (T := "str") cr gl (g.fr _ (by decide +kernel)) (by decide +kernel) (pa_cons hy pa_nil (star_cons hs)) (by decide +kernel) (by decide +kernel) (star_cons hs) rfl) fun σ H Q ⟨W, ρ, μ, d, μ', w, en, ee, k⟩ => ?_
  unfold ev at ee
  obtain ⟨x, e1, ee⟩ := bind_some' ee
  refine ⟨W, ρ, μ, x.1, x.2, w, en, e1, fun v W1 H1 x1 w1 r1 => ?_⟩
  split at ee
  · rename_i i hx
    split at ee
    · rename_i hc
      cases ee
      rw [hx] at r1
      cases r1
      exact .inl ⟨i, rfl, hc.1, k _ _ _ x1 w1 (.str _ hc.2)⟩
    · cases ee
  · rename_i s hx
    cases ee
    rw [hx] at r1
    cases r1 with
    | str _ hv => exact .inr (.inl ⟨s, rfl, k _ _ _ x1 w1 (.str _ hv)⟩)
  · rename_i ds hx
    split at ee
    · rename_i hc
      cases ee
      rw [hx] at r1
      have h4 := shw_of hc
      obtain ⟨dp, _⟩ := r1.dp h4.1
      refine .inr (.inr ⟨v, D.tup ds, rfl, dp, hc, ?_, k _ _ _ x1 w1 (.str _ h4.2.2.2)⟩)
      cases r1
      exact ⟨_, rfl⟩
    · cases ee
  · cases ee
theorem g_tslc (g : GX P n cal mak G X) {e : Expr} {a : E} {lo hi : Eo} {l h : Option Expr} {p2 pos : Pos} (he : PE X e (tE P cal mak a)) (hl : PO X l (tX P cal mak lo)) (hh : PO X h (tX P cal mak hi)) : PE X (.Subscript e (.Slice l h none p2) pos) (tE P cal mak (.tslc a lo hi)) := by
  refine peI (pe_slice sl_tupA he hl hh) fun σ H Q ⟨W, ρ, μ, d, μ', w, en, ee, k⟩ => ?_
  unfold ev at ee
  obtain ⟨x, e1, ee⟩ := bind_some' ee
  obtain ⟨y, e2, ee⟩ := bind_some' ee
  obtain ⟨z, e3, ee⟩ := bind_some' ee
  split at ee
  · rename_i xs hx
    cases ee
    refine ⟨W, ρ, μ, x.1, x.2, w, en, e1, fun v W1 H1 x1 w1 r1 => ⟨W1, ρ, x.2, y.1, y.2, w1, en.ext x1 w, e2, fun W2 H2 x2 w2 => ⟨W2, ρ, y.2, z.1, z.2, w2, (en.ext x1 w).ext x2 w1, e3, fun W3 H3 x3 w3 => ?_⟩⟩⟩
    have x13 := (x1.tr x2 w1).tr x3 w2
    rw [hx] at r1
    have r3 := (r1.ext x2 w1).ext x3 w2
    have r4 := r3
    cases r3 with
    | @tup b vs _ q f zl rl =>
      have hlen := rl.len
      have ec : ∀ {α : Type} (zs : List α), zs.length = vs.length → HT.sIx zs.length 0 y.1 = 0 ∧ HT.sIx zs.length zs.length z.1 = zs.length → ((zs.drop (HT.sIx zs.length 0 y.1)).take (HT.sIx zs.length zs.length z.1 - HT.sIx zs.length 0 y.1)) = zs := fun zs hz hw => by rw [hw.1, hw.2]; simp
      refine ⟨b, vs, rfl, g.K ▸ q, fun hw => ?_, fun hw p hp => ?_⟩
      · have e : cutD xs y.1 z.1 = xs := ec xs hlen.symm (by rw [← hlen]; exact hw)
        rw [e] at k
        exact k _ _ _ x13 w3 r4
      · obtain ⟨x5, w5⟩ := addF (o := .tup (cutV vs y.1 z.1)) w3 hp
        have rc : RepL P (W3.add p) (upd H3 p (.tup (cutV vs y.1 z.1))) (cutV vs y.1 z.1) (cutD xs y.1 z.1) := by
          have rl5 := rl.ext x5 w3
          generalize upd H3 p (.tup (cutV vs y.1 z.1)) = H5 at rl5
          unfold cutV cutD
          rw [hlen]
          exact (rl5.drop _).take _
        exact k _ _ _ (x13.tr x5 w3) w5 (.tup (.of upd_same) (.inl ⟨.inr rfl, upd_same⟩) (Nat.le_trans (cutV_length vs y.1 z.1) zl) rc)
  · cases ee
theorem sok_cut {s : Str} {lo hi : Option Int} (h : sok s = true) : sok (cutS s lo hi) = true := by
  unfold sok at h ⊢
  rw [Bool.and_eq_true] at h ⊢
  have sb : ((s.cps.toList.drop (HT.sIx s.length 0 lo)).take (HT.sIx s.length s.length hi - HT.sIx s.length 0 lo)).Sublist s.cps.toList := (List.take_sublist _ _).trans (List.drop_sublist _ _)
  refine ⟨?_, decide_eq_true ?_⟩
  · have h1 := h.1
    unfold PyData.strOk at h1 ⊢
    rw [← Array.all_toList, List.all_eq_true] at h1 ⊢
    exact fun c hc => h1 c (sb.subset hc)
  · refine Nat.le_trans ?_ (show s.cps.toList.length ≤ LIM by rw [Array.length_toList]; exact of_decide_eq_true h.2)
    show (cutS s lo hi).cps.size ≤ _
    unfold cutS
    rw [List.size_toArray]
    exact sb.length_le
theorem g_sslc (g : GX P n cal mak G X) {e : Expr} {a : E} {lo hi : Eo} {l h : Option Expr} {p2 pos : Pos} (he : PE X e (tE P cal mak a)) (hl : PO X l (tX P cal mak lo)) (hh : PO X h (tX P cal mak hi)) : PE X (.Subscript e (.Slice l h none p2) pos) (tE P cal mak (.sslc a lo hi)) := by
  refine peI (pe_slice sl_str he hl hh) fun σ H Q ⟨W, ρ, μ, d, μ', w, en, ee, k⟩ => ?_
  unfold ev at ee
  obtain ⟨x, e1, ee⟩ := bind_some' ee
  obtain ⟨y, e2, ee⟩ := bind_some' ee
  obtain ⟨z, e3, ee⟩ := bind_some' ee
  split at ee
  · rename_i s hx
    cases ee
    refine ⟨W, ρ, μ, x.1, x.2, w, en, e1, fun v W1 H1 x1 w1 r1 => ⟨W1, ρ, x.2, y.1, y.2, w1, en.ext x1 w, e2, fun W2 H2 x2 w2 => ⟨W2, ρ, y.2, z.1, z.2, w2, (en.ext x1 w).ext x2 w1, e3, fun W3 H3 x3 w3 => ?_⟩⟩⟩
    rw [hx] at r1
    cases r1 with
    | str _ hs =>
      refine ⟨s, rfl, by rw [← lim_eq]; exact of_decide_eq_true (ba (show (PyData.strOk s && decide (s.length ≤ LIM)) = true from hs)).2, k _ _ _ ((x1.tr x2 w1).tr x3 w2) w3 (.str _ (sok_cut hs))⟩
  · cases ee
theorem g_fnv (g : GX P n cal mak G X) {f : Nat} {x : Str} {p : Pos} (h : chkCall G f x = true) : PE X (.Name x p) (tE P cal mak (.fnv f)) := by
  obtain ⟨F, fd, hF, F1, F2, gl, hm, hk, hd⟩ := call_of g h
  refine peI (pe_glob (v := .ref (P.fa f)) gl hm rfl hd) fun σ H Q ⟨W, ρ, μ, d, μ', w, en, ee, k⟩ => ?_
  unfold ev at ee
  cases ee
  exact k _ W H .refl w (.fn f (by rw [hF]; rfl))
theorem g_callv (g : GX P n cal mak G X) {i : Nat} {x : Str} {e : Expr} {es : List Expr} {cs : Es} {p pos : Pos} (h1 : G.N[i]? = some x) (h2 : visB G.sc x = true) (h3 : nmOk x = true) (hs : (e :: es).all starB = true) (ha : PA X (e :: es) (tA' P cal mak cs)) :
    PE X (.Call (.Name x p) (e :: es) [] pos) (tE P cal mak (.callv i cs)) := by
  obtain ⟨d1, d2, _⟩ := nmOk_of h3
  rw [List.all_cons, Bool.and_eq_true] at hs
  refine peI (pe_lk (pe_fnv (i := i) (E := E0) g.gd (room_n g) (by rw [g.N]; exact h1) (g.vis h2) pass0 ha d1 d2 (star_cons hs.1) (star_any hs.2))) fun σ H Q ⟨W, ρ, μ, d, μ', w, en, ee, k⟩ => ?_
  unfold ev at ee
  obtain ⟨y, e1, ee⟩ := bind_some' ee
  split at ee
  · rename_i f hf
    obtain ⟨r, e2, ee⟩ := bind_some' ee
    cases ee
    obtain ⟨F, hF, hi⟩ := g.calF f _ _ _ e2
    obtain ⟨v, hv, rv⟩ := en.fz i _ hf
    cases rv with | fn _ hsm =>
    have hF := Tab.fn_is hF hsm
    obtain ⟨fd, F1, F2⟩ := g.hcal f F hF hi
    obtain ⟨fd', FD⟩ := g.Y.fn f F hF
    refine ⟨P.fa f, fd, F.ps, _, hv, F1, g.K ▸ FD.kp, F2, W, ρ, μ, y.1, y.2, w, en, e1, fun vs W1 H1 x1 w1 r1 => ?_⟩
    refine ⟨W1, y.2, y.1, r, by rw [r1.len]; exact g.calL f F _ _ _ hF e2, w1, r1, e2, fun v W' H' x' w' rr => ?_⟩
    have rr := ret_back x1 w1 rr
    have x2 := x1.trans x' w w1
    unfold RetRep at rr
    split at rr
    · obtain ⟨a, rfl, o, hn⟩ := rr
      exact freeze_or w' o fun H2 hb w2 r2 => k _ _ _ (x2.addFu hn hb) w2 r2
    · exact .inl (k v W' H' x2 w' rr)
  · cases ee
theorem g_callvL (g : GX P n cal mak G X) {i : Nat} {x : Str} {xs : List Expr} {cs : Es} {p pos : Pos} (h1 : G.N[i]? = some x) (h2 : visB G.sc x = true) (h3 : nmOk x = true) (hn : (!xs.isEmpty) = true) (hs : xs.all starB = true) (ha : PA X xs (tA' P cal mak cs)) :
    PE X (.Call (.Name x p) xs [] pos) (tE P cal mak (.callv i cs)) := by
  cases xs with
  | nil => cases hn
  | cons e es => exact g_callv g h1 h2 h3 hs ha
theorem g_tupl (g : GX P n cal mak G X) {x : Str} {y : Expr} {a : R} {p pos : Pos} (hx : x = "tuple") (gl : Gl X x) (hs : starB y = true) (hy : PE X y (tR P cal mak a)) : PE X (.Call (.Name x p) [y] [] pos) (tE P cal mak (.tupl a)) := by
  subst hx
  refine peI (pe_callTy (T := "tuple") call_tuple_of gl (g.fr _ (by decide +kernel)) (by decide +kernel) (pa_cons hy pa_nil (star_cons hs)) (by decide +kernel) (by decide +kernel) (star_cons hs) rfl) fun σ H Q ⟨W, ρ, μ, d, μ', w, en, ee, k⟩ => ?_
  unfold ev at ee
  obtain ⟨x, e1, ee⟩ := bind_some' ee
  obtain ⟨d', e4, ee⟩ := bind_some' ee
  obtain ⟨xs, e5, ee⟩ := bind_some' ee
  cases ee
  refine ⟨W, ρ, μ, x.1, x.2, w, en, e1, fun v W1 H1 x1 w1 r1 _ => ?_⟩
  have key : (∃ b vs, v = .ref b ∧ SqL P.K H1 b vs ∧ RepL P W1 H1 vs xs ∧ vs.length ≤ LIM) ∨ Rep P W1 H1 v (.tup xs) := by
    cases d' <;> first | (cases e5; done) | skip
    · exact .inl (r1.lst w1 (show (x.1.top x.2).bind asLst = some xs by rw [e4]; exact e5))
    · cases e5
      generalize x.1 = dx at e4 r1
      cases dx <;> first | (cases e4; done) | skip
      · cases e4
        rcases r1 with r1 | ⟨a', _, o⟩
        · exact .inr r1
        · cases o.c
      · rename_i m
        rcases r1 with r1 | ⟨a', _, o⟩
        · cases r1 with
          | cell hm => exact absurd (w1.cell m _ _ hm e4) fun c => by cases c
        · cases o.c
  rcases key with ⟨b, vs, rfl, q1, l1, z1⟩ | rt
  · exact ⟨b, vs, rfl, .inl ⟨g.K ▸ q1, fun p hp => by
      obtain ⟨x2, w2⟩ := addF (o := .tup vs) w1 hp
      exact k _ _ _ (x1.trans x2 w w1) w2 (.tup (.inl (.inl upd_same)) (.inl ⟨.inr rfl, upd_same⟩) z1 (l1.ext x2 w1))⟩⟩
  · cases rt with
    | tup q f z rr => exact ⟨_, _, rfl, .inr ⟨g.K ▸ q, k _ _ _ x1 w1 (.tup q f z rr)⟩⟩
theorem g_lenset (g : GX P n cal mak G X) {x z : Str} {y : Expr} {a : R} {p p2 q pos : Pos} (hx : x = "len") (hz : z = "set") (gl : Gl X x) (gz : Gl X z) (hs : starB y = true) (hy : PE X y (tR P cal mak a)) : PE X (.Call (.Name x p) [.Call (.Name z p2) [y] [] q] [] pos) (tE P cal mak (.lenset a)) := by
  subst hx
  subst hz
  have pset := pe_callTy (T := "set") (pos := q) (p := p2) (cr_setTx g.calm) gz (g.fr _ (by decide +kernel)) (by decide +kernel) (pa_cons hy pa_nil (star_cons hs)) (by decide +kernel) (by decide +kernel) (star_cons hs) rfl
  refine peI (pe_callB (id := "len") cr_lenTx gl (g.fr _ (by decide +kernel)) (by decide +kernel) (pa_cons pset pa_nil rfl) (by decide +kernel) (by decide +kernel) rfl rfl) fun σ H Q ⟨W, ρ, μ, d, μ', w, en, ee, k⟩ => ?_
  unfold ev at ee
  obtain ⟨x, e1, ee⟩ := bind_some' ee
  obtain ⟨d', e2, ee⟩ := bind_some' ee
  obtain ⟨xs, e3, ee⟩ := bind_some' ee
  obtain ⟨ss, e4, ee⟩ := bind_some' ee
  split at ee
  · rename_i hc
    cases ee
    refine ⟨W, ρ, μ, x.1, x.2, w, en, e1, fun v W1 H1 x1 w1 r1 _ => ?_⟩
    obtain ⟨b, vs, rfl, q1, l1, z1⟩ := r1.lst w1 (show (x.1.top x.2).bind asLst = some xs by rw [e2]; exact e3)
    have es := l1.strs e4
    subst es
    refine ⟨b, ss, rfl, g.K ▸ q1, by unfold scanBound; omega, fun p hp => ?_⟩
    obtain ⟨x2, w2⟩ := addO (o := TxO X.prog X.w p (nub ss)) w1 hp
    refine ⟨p, nub ss, rfl, upd_same, by have := nub_len ss; unfold scanBound; omega, ?_⟩
    exact k _ _ _ (x1.trans x2 w w1) w2 (.int _)
  · cases ee
theorem idx_py {W : Wo} {H : Hp} {v : V} {d : D} (q : Rep P W H v d) (hd : d.flat = true) : ∀ {vs : List V} {ds : List D} {j : Nat}, RepL P W H vs ds → ds.all D.flat = true → idxD d ds = some j → ∃ z, vs[j]? = some z ∧ eqV z v = true ∧ ∀ (m : Nat) (z' : V), m < j → vs[m]? = some z' → eqV z' v = false
  | _, _, _, .nil, _, h => nomatch h
  | _, _, j, .cons (v := u) (vs := us) (d := e) (ds := es) r t, h, hj => by
    rw [List.all_cons, Bool.and_eq_true] at h
    unfold idxD at hj
    split at hj
    · rename_i he
      cases hj
      exact ⟨u, rfl, (eqV_py r q h.1 hd).trans he, fun _ _ z => absurd z (Nat.not_lt_zero _)⟩
    · rename_i he
      cases hi : idxD d es with
      | none => rw [hi] at hj; cases hj
      | some i =>
        rw [hi] at hj
        cases hj
        obtain ⟨z, h1, h2, h3⟩ := idx_py q hd t h.2 hi
        refine ⟨z, h1, h2, fun m z' hm hz => ?_⟩
        cases m with
        | zero =>
          cases hz
          rw [eqV_py r q h.1 hd]
          simpa using he
        | succ m => exact h3 m z' (Nat.lt_of_succ_lt_succ hm) hz
theorem g_idx (g : GX P n cal mak G X) {so y : Expr} {a : R} {c : E} {nm : Str} {ap cp : Pos} (hnm : nm = "index") (hp : plnB so = true) (hs : starB y = true) (hl : (ap.endLine == cp.line) = true) (h1 : PE X so (tR P cal mak a)) (h2 : PE X y (tE P cal mak c)) :
    PE X (.Call (.Attribute so nm ap) [y] [] cp) (tE P cal mak (.idx a c)) := by
  subst hnm
  have few : ((backTo cp (starEach [y] X.env)).all (fun x => !x.1) && (backToKw cp (keywordEach [] X.env)).all (fun x => x.1.isSome) && decide ([y].length + ([] : List Keyword).length + (if ([] : List Keyword).isEmpty then 0 else 1) < 30)) = true := by
    rw [star_cons hs]; rfl
  refine peI (pe_bm PySem.F.plainAttrs_list PySem.F.slot_list_index PySem.F.type_list_index mt_index h1 (pa_cons h2 pa_nil (star_cons hs)) (plain_attr hp) few hl (star_cons hs) rfl) fun σ H Q ⟨W, ρ, μ, d, μ', w, en, ee, k⟩ => ?_
  unfold ev at ee
  obtain ⟨x, e1, ee⟩ := bind_some' ee
  obtain ⟨d0, e6, ee⟩ := bind_some' ee
  obtain ⟨xs0, e7, ee⟩ := bind_some' ee
  obtain ⟨u, e2, ee⟩ := bind_some' ee
  obtain ⟨d', e3, ee⟩ := bind_some' ee
  obtain ⟨xs, e4, ee⟩ := bind_some' ee
  obtain ⟨j, e5, ee⟩ := bind_some' ee
  cases ee
  refine ⟨W, ρ, μ, x.1, x.2, w, en, e1, fun v W1 H1 x1 w1 r1 _ => ⟨?_, W1, ρ, x.2, u.1, u.2, w1, en.ext x1 w, e2, fun v2 W2 H2 x2 w2 r2 => ?_⟩⟩
  · obtain ⟨b, vs, rfl, q1, l1, z1⟩ := r1.lst w1 (show (x.1.top x.2).bind asLst = some xs0 by rw [e6]; exact e7)
    exact .inl ⟨rfl, _, g.K ▸ q1⟩
  · obtain ⟨b, vs, rfl, q1, l1, z1⟩ := (r1.ext x2 w1).lst w2 (show (x.1.top u.2).bind asLst = some xs by rw [e3]; exact e4)
    unfold idxF at e5
    split at e5
    · rename_i hf
      obtain ⟨f1, f2⟩ := ba hf
      obtain ⟨z, h1, h2, h3⟩ := idx_py r2 f1 l1 f2 e5
      exact ⟨b, vs, v2, j, z, rfl, rfl, g.K ▸ q1, r2.flat f1, l1.flat f2, h1, h2, h3, k _ _ _ (x1.trans x2 w w1) w2 (.int _)⟩
    · cases e5
theorem g_cnt (g : GX P n cal mak G X) {so y : Expr} {a : R} {c : E} {nm : Str} {ap cp : Pos} (hnm : nm = "count") (hp : plnB so = true) (hs : starB y = true) (hl : (ap.endLine == cp.line) = true) (h1 : PE X so (tR P cal mak a)) (h2 : PE X y (tE P cal mak c)) :
    PE X (.Call (.Attribute so nm ap) [y] [] cp) (tE P cal mak (.cnt a c)) := by
  subst hnm
  have few : ((backTo cp (starEach [y] X.env)).all (fun x => !x.1) && (backToKw cp (keywordEach [] X.env)).all (fun x => x.1.isSome) && decide ([y].length + ([] : List Keyword).length + (if ([] : List Keyword).isEmpty then 0 else 1) < 30)) = true := by
    rw [star_cons hs]; rfl
  refine peI (pe_bm PySem.F.plainAttrs_list PySem.F.slot_list_count PySem.F.type_list_count mt_lcount h1 (pa_cons h2 pa_nil (star_cons hs)) (plain_attr hp) few hl (star_cons hs) rfl) fun σ H Q ⟨W, ρ, μ, d, μ', w, en, ee, k⟩ => ?_
  unfold ev at ee
  obtain ⟨x, e1, ee⟩ := bind_some' ee
  obtain ⟨d0, e6, ee⟩ := bind_some' ee
  obtain ⟨xs0, e7, ee⟩ := bind_some' ee
  obtain ⟨u, e2, ee⟩ := bind_some' ee
  obtain ⟨d', e3, ee⟩ := bind_some' ee
  obtain ⟨xs, e4, ee⟩ := bind_some' ee
  obtain ⟨ns, e5, ee⟩ := bind_some' ee
  split at ee
  · rename_i j hj
    cases ee
    refine ⟨W, ρ, μ, x.1, x.2, w, en, e1, fun v W1 H1 x1 w1 r1 _ => ⟨?_, W1, ρ, x.2, u.1, u.2, w1, en.ext x1 w, e2, fun v2 W2 H2 x2 w2 r2 => ?_⟩⟩
    · obtain ⟨b, vs, rfl, q1, l1, z1⟩ := r1.lst w1 (show (x.1.top x.2).bind asLst = some xs0 by rw [e6]; exact e7)
      exact .inl ⟨rfl, _, g.K ▸ q1⟩
    · obtain ⟨b, vs, rfl, q1, l1, z1⟩ := (r1.ext x2 w1).lst w2 (show (x.1.top u.2).bind asLst = some xs by rw [e3]; exact e4)
      rw [hj] at r2
      cases r2
      exact ⟨b, ns, j, rfl, rfl, by rw [← ints_of l1 e5]; exact g.K ▸ q1, k _ _ _ (x1.trans x2 w w1) w2 (.int _)⟩
  · cases ee
theorem g_cntS (g : GX P n cal mak G X) {so y : Expr} {a : R} {c : E} {nm : Str} {ap cp : Pos} (hnm : nm = "count") (hp : plnB so = true) (hs : starB y = true) (hl : (ap.endLine == cp.line) = true) (h1 : PE X so (tR P cal mak a)) (h2 : PE X y (tE P cal mak c)) :
    PE X (.Call (.Attribute so nm ap) [y] [] cp) (tE P cal mak (.cntS a c)) := by
  subst hnm
  have few : ((backTo cp (starEach [y] X.env)).all (fun x => !x.1) && (backToKw cp (keywordEach [] X.env)).all (fun x => x.1.isSome) && decide ([y].length + ([] : List Keyword).length + (if ([] : List Keyword).isEmpty then 0 else 1) < 30)) = true := by
    rw [star_cons hs]; rfl
  refine peI (pe_bm PySem.F.plainAttrs_list PySem.F.slot_list_count PySem.F.type_list_count mt_lcountS h1 (pa_cons h2 pa_nil (star_cons hs)) (plain_attr hp) few hl (star_cons hs) rfl) fun σ H Q ⟨W, ρ, μ, d, μ', w, en, ee, k⟩ => ?_
  unfold ev at ee
  obtain ⟨x, e1, ee⟩ := bind_some' ee
  obtain ⟨d0, e6, ee⟩ := bind_some' ee
  obtain ⟨xs0, e7, ee⟩ := bind_some' ee
  obtain ⟨u, e2, ee⟩ := bind_some' ee
  obtain ⟨d', e3, ee⟩ := bind_some' ee
  obtain ⟨xs, e4, ee⟩ := bind_some' ee
  obtain ⟨ns, e5, ee⟩ := bind_some' ee
  split at ee
  · rename_i j hj
    cases ee
    refine ⟨W, ρ, μ, x.1, x.2, w, en, e1, fun v W1 H1 x1 w1 r1 _ => ⟨?_, W1, ρ, x.2, u.1, u.2, w1, en.ext x1 w, e2, fun v2 W2 H2 x2 w2 r2 => ?_⟩⟩
    · obtain ⟨b, vs, rfl, q1, l1, z1⟩ := r1.lst w1 (show (x.1.top x.2).bind asLst = some xs0 by rw [e6]; exact e7)
      exact .inl ⟨rfl, _, g.K ▸ q1⟩
    · obtain ⟨b, vs, rfl, q1, l1, z1⟩ := (r1.ext x2 w1).lst w2 (show (x.1.top u.2).bind asLst = some xs by rw [e3]; exact e4)
      rw [hj] at r2
      cases r2
      exact ⟨b, ns, j, rfl, rfl, by rw [← l1.strs e5]; exact g.K ▸ q1, k _ _ _ (x1.trans x2 w w1) w2 (.int _)⟩
  · cases ee
theorem g_maxd (g : GX P n cal mak G X) {x nm : Str} {y z : Expr} {a : R} {c : E} {p kp pos : Pos} (hx : x = "max") (hn : nm = "default") (gl : Gl X x) (hs : starB y = true) (hy : PE X y (tR P cal mak a)) (hz : PE X z (tE P cal mak c)) : PE X (.Call (.Name x p) [y] [⟨some nm, z, kp⟩] pos) (tE P cal mak (.maxd a c)) := by
  subst hx
  subst hn
  refine peI (pe_callBK (ks := [Str.ofString "default"]) (cr_maxD g.calm (hu_of' g.room)) gl (g.fr _ (by decide +kernel)) (by decide +kernel) (pa_cons hy pa_nil (star_cons hs)) (pk_cons hz pk_nil) (by decide +kernel) (by decide +kernel) (by rw [star_cons hs]; rfl) (by rw [star_cons hs]; rfl) rfl rfl rfl) fun σ H Q ⟨W, ρ, μ, d, μ', w, en, ee, k⟩ => ?_
  unfold ev at ee
  obtain ⟨x, e1, ee⟩ := bind_some' ee
  obtain ⟨u, e2, ee⟩ := bind_some' ee
  split at ee
  · rename_i m hm
    obtain ⟨d', e3, ee⟩ := bind_some' ee
    obtain ⟨xs, e4, ee⟩ := bind_some' ee
    obtain ⟨ns, e5, ee⟩ := bind_some' ee
    cases ee
    refine ⟨W, ρ, μ, x.1, x.2, w, en, e1, fun v W1 H1 x1 w1 r1 _ => ⟨W1, ρ, x.2, u.1, u.2, w1, en.ext x1 w, e2, fun v2 W2 H2 x2 w2 r2 => ?_⟩⟩
    rw [hm] at r2
    cases r2
    obtain ⟨b, vs, rfl, q1, l1, z1⟩ := (r1.ext x2 w1).lst w2 (show (x.1.top u.2).bind asLst = some xs by rw [e3]; exact e4)
    exact ⟨b, ns, m, rfl, rfl, g.K ▸ ints_of l1 e5 ▸ q1, k _ _ _ (x1.trans x2 w w1) w2 (.int _)⟩
  · cases ee
theorem repl_strs {W : Wo} {H : Hp} : ∀ {l m : List Str}, (∀ x ∈ m, x ∈ l) → RepL P W H (l.map V.str) (l.map D.str) → RepL P W H (m.map V.str) (m.map D.str)
  | l, [], _, _ => .nil
  | l, x :: m, h, r => by
    refine .cons ?_ (repl_strs (fun y hy => h y (.tail _ hy)) r)
    obtain ⟨j, hj⟩ := List.getElem?_of_mem (h x (.head _))
    obtain ⟨v, h1, h2⟩ := r.get (i := j) (d := .str x) (by rw [List.getElem?_map, hj]; rfl)
    rw [List.getElem?_map, hj] at h1
    cases h1
    exact h2
theorem repl_ints {W : Wo} {H : Hp} : ∀ {m : List Int}, RepL P W H (m.map V.int) (m.map D.int)
  | [] => .nil
  | x :: m => .cons (.int x) repl_ints
theorem repl_bls {W : Wo} {H : Hp} : ∀ {m : List Bool}, RepL P W H (m.map V.bl) (m.map D.bl)
  | [] => .nil
  | x :: m => .cons (.bl x) repl_bls
theorem asStrs_is : ∀ {xs : List D} {ss : List Str}, asStrs xs = some ss → xs = ss.map D.str
  | [], ss, h => by cases h; rfl
  | d :: xs, ss, h => by
    cases d <;> first | (cases h; done) | skip
    obtain ⟨l, e1, e2⟩ := bind_some' (show (asStrs xs).bind _ = some ss from h)
    cases e2
    rw [asStrs_is e1]
    rfl
theorem g_srt (g : GX P n cal mak G X) {x : Str} {y : Expr} {a : R} {p pos : Pos} (hx : x = "sorted") (gl : Gl X x) (hs : starB y = true) (hy : PE X y (tR P cal mak a)) : PE X (.Call (.Name x p) [y] [] pos) (tO P cal mak (.srt a)) := by
  subst hx
  refine peI (pe_callB (id := "sorted") cr_srtA gl (g.fr _ (by decide +kernel)) (by decide +kernel) (pa_cons hy pa_nil (star_cons hs)) (by decide +kernel) (by decide +kernel) (star_cons hs) rfl) fun σ H Q ⟨W, ρ, μ, d, μ', w, en, ee, k⟩ => ?_
  unfold evO at ee
  obtain ⟨x, e1, ee⟩ := bind_some' ee
  obtain ⟨d', e2, ee⟩ := bind_some' ee
  obtain ⟨xs, e3, ee⟩ := bind_some' ee
  obtain ⟨ys, e4, ee⟩ := bind_some' ee
  refine ⟨W, ρ, μ, x.1, x.2, w, en, e1, fun v W1 H1 x1 w1 r1 _ => ?_⟩
  obtain ⟨b, vs, rfl, q1, l1, z1⟩ := r1.seq w1 (show (x.1.top x.2).bind asSeq = some xs by rw [e2]; exact e3)
  have fin : d = .lst ys ∧ μ' = x.2 ∧ (asStrs xs = none → ∃ zs, d' = .lst zs) := by
    split at ee
    · obtain ⟨_, e6, ee⟩ := bind_some' ee
      cases ee
      exact ⟨rfl, rfl, fun z => by rw [e6] at z; cases z⟩
    · rename_i hn
      cases ee
      refine ⟨rfl, rfl, fun z => ?_⟩
      cases d' <;> first | (cases e3; done) | skip
      · exact ⟨_, rfl⟩
      · exact absurd rfl (hn _)
  obtain ⟨rfl, rfl, hl⟩ := fin
  refine ⟨b, rfl, ?_⟩
  unfold srtD at e4
  split at e4
  · rename_i ss hss
    split at e4
    · rename_i h64
      cases e4
      left
      have es := l1.strs hss
      subst es
      rw [asStrs_is hss] at l1
      refine ⟨ss, by rw [g.K]; exact q1, h64, fun p hp => ?_⟩
      exact new_lst w x1 w1 (repl_strs (fun y hy => (srtB_perm ss).mem_iff.mp hy) l1) (by rw [List.length_map, (srtB_perm ss).length_eq]; show ss.length ≤ 16777216; omega) k p hp
    · cases e4
  · rename_i hn
    obtain ⟨zs, rfl⟩ := hl hn
    cases e3
    obtain ⟨b', vs', hb, q1', l1', z1'⟩ := r1.lst w1 (show (x.1.top x.2).bind asLst = some xs by rw [e2]; rfl)
    cases hb
    split at e4
    · rename_i ns e5
      cases e4
      right
      left
      refine ⟨ns, g.K ▸ ints_of l1' e5 ▸ q1', fun p hp => ?_⟩
      have hlen : ns.length ≤ LIM := by
        have := ints_of l1' e5
        rw [this, List.length_map] at z1'
        exact z1'
      exact new_lst w x1 w1 repl_ints (by rw [List.length_map, (srtB_perm ns).length_eq]; exact hlen) k p hp
    · obtain ⟨bs, e5, e6⟩ := bind_some' e4
      cases e6
      right
      right
      refine ⟨bs, g.K ▸ bls_of l1' e5 ▸ q1', fun p hp => ?_⟩
      have hlen : bs.length ≤ LIM := by
        have := bls_of l1' e5
        rw [this, List.length_map] at z1'
        exact z1'
      exact new_lst w x1 w1 repl_bls (by rw [List.length_map, (srtB_perm bs).length_eq]; exact hlen) k p hp
theorem g_mind (g : GX P n cal mak G X) {x nm : Str} {y z : Expr} {a : R} {c : E} {p kp pos : Pos} (hx : x = "min") (hn : nm = "default") (gl : Gl X x) (hs : starB y = true) (hy : PE X y (tR P cal mak a)) (hz : PE X z (tE P cal mak c)) : PE X (.Call (.Name x p) [y] [⟨some nm, z, kp⟩] pos) (tE P cal mak (.mind a c)) := by
  subst hx
  subst hn
  refine peI (pe_callBK (ks := [Str.ofString "default"]) (cr_minD g.calm (hu_of' g.room)) gl (g.fr _ (by decide +kernel)) (by decide +kernel) (pa_cons hy pa_nil (star_cons hs)) (pk_cons hz pk_nil) (by decide +kernel) (by decide +kernel) (by rw [star_cons hs]; rfl) (by rw [star_cons hs]; rfl) rfl rfl rfl) fun σ H Q ⟨W, ρ, μ, d, μ', w, en, ee, k⟩ => ?_
  unfold ev at ee
  obtain ⟨x, e1, ee⟩ := bind_some' ee
  obtain ⟨u, e2, ee⟩ := bind_some' ee
  obtain ⟨d', e3, ee⟩ := bind_some' ee
  obtain ⟨xs, e4, ee⟩ := bind_some' ee
  obtain ⟨ns, e5, ee⟩ := bind_some' ee
  cases ee
  refine ⟨W, ρ, μ, x.1, x.2, w, en, e1, fun v W1 H1 x1 w1 r1 _ => ⟨W1, ρ, x.2, u.1, u.2, w1, en.ext x1 w, e2, fun v2 W2 H2 x2 w2 r2 => ?_⟩⟩
  obtain ⟨b, vs, rfl, q1, l1, z1⟩ := (r1.ext x2 w1).lst w2 (show (x.1.top u.2).bind asLst = some xs by rw [e3]; exact e4)
  refine ⟨b, ns, v2, rfl, rfl, g.K ▸ ints_of l1 e5 ▸ q1, ?_⟩
  cases hm : minDf ns with
  | none => rw [hm] at k; exact k _ _ _ (x1.trans x2 w w1) w2 r2
  | some m => rw [hm] at k; exact k _ _ _ (x1.trans x2 w w1) w2 (.int _)
theorem zip_fst {W : Wo} {H : Hp} : ∀ {vs : List V} {ds : List D}, RepL P W H vs ds → (vs.zip ds).map (·.1) = vs ∧ (vs.zip ds).map (·.2) = ds ∧ ∀ p ∈ vs.zip ds, Rep P W H p.1 p.2
  | _, _, .nil => ⟨rfl, rfl, fun _ h => nomatch h⟩
  | v :: vs, d :: ds, .cons r t => by
    obtain ⟨h1, h2, h3⟩ := zip_fst t
    refine ⟨by rw [List.zip_cons_cons, List.map_cons, h1], by rw [List.zip_cons_cons, List.map_cons, h2], fun p hp => ?_⟩
    rw [List.zip_cons_cons] at hp
    rcases List.mem_cons.mp hp with e | hp
    · rw [e]; exact r
    · exact h3 p hp
theorem repl_of {W : Wo} {H : Hp} : ∀ {ps : List (V × D)}, (∀ p ∈ ps, Rep P W H p.1 p.2) → RepL P W H (ps.map (·.1)) (ps.map (·.2))
  | [], _ => .nil
  | p :: ps, h => .cons (h p (.head _)) (repl_of fun q hq => h q (.tail _ hq))
theorem g_srtg (g : GX P n cal mak G X) {x : Str} {y : Expr} {a : R} {p pos : Pos} (hx : x = "sorted") (gl : Gl X x) (hs : starB y = true) (hy : PE X y (tR P cal mak a)) : PE X (.Call (.Name x p) [y] [] pos) (tO P cal mak (.srtg a)) := by
  subst hx
  refine peI (pe_callB (id := "sorted") (cr_srtG (by have := g.room.un; omega)) gl (g.fr _ (by decide +kernel)) (by decide +kernel) (pa_cons hy pa_nil (star_cons hs)) (by decide +kernel) (by decide +kernel) (star_cons hs) rfl) fun σ H Q ⟨W, ρ, μ, d, μ', w, en, ee, k⟩ => ?_
  unfold evO at ee
  obtain ⟨x, e1, ee⟩ := bind_some' ee
  obtain ⟨d', e2, ee⟩ := bind_some' ee
  obtain ⟨xs, e3, ee⟩ := bind_some' ee
  split at ee
  · rename_i hok
    cases ee
    refine ⟨W, ρ, μ, x.1, x.2, w, en, e1, fun v W1 H1 x1 w1 r1 _ => ?_⟩
    obtain ⟨b, vs, rfl, q1, l1, z1⟩ := r1.lst w1 (show (x.1.top x.2).bind asLst = some xs by rw [e2]; exact e3)
    obtain ⟨f1, f2, f3⟩ := zip_fst l1
    unfold srtOk at hok
    obtain ⟨h1, hok⟩ := ba hok
    obtain ⟨h2, h3⟩ := ba hok
    have hmem : ∀ p ∈ vs.zip xs, p.2 ∈ xs := fun p hp => by rw [← f2]; exact List.mem_map.mpr ⟨p, hp, rfl⟩
    have hmm : ∀ p ∈ (vs.zip xs).map (fun p => p.2.py), ∃ d ∈ xs, p = d.py := fun q hq => by
      obtain ⟨p, hp, rfl⟩ := List.mem_map.mp hq
      exact ⟨p.2, hmem p hp, rfl⟩
    refine ⟨b, vs.zip xs, rfl, by rw [f1]; exact g.K ▸ q1, fun p hp => ?_, fun p hp q hq => ?_, ?_, fun p hp => ?_, ?_⟩
    · have := List.all_eq_true.mp h1 p.2 (hmem p hp)
      exact g.K ▸ ((f3 p hp).dp (ba this).1).1
    · obtain ⟨d, hd, rfl⟩ := hmm p hp
      obtain ⟨d', hd', rfl⟩ := hmm q hq
      exact List.all_eq_true.mp (List.all_eq_true.mp h2 d hd) d' hd'
    · rcases Bool.or_eq_true_iff.mp h3 with z | z
      · refine .inl fun q hq => ?_
        obtain ⟨d, hd, rfl⟩ := hmm q hq
        have := List.all_eq_true.mp z d hd
        cases d with
        | tup ys => cases ys with
          | nil => cases this
          | cons y ys => exact ⟨_, _, rfl⟩
        | _ => cases this
      · refine .inr fun q hq => ?_
        obtain ⟨d, hd, rfl⟩ := hmm q hq
        have := List.all_eq_true.mp z d hd
        have hdat := (ba (List.all_eq_true.mp h1 d hd)).1
        cases d <;> first | (cases this; done) | (cases hdat; done) | exact ⟨(fun z => nomatch z), fun xs z => nomatch z⟩
    · have := List.all_eq_true.mp h1 p.2 (hmem p hp)
      exact of_decide_eq_true (ba this).2
    · have em : xs.mergeSort leD = ((vs.zip xs).mergeSort leP).map (·.2) := by
        have hm : ((vs.zip xs).mergeSort leP).map (·.2) = ((vs.zip xs).map (·.2)).mergeSort leD := List.map_mergeSort (r := leP) (s := leD) (f := Prod.snd) (fun _ _ _ _ => rfl)
        rw [hm, f2]
      rw [em] at k
      refine new_lst w x1 w1 (repl_of fun p hp => f3 p (List.mem_mergeSort.mp hp)) ?_ k
      rw [List.length_map, List.length_mergeSort, List.length_zip]
      have := l1.len
      omega
  · cases ee
theorem tupc (g : GX P n cal mak G X) (h : (!G.T.tupC) = true) : P.T.tupC = false := by rw [g.T] at h; simpa using h
theorem g_srtk (g : GX P n cal mak G X) {x : Str} {y : Expr} {a : R} {p pos : Pos} (hx : x = "sorted") (gl : Gl X x) (hs : starB y = true) (hy : PE X y (tR P cal mak a)) : PE X (.Call (.Name x p) [y] [] pos) (tO P cal mak (.srtk a)) := by
  subst hx
  refine peI (pe_callB (id := "sorted") (cr_srtD g.calm) gl (g.fr _ (by decide +kernel)) (by decide +kernel) (pa_cons hy pa_nil (star_cons hs)) (by decide +kernel) (by decide +kernel) (star_cons hs) rfl) fun σ H Q ⟨W, ρ, μ, d, μ', w, en, ee, k⟩ => ?_
  unfold evO at ee
  obtain ⟨x, e1, ee⟩ := bind_some' ee
  obtain ⟨d', e2, ee⟩ := bind_some' ee
  obtain ⟨pp, e3, ee⟩ := bind_some' ee
  obtain ⟨ss, e4, ee⟩ := bind_some' ee
  split at ee
  · rename_i hc
    cases ee
    refine ⟨W, ρ, μ, x.1, x.2, w, en, e1, fun v W1 H1 x1 w1 r1 _ => ?_⟩
    obtain ⟨b, u, vs, rfl, rd, q, rr⟩ := r1.dct w1 (show (x.1.top x.2).bind asDct = some pp by rw [e2]; exact e3)
    obtain ⟨t, es⟩ := pp
    obtain ⟨rfl, h64⟩ := hc
    obtain ⟨kvs, rfl, q1, q2, q3⟩ := q
    have hk := keyStrs_of e4
    have hok : ss.all sok = true := List.all_eq_true.mpr fun z hz => (q3 (.s z) (by show DKey.s z ∈ es.map Prod.fst; rw [hk]; exact List.mem_map.mpr ⟨z, hz, rfl⟩)).2
    refine ⟨b, kvs, ss, rfl, rd, by rw [q1, hk, List.map_map]; rfl, h64, fun p hp => ?_⟩
    exact new_lst w x1 w1 (repl_strs (fun y hy => (srtB_perm ss).mem_iff.mp hy) (repl_sok hok)) (by rw [List.length_map, (srtB_perm ss).length_eq]; show ss.length ≤ 16777216; omega) k p hp
  · cases ee
theorem g_srtset (g : GX P n cal mak G X) {x z : Str} {y : Expr} {a : R} {p p2 q pos : Pos} (hx : x = "sorted") (hz : z = "set") (gl : Gl X x) (gz : Gl X z) (hs : starB y = true) (hy : PE X y (tR P cal mak a)) : PE X (.Call (.Name x p) [.Call (.Name z p2) [y] [] q] [] pos) (tO P cal mak (.srtset a)) := by
  subst hx
  subst hz
  have pset := pe_callTy (T := "set") (pos := q) (p := p2) (cr_setTx g.calm) gz (g.fr _ (by decide +kernel)) (by decide +kernel) (pa_cons hy pa_nil (star_cons hs)) (by decide +kernel) (by decide +kernel) (star_cons hs) rfl
  refine peI (pe_callB (id := "sorted") (cr_srtTx g.calm) gl (g.fr _ (by decide +kernel)) (by decide +kernel) (pa_cons pset pa_nil rfl) (by decide +kernel) (by decide +kernel) rfl rfl) fun σ H Q ⟨W, ρ, μ, d, μ', w, en, ee, k⟩ => ?_
  unfold evO at ee
  obtain ⟨x, e1, ee⟩ := bind_some' ee
  obtain ⟨d', e2, ee⟩ := bind_some' ee
  obtain ⟨xs, e3, ee⟩ := bind_some' ee
  obtain ⟨ss, e4, ee⟩ := bind_some' ee
  split at ee
  · rename_i hc
    cases ee
    refine ⟨W, ρ, μ, x.1, x.2, w, en, e1, fun v W1 H1 x1 w1 r1 _ => ?_⟩
    obtain ⟨b, vs, rfl, q1, l1, z1⟩ := r1.lst w1 (show (x.1.top x.2).bind asLst = some xs by rw [e2]; exact e3)
    have es := l1.strs e4
    subst es
    rw [asStrs_is e4] at l1
    refine ⟨b, ss, rfl, g.K ▸ q1, by unfold scanBound; omega, fun p hp => ?_⟩
    obtain ⟨x2, w2⟩ := addO (o := TxO X.prog X.w p (nub ss)) w1 hp
    refine ⟨p, nub ss, rfl, upd_same, nub_nd ss, hc.2, fun p2 hp2 => ?_⟩
    exact new_lst w (x1.trans x2 w w1) w2 (repl_strs (fun y hy => nub_mem.mp ((srtB_perm _).mem_iff.mp hy)) (l1.ext x2 w1)) (by rw [List.length_map, (srtB_perm _).length_eq]; show _ ≤ 16777216; omega) k p2 hp2
  · cases ee
theorem repl_intsU {W : Wo} {H : Hp} : ∀ {ns : List Int}, RepL P W H (ns.map V.int) (ns.map D.int)
  | [] => .nil
  | n :: ns => .cons (.int n) repl_intsU
theorem g_srtsetI (g : GX P n cal mak G X) {x z : Str} {y : Expr} {a : R} {p p2 q pos : Pos} (hx : x = "sorted") (hz : z = "set") (gl : Gl X x) (gz : Gl X z) (hs : starB y = true) (hy : PE X y (tR P cal mak a)) : PE X (.Call (.Name x p) [.Call (.Name z p2) [y] [] q] [] pos) (tO P cal mak (.srtsetI a)) := by
  subst hx
  subst hz
  have pset := pe_callTy (T := "set") (pos := q) (p := p2) (cr_setI g.calm) gz (g.fr _ (by decide +kernel)) (by decide +kernel) (pa_cons hy pa_nil (star_cons hs)) (by decide +kernel) (by decide +kernel) (star_cons hs) rfl
  refine peI (pe_callB (id := "sorted") (cr_sortedSet g.calm) gl (g.fr _ (by decide +kernel)) (by decide +kernel) (pa_cons pset pa_nil rfl) (by decide +kernel) (by decide +kernel) rfl rfl) fun σ H Q ⟨W, ρ, μ, d, μ', w, en, ee, k⟩ => ?_
  unfold evO at ee
  obtain ⟨x, e1, ee⟩ := bind_some' ee
  obtain ⟨d', e2, ee⟩ := bind_some' ee
  obtain ⟨xs, e3, ee⟩ := bind_some' ee
  obtain ⟨ns, e4, ee⟩ := bind_some' ee
  split at ee
  · rename_i hc
    cases ee
    refine ⟨W, ρ, μ, x.1, x.2, w, en, e1, fun v W1 H1 x1 w1 r1 _ => ?_⟩
    obtain ⟨b, vs, rfl, q1, l1, z1⟩ := r1.lst w1 (show (x.1.top x.2).bind asLst = some xs by rw [e2]; exact e3)
    have es := ints_of l1 e4
    subst es
    refine ⟨b, ns, rfl, g.K ▸ q1, by unfold scanBound; omega, fun p hp => ?_⟩
    obtain ⟨x2, w2⟩ := addO (o := SetO X.w p (fun j => decide (j ∈ ns)) (nubI ns).length) w1 hp
    refine ⟨p, _, _, rfl, upd_same, hc.2, fun ms p2 ho hm hl hp2 => ?_⟩
    have nd : ms.Nodup := ho.imp fun h => Int.ne_of_lt h
    have pm : ms.Perm (nubI ns) := (List.perm_ext_iff_of_nodup nd nubI_nd).mpr fun k => by rw [hm k, nubI_mem, decide_eq_true_eq]
    have e : ms = srtB ltI (nubI ns) := srt_is lin_I pm (ho.imp fun h => by simp only [ltI, decide_eq_false_iff_not]; omega)
    rw [e]
    exact new_lst w (x1.trans x2 w w1) w2 repl_intsU (by rw [List.length_map, (srtB_perm _).length_eq]; show _ ≤ 16777216; omega) k p2 hp2
  · cases ee
theorem zip_lk {α : Type} : ∀ {ps : List Str} {us : List α} {m : Str}, m ∉ ps → (ps.zip us).lookup m = none
  | [], _, _, _ => rfl
  | _ :: _, [], _, _ => rfl
  | p :: ps, u :: us, m, h => by
    rw [List.zip_cons_cons, List.lookup_cons]
    have hp : (m == p) = false := by
      have : m ≠ p := fun z => h (by rw [z]; exact List.mem_cons_self)
      simpa using this
    rw [hp]
    exact zip_lk fun z => h (List.mem_cons_of_mem _ z)
theorem g_meth (g : GX P n cal mak G X) {m : Nat} {o : E} {cs : Es} {so : Expr} {xs : List Expr} {nm : Str} {ap cp : Pos} (h1 : G.T.names[m]? = some nm) (hp : plnB so = true) (hs : xs.all starB = true) (hn : xs.length < 30) (hl : (ap.endLine == cp.line) = true)
    (ho : PE X so (tE P cal mak o)) (ha : PA X xs (tA' P cal mak cs)) (hnil : xs = [] → cs = .nil) : PE X (.Call (.Attribute so nm ap) xs [] cp) (tE P cal mak (.meth m o cs)) := by
  rw [g.T] at h1
  have hnm : P.nm m = nm := by unfold Pl.nm; rw [List.getD_eq_getElem?_getD, h1]; rfl
  have rd : ∀ {t : TA}, (∀ σ H R, tA' P cal mak cs σ H R → t σ H R) → ∀ σ H Q, tE P cal mak (.meth m o cs) σ H Q → tLk (tMD X n nm (tE P cal mak o) t) σ H Q := fun {t} ht σ H Q ⟨W, ρ, μ, d, μ', w, en, ee, k⟩ => by
    unfold ev at ee
    obtain ⟨x, e1, ee⟩ := bind_some' ee
    split at ee
    · rename_i c ds hx
      obtain ⟨f, e2, ee⟩ := bind_some' ee
      obtain ⟨y, e3, ee⟩ := bind_some' ee
      obtain ⟨r, e4, ee⟩ := bind_some' ee
      cases ee
      refine ⟨W, ρ, μ, x.1, x.2, w, en, e1, fun v W1 H1 x1 w1 r1 => ?_⟩
      rw [hx] at r1
      have r1' := r1
      cases r1 with
      | @obj a _ dx vs _ hc hh hf z rr =>
        obtain ⟨q1, q2, F, q4, q5⟩ := g.Y.meth c m f e2 hc
        obtain ⟨kc, hkc⟩ := Option.isSome_iff_exists.mp hc
        obtain ⟨fd, F1, F2⟩ := g.hcal f F q4 q5
        refine ⟨a, P.ca c, dx, _, P.fa f, fd, F.ps, _, rfl, hh, hnm ▸ zip_lk q2, g.K ▸ g.Y.cl c kc hkc, g.K ▸ hnm ▸ q1, F1, F2, ?_⟩
        refine ht _ _ _ ⟨W1, ρ, x.2, y.1, y.2, w1, en.ext x1 w, e3, fun us W2 H2 x2 w2 r2 => ?_⟩
        refine ⟨W2, y.2, _, r, ?_, w2, .cons (r1'.ext x2 w1) r2, e4, fun v W' H' x' w' rr' => ?_⟩
        · have := g.calL f F _ _ _ q4 e4
          rw [List.length_cons, r2.len]
          rw [List.length_cons] at this
          exact this
        · unfold RetRep at rr'
          have x02 := x1.tr x2 w1
          split at rr'
          · obtain ⟨b, rfl, ob, hn⟩ := rr'
            exact freeze_or w' ob fun H5 hb w5 r5 => k _ _ _ ((x02.tr x' w2).addFu (x02.free w2 hn) hb) w5 r5
          · exact .inl (k v W' H' (x02.tr x' w2) w' rr')
    · cases ee
  cases xs with
  | nil =>
    cases hnil rfl
    refine peI (pe_lk (pe_methD0 hp hl ho g.gd (room_n g))) (rd fun σ H R ⟨W, ρ, μ, d, μ', w, en, ee, k⟩ => ?_)
    unfold evs at ee
    cases ee
    exact k [] W H .refl w .nil
  | cons e es => exact peI (pe_lk (pe_methD hp hs hn hl ho g.gd (room_n g) ha)) (rd fun _ _ _ h => h)
theorem g_methC (g : GX P n cal mak G X) {m : Nat} {o : E} {cs : Es} {so : Expr} {xs : List Expr} {nm : Str} {ap cp : Pos} (h1 : G.T.names[m]? = some nm) (hp : plnB so = true) (hs : xs.all starB = true) (hn : xs.length < 30) (hl : (ap.endLine == cp.line) = true)
    (ho : PE X so (tE P cal mak o)) (ha : PA X xs (tA' P cal mak cs)) (hnil : xs = [] → cs = .nil) : PE X (.Call (.Attribute so nm ap) xs [] cp) (tE P cal mak (.methC m o cs)) := by
  rw [g.T] at h1
  have hnm : P.nm m = nm := by unfold Pl.nm; rw [List.getD_eq_getElem?_getD, h1]; rfl
  have rd : ∀ {t : TA}, (∀ σ H R, tA' P cal mak cs σ H R → t σ H R) → ∀ σ H Q, tE P cal mak (.methC m o cs) σ H Q → tLk (tMD X n nm (tE P cal mak o) t) σ H Q := fun {t} ht σ H Q ⟨W, ρ, μ, d, μ', w, en, ee, k⟩ => by
    unfold ev at ee
    obtain ⟨x, e1, ee⟩ := bind_some' ee
    split at ee
    · rename_i cn hx
      split at ee
      · rename_i c ds hcn
        obtain ⟨f, e2, ee⟩ := bind_some' ee
        obtain ⟨y, e3, ee⟩ := bind_some' ee
        obtain ⟨r, e4, ee⟩ := bind_some' ee
        cases ee
        refine ⟨W, ρ, μ, x.1, x.2, w, en, e1, fun v W1 H1 x1 w1 r1 => ?_⟩
        rw [hx] at r1
        have r1' := r1
        cases r1 with
        | @cell _ a hm =>
        cases w1.cell cn a _ hm hcn with
        | @obj _ dx vs _ hc hh z rr =>
        obtain ⟨q1, q2, F, q4, q5⟩ := g.Y.meth c m f e2 hc
        obtain ⟨kc, hkc⟩ := Option.isSome_iff_exists.mp hc
        obtain ⟨fd, F1, F2⟩ := g.hcal f F q4 q5
        refine ⟨a, P.ca c, dx, _, P.fa f, fd, F.ps, _, rfl, hh, hnm ▸ zip_lk q2, g.K ▸ g.Y.cl c kc hkc, g.K ▸ hnm ▸ q1, F1, F2, ?_⟩
        refine ht _ _ _ ⟨W1, ρ, x.2, y.1, y.2, w1, en.ext x1 w, e3, fun us W2 H2 x2 w2 r2 => ?_⟩
        refine ⟨W2, y.2, _, r, ?_, w2, .cons (r1'.ext x2 w1) r2, e4, fun v W' H' x' w' rr' => ?_⟩
        · have := g.calL f F _ _ _ q4 e4
          rw [List.length_cons, r2.len]
          rw [List.length_cons] at this
          exact this
        · unfold RetRep at rr'
          have x02 := x1.tr x2 w1
          split at rr'
          · obtain ⟨b, rfl, ob, hn⟩ := rr'
            exact freeze_or w' ob fun H5 hb w5 r5 => k _ _ _ ((x02.tr x' w2).addFu (x02.free w2 hn) hb) w5 r5
          · exact .inl (k v W' H' (x02.tr x' w2) w' rr')
      · cases ee
    · cases ee
  cases xs with
  | nil =>
    cases hnil rfl
    refine peI (pe_lk (pe_methD0 hp hl ho g.gd (room_n g))) (rd fun σ H R ⟨W, ρ, μ, d, μ', w, en, ee, k⟩ => ?_)
    unfold evs at ee
    cases ee
    exact k [] W H .refl w .nil
  | cons e es => exact peI (pe_lk (pe_methD hp hs hn hl ho g.gd (room_n g) ha)) (rd fun _ _ _ h => h)
theorem RepL.ofStrs {W : Wo} {H : Hp} : ∀ {ys : List Str}, ys.all sok = true → RepL P W H (ys.map V.str) (ys.map D.str)
  | [], _ => .nil
  | y :: ys, h => by
    rw [List.all_cons] at h
    exact .cons (.str _ (ba h).1) (RepL.ofStrs (ba h).2)
theorem g_split (g : GX P n cal mak G X) {so y : Expr} {s t : E} {nm : Str} {ap cp : Pos} (hnm : nm = "split") (hp : plnB so = true) (hs : starB y = true) (hl : (ap.endLine == cp.line) = true) (h1 : PE X so (tE P cal mak s)) (h2 : PE X y (tE P cal mak t)) :
    PE X (.Call (.Attribute so nm ap) [y] [] cp) (tO P cal mak (.split s t)) := by
  subst hnm
  refine peI (pe_split h1 h2 (star_cons hs) (plain_attr hp) hl) fun σ H Q ⟨W, ρ, μ, d, μ', w, en, ee, k⟩ => ?_
  unfold evO at ee
  obtain ⟨x, e1, ee⟩ := bind_some' ee
  obtain ⟨y, e2, ee⟩ := bind_some' ee
  split at ee
  · rename_i a b ha hb
    split at ee
    · rename_i hc
      cases ee
      refine ⟨W, ρ, μ, x.1, x.2, w, en, e1, fun v W1 H1 x1 w1 r1 => ?_⟩
      rw [ha] at r1
      cases r1 with
      | str _ hv =>
        refine ⟨⟨_, rfl⟩, W1, ρ, x.2, y.1, y.2, w1, en.ext x1 w, e2, fun u W2 H2 x2 w2 r2 => ?_⟩
        rw [hb] at r2
        cases r2 with
        | str _ hv2 => exact ⟨a, b, rfl, rfl, hc.1, by rw [← lim_eq]; exact hc.2.1, new_lst w (x1.tr x2 w1) w2 (.ofStrs hc.2.2.1) (by rw [List.length_map]; exact hc.2.2.2) k⟩
    · cases ee
  · cases ee
/-- a list that is only read lasts -/
theorem persist (hK : X.K = P.K) {W1 : Wo} {H1 : Hp} {v : V} {dx d : D} {μ1 : Sto} {xs : List D} (w1 : Wd P W1 H1 μ1) (r : Rep P W1 H1 v dx) (e2 : dx.top μ1 = some d) (e3 : asLst d = some xs) :
    ∃ a vs, v = .ref a ∧ SqL X.K H1 a vs ∧ xs.length ≤ LIM ∧ ∀ (W2 : Wo) (H2 : Hp) (μ2 : Sto), Keep W1 H1 W2 H2 → Wd P W2 H2 μ2 → stay (seqGd dx μ1) μ2 = true → ∃ ws, SqL X.K H2 a ws ∧ RepL P W2 H2 ws xs := by
  obtain ⟨a, vs, rfl, q1, l1, z1⟩ := RRep.lst w1 (.inl r) (show (dx.top μ1).bind asLst = some xs by rw [e2]; exact e3)
  refine ⟨a, vs, rfl, hK ▸ q1, by rw [← l1.len]; exact z1, fun W2 H2 μ2 kp w2 st => ?_⟩
  cases dx with
  | cell m =>
    cases r with
    | cell hm =>
      have e2' : μ1[m]? = some d := e2
      have sg : seqGd (.cell m) μ1 = some (m, d) := by
        show (μ1[m]?).map (fun d => (m, d)) = _
        rw [e2']; rfl
      rw [sg] at st
      have st := stay_eq st
      obtain ⟨l, el⟩ := kp.pre
      have hm2 : W2.ι[m]? = some a := by
        rw [el, List.getElem?_append_left (List.getElem?_eq_some_iff.mp hm).1]
        exact hm
      cases w2.cell m a d hm2 st with
      | lst hh z rr =>
        cases e3
        exact ⟨_, .of hh, rr⟩
      | obj => cases e3
      | dct => cases e3
  | lst zs =>
    cases e2
    cases e3
    cases r with
    | lst q f z rr =>
      refine ⟨_, ?_, rr.keep kp⟩
      rcases f with f | f
      · exact hK ▸ SqL_rd q fun o hh => kp.rd _ o f hh
      · exact hK ▸ f H2
  | _ => cases e2; cases e3
theorem g_ienum (g : GX P n cal mak G X) {elts : List Expr} {kk : Nat} {tp : Pos} {x : Str} {y : Expr} {a : E} {p pos : Pos} (hx : x = "enumerate") (gl : Gl X x) (hs : starB y = true) (hy : PE X y (tE P cal mak a)) :
    PI X (.Tuple elts kk tp) (.Call (.Name x p) [y] [] pos) (tI P cal mak (.enum a)) := by
  subst hx
  refine piI (pi_enum gl (g.fr _ (by decide +kernel)) (pa_cons hy pa_nil (star_cons hs)) (star_cons hs)) fun σ H Rr ⟨W, ρ, μ, xs, gd, μ', w, en, ee, k⟩ => ?_
  unfold evI at ee
  obtain ⟨x, e1, ee⟩ := bind_some' ee
  obtain ⟨d, e2, ee⟩ := bind_some' ee
  obtain ⟨ys, e3, ee⟩ := bind_some' ee
  cases ee
  refine ⟨W, ρ, μ, x.1, x.2, w, en, e1, fun v W1 H1 x1 w1 r1 => ?_⟩
  obtain ⟨b, vs, rfl, q, hz, ps⟩ := persist (X := X) g.K w1 r1 e2 e3
  refine ⟨b, vs, rfl, q, k W1 H1 _ [] x1 w1 (fun _ => rfl) (fun _ h => nomatch h) (fun i W2 H2 μ2 kp _ w2 st => ?_) (by rw [List.length_map, List.length_zipIdx]; exact hz)⟩
  obtain ⟨ws, q2, r2⟩ := ps W2 H2 μ2 kp w2 st
  have hlen := r2.len
  rw [List.length_map, List.length_zipIdx]
  refine ⟨fun hi => ⟨⟨ws, ws[i]'(by omega), q2, List.getElem?_eq_getElem (by omega)⟩, fun u H3 hy => ?_⟩, fun hi => ⟨ws, q2, by omega⟩⟩
  obtain ⟨Tt, z, rfl, hT, rfl, hall⟩ := hy
  have hz := hall ws q2
  obtain ⟨d', hd'⟩ : ∃ d', ys[i]? = some d' := ⟨_, List.getElem?_eq_getElem hi⟩
  obtain ⟨v', hv', rv'⟩ := r2.get hd'
  rw [hz] at hv'
  cases hv'
  obtain ⟨x3, w3⟩ := addF (o := .tup [.int (i : Nat), z]) w2 hT
  refine ⟨_, .tup [.int (i : Nat), d'], x3, w3, ?_, .tup (.inl (.inl upd_same)) (.inl ⟨.inr rfl, upd_same⟩) (show 2 ≤ LIM by decide) (.cons (.int _) (.cons (rv'.ext x3 w2) .nil))⟩
  rw [List.getElem?_map, List.getElem?_zipIdx, hd']
  simp
theorem persistT (hK : X.K = P.K) {W1 : Wo} {H1 : Hp} {v : V} {μ1 : Sto} {xs : List D} (w1 : Wd P W1 H1 μ1) (r : Rep P W1 H1 v (.tup xs)) :
    ∃ a vs, v = .ref a ∧ SqT X.K H1 a vs ∧ xs.length ≤ LIM ∧ ∀ (W2 : Wo) (H2 : Hp) (μ2 : Sto), Keep W1 H1 W2 H2 → Wd P W2 H2 μ2 → ∃ ws, SqT X.K H2 a ws ∧ RepL P W2 H2 ws xs := by
  have r0 := r
  cases r with
  | tup q f z rr =>
    refine ⟨_, _, rfl, hK ▸ q, by rw [← rr.len]; exact z, fun W2 H2 μ2 kp w2 => ?_⟩
    cases r0.keep kp with
    | tup q f z rr => exact ⟨_, hK ▸ q, rr⟩
theorem g_ienumT (g : GX P n cal mak G X) {elts : List Expr} {kk : Nat} {tp : Pos} {x : Str} {y : Expr} {a : E} {p pos : Pos} (hx : x = "enumerate") (gl : Gl X x) (hs : starB y = true) (hy : PE X y (tE P cal mak a)) :
    PI X (.Tuple elts kk tp) (.Call (.Name x p) [y] [] pos) (tI P cal mak (.enumT a)) := by
  subst hx
  refine piI (pi_enumT gl (g.fr _ (by decide +kernel)) (pa_cons hy pa_nil (star_cons hs)) (star_cons hs)) fun σ H Rr ⟨W, ρ, μ, xs, gd, μ', w, en, ee, k⟩ => ?_
  unfold evI at ee
  obtain ⟨x, e1, ee⟩ := bind_some' ee
  split at ee
  · rename_i ys hys
    cases ee
    refine ⟨W, ρ, μ, x.1, x.2, w, en, e1, fun v W1 H1 x1 w1 r1 => ?_⟩
    rw [hys] at r1
    obtain ⟨b, vs, rfl, q, hz, ps⟩ := persistT (X := X) g.K w1 r1
    refine ⟨b, vs, rfl, q, k W1 H1 _ [] x1 w1 (fun _ => rfl) (fun _ h => nomatch h) (fun i W2 H2 μ2 kp _ w2 st => ?_) (by rw [List.length_map, List.length_zipIdx]; exact hz)⟩
    obtain ⟨ws, q2, r2⟩ := ps W2 H2 μ2 kp w2
    have hlen := r2.len
    rw [List.length_map, List.length_zipIdx]
    refine ⟨fun hi => ⟨⟨ws, ws[i]'(by omega), q2, List.getElem?_eq_getElem (by omega)⟩, fun u H3 hy => ?_⟩, fun hi => ⟨ws, q2, by omega⟩⟩
    obtain ⟨Tt, z, ⟨rfl, hT, rfl⟩, hall⟩ := hy
    have hz := hall ws q2
    obtain ⟨d', hd'⟩ : ∃ d', ys[i]? = some d' := ⟨_, List.getElem?_eq_getElem hi⟩
    obtain ⟨v', hv', rv'⟩ := r2.get hd'
    rw [hz] at hv'
    cases hv'
    obtain ⟨x3, w3⟩ := addF (o := .tup [.int (i : Nat), z]) w2 hT
    refine ⟨_, .tup [.int (i : Nat), d'], x3, w3, ?_, .tup (.inl (.inl upd_same)) (.inl ⟨.inr rfl, upd_same⟩) (show 2 ≤ LIM by decide) (.cons (.int _) (.cons (rv'.ext x3 w2) .nil))⟩
    rw [List.getElem?_map, List.getElem?_zipIdx, hd']
    simp
  · cases ee
theorem g_izip (g : GX P n cal mak G X) {elts : List Expr} {kk : Nat} {tp : Pos} {x : Str} {y z : Expr} {a b : E} {p pos : Pos} (hx : x = "zip") (gl : Gl X x) (hs : starB y = true) (hs2 : starB z = true) (hy : PE X y (tE P cal mak a)) (hz : PE X z (tE P cal mak b)) :
    PI X (.Tuple elts kk tp) (.Call (.Name x p) [y, z] [] pos) (tI P cal mak (.zip a b)) := by
  subst hx
  have pl : (backTo pos (starEach [z] X.env)).any (·.1) = false := by rw [star_cons hs2]; rfl
  refine piI (pi_zipX gl (g.fr _ (by decide +kernel)) (pa_cons hy (pa_cons hz pa_nil (star_cons hs2)) (star_cons hs)) (star_cons hs) pl) fun σ H Rr ⟨W, ρ, μ, xs, gd, μ', w, en, ee, k⟩ => ?_
  unfold evI at ee
  obtain ⟨x, e1, ee⟩ := bind_some' ee
  obtain ⟨y, e4, ee⟩ := bind_some' ee
  obtain ⟨d, e2, ee⟩ := bind_some' ee
  obtain ⟨ys, e3, ee⟩ := bind_some' ee
  split at ee
  · rename_i zs hzs
    cases ee
    refine ⟨W, ρ, μ, x.1, x.2, w, en, e1, fun v W1 H1 x1 w1 r1 => ⟨W1, ρ, x.2, y.1, y.2, w1, en.ext x1 w, e4, fun v2 W2 H2 x2 w2 r2 => ?_⟩⟩
    obtain ⟨b, vs, rfl, q, hz, ps⟩ := persist (X := X) g.K w2 (r1.ext x2 w1) e2 e3
    rw [hzs] at r2
    obtain ⟨c, us, rfl, q', hz', ps'⟩ := persist (X := X) (dx := .lst zs) (μ1 := y.2) g.K w2 r2 rfl rfl
    refine ⟨b, c, vs, us, rfl, q, .inl ⟨q', k W2 H2 _ [] (x1.tr x2 w1) w2 (fun _ => rfl) (fun _ h => nomatch h) (fun i W3 H3 μ3 kp _ w3 st => ?_) (by rw [List.length_map, List.length_zip]; omega)⟩⟩
    obtain ⟨ws, q2, r3⟩ := ps W3 H3 μ3 kp w3 st
    obtain ⟨ws', q2', r3'⟩ := ps' W3 H3 μ3 kp w3 (by show stay (seqGd (.lst zs) y.2) μ3 = true; rfl)
    have hlen := r3.len
    have hlen' := r3'.len
    rw [List.length_map, List.length_zip]
    refine ⟨fun hi => ⟨⟨ws, ws', ws[i]'(by omega), ws'[i]'(by omega), q2, q2', List.getElem?_eq_getElem (by omega), List.getElem?_eq_getElem (by omega)⟩, fun u H4 hy => ?_⟩, fun hi => ⟨ws, ws', q2, q2', by omega⟩⟩
    obtain ⟨Tt, z1, z2, rfl, hT, rfl, hall, hall'⟩ := hy
    have hz1 := hall ws q2
    have hz2 := hall' ws' q2'
    obtain ⟨d1, hd1⟩ : ∃ d', ys[i]? = some d' := ⟨_, List.getElem?_eq_getElem (by omega)⟩
    obtain ⟨d2, hd2⟩ : ∃ d', zs[i]? = some d' := ⟨_, List.getElem?_eq_getElem (by omega)⟩
    obtain ⟨v1, hv1, rv1⟩ := r3.get hd1
    obtain ⟨v2, hv2, rv2⟩ := r3'.get hd2
    rw [hz1] at hv1
    rw [hz2] at hv2
    cases hv1
    cases hv2
    obtain ⟨x4, w4⟩ := addF (o := .tup [z1, z2]) w3 hT
    refine ⟨_, .tup [d1, d2], x4, w4, ?_, .tup (.inl (.inl upd_same)) (.inl ⟨.inr rfl, upd_same⟩) (show 2 ≤ LIM by decide) (.cons (rv1.ext x4 w3) (.cons (rv2.ext x4 w3) .nil))⟩
    have hzip : (ys.zip zs)[i]? = some (d1, d2) := List.getElem?_zip_eq_some.mpr ⟨hd1, hd2⟩
    rw [List.getElem?_map, hzip]
    rfl
  · rename_i zs hzs
    cases ee
    refine ⟨W, ρ, μ, x.1, x.2, w, en, e1, fun v W1 H1 x1 w1 r1 => ⟨W1, ρ, x.2, y.1, y.2, w1, en.ext x1 w, e4, fun v2 W2 H2 x2 w2 r2 => ?_⟩⟩
    obtain ⟨b, vs, rfl, q, hz, ps⟩ := persist (X := X) g.K w2 (r1.ext x2 w1) e2 e3
    rw [hzs] at r2
    obtain ⟨c, us, rfl, q', hz', ps'⟩ := persistT (X := X) g.K w2 r2
    refine ⟨b, c, vs, us, rfl, q, .inr ⟨q', k W2 H2 _ [] (x1.tr x2 w1) w2 (fun _ => rfl) (fun _ h => nomatch h) (fun i W3 H3 μ3 kp _ w3 st => ?_) (by rw [List.length_map, List.length_zip]; omega)⟩⟩
    obtain ⟨ws, q2, r3⟩ := ps W3 H3 μ3 kp w3 st
    obtain ⟨ws', q2', r3'⟩ := ps' W3 H3 μ3 kp w3
    have hlen := r3.len
    have hlen' := r3'.len
    rw [List.length_map, List.length_zip]
    refine ⟨fun hi => ⟨⟨ws, ws', ws[i]'(by omega), ws'[i]'(by omega), ⟨q2, q2'⟩, List.getElem?_eq_getElem (by omega), List.getElem?_eq_getElem (by omega)⟩, fun u H4 hy => ?_⟩, fun hi => ⟨ws, ws', ⟨q2, q2'⟩, by omega, by omega, by omega⟩⟩
    obtain ⟨Tt, z1, z2, ⟨rfl, hT, rfl⟩, hall, hall'⟩ := hy
    have hz1 := hall ws q2
    have hz2 := hall' ws' q2'
    obtain ⟨d1, hd1⟩ : ∃ d', ys[i]? = some d' := ⟨_, List.getElem?_eq_getElem (by omega)⟩
    obtain ⟨d2, hd2⟩ : ∃ d', zs[i]? = some d' := ⟨_, List.getElem?_eq_getElem (by omega)⟩
    obtain ⟨v1, hv1, rv1⟩ := r3.get hd1
    obtain ⟨v2, hv2, rv2⟩ := r3'.get hd2
    rw [hz1] at hv1
    rw [hz2] at hv2
    cases hv1
    cases hv2
    obtain ⟨x4, w4⟩ := addF (o := .tup [z1, z2]) w3 hT
    refine ⟨_, .tup [d1, d2], x4, w4, ?_, .tup (.inl (.inl upd_same)) (.inl ⟨.inr rfl, upd_same⟩) (show 2 ≤ LIM by decide) (.cons (rv1.ext x4 w3) (.cons (rv2.ext x4 w3) .nil))⟩
    have hzip : (ys.zip zs)[i]? = some (d1, d2) := List.getElem?_zip_eq_some.mpr ⟨hd1, hd2⟩
    rw [List.getElem?_map, hzip]
    rfl
  · cases ee
theorem RepL.repl {W : Wo} {H : Hp} {vs : List V} {ds : List D} (r : RepL P W H vs ds) : ∀ m : Nat, RepL P W H (List.replicate m vs).flatten (List.replicate m ds).flatten
  | 0 => .nil
  | m + 1 => by
    rw [List.replicate_succ, List.replicate_succ, List.flatten_cons, List.flatten_cons]
    exact r.append (RepL.repl r m)
theorem flat_len {α : Type} (xs : List α) : ∀ m : Nat, ((List.replicate m xs).flatten).length = xs.length * m
  | 0 => rfl
  | m + 1 => by rw [List.replicate_succ, List.flatten_cons, List.length_append, flat_len xs m, Nat.mul_succ, Nat.add_comm]
theorem g_repR (g : GX P n cal mak G X) {a : R} {k : E} {l r : Expr} {pos : Pos} (hl : PE X l (tR P cal mak a)) (hr : PE X r (tE P cal mak k)) : PE X (.BinOp l .Mult r pos) (tO P cal mak (.repR a k)) := by
  refine peI (pe_op op_repG hl hr) fun σ H Q ⟨W, ρ, μ, d, μ', w, en, ee, kk⟩ => ?_
  unfold evO at ee
  obtain ⟨x, e1, ee⟩ := bind_some' ee
  obtain ⟨y, e2, ee⟩ := bind_some' ee
  obtain ⟨d', e3, ee⟩ := bind_some' ee
  obtain ⟨xs, e4, ee⟩ := bind_some' ee
  split at ee
  · rename_i kv hy
    split at ee
    · rename_i hc
      cases ee
      refine ⟨W, ρ, μ, x.1, x.2, w, en, e1, fun v1 W1 H1 x1 w1 r1 _ => ⟨W1, ρ, x.2, y.1, y.2, w1, en.ext x1 w, e2, fun v2 W2 H2 x2 w2 r2 => ?_⟩⟩
      rw [hy] at r2
      cases r2
      obtain ⟨b, vs, rfl, q1, l1, z1⟩ := (r1.ext x2 w1).lst w2 (show (x.1.top y.2).bind asLst = some xs by rw [e3]; exact e4)
      have hlen := l1.len
      refine ⟨b, kv, vs, rfl, rfl, g.K ▸ q1, hc.1, hc.2.1, by rw [← lim_eq, hlen]; exact hc.2.2, new_lst w (x1.tr x2 w1) w2 (l1.repl _) ?_ kk⟩
      rw [flat_len, hlen]; exact hc.2.2
    · cases ee
  · cases ee
theorem g_rep (g : GX P n cal mak G X) {i : Nat} {k : E} {x : Str} {r : Expr} {px pos : Pos} (h1 : G.N[i]? = some x) (h2 : visB G.sc x = true) (h3 : nmOk x = true) (hr : PE X r (tE P cal mak k)) : PE X (.BinOp (.Name x px) .Mult r pos) (tO P cal mak (.rep i k)) := by
  obtain ⟨d1, d2, _⟩ := nmOk_of h3
  refine peI (pe_op op_rep (pe_var (i := i) (by rw [g.N]; exact h1) (g.vis h2) d1 d2) hr) fun σ H Q ⟨W, ρ, μ, d, μ', w, en, ee, kk⟩ => ?_
  unfold evO at ee
  obtain ⟨y, e1, ee⟩ := bind_some' ee
  split at ee
  · rename_i xs kv hd hy
    split at ee
    · rename_i hc
      cases ee
      obtain ⟨a, ha, ow⟩ := en.ow i _ hd
      refine ⟨.ref a, ha, W, ρ, μ, y.1, y.2, w, en, e1, fun v W1 H1 x1 w1 r1 => ?_⟩
      rw [hy] at r1
      cases r1
      have ow1 := ow.ext x1 w
      cases ow1.c with
      | lst hh z rr =>
        rename_i vs
        have hlen := rr.len
        refine ⟨a, kv, vs, rfl, rfl, hh, hc.1, hc.2.1, by rw [← lim_eq, hlen]; exact hc.2.2, new_lst w x1 w1 ?_ ?_ kk⟩
        · have : ∀ m : Nat, RepL P W1 H1 (List.replicate m vs).flatten (List.replicate m xs).flatten := by
            intro m
            induction m with
            | zero => exact .nil
            | succ m ih =>
              rw [List.replicate_succ, List.replicate_succ, List.flatten_cons, List.flatten_cons]
              exact rr.append ih
          exact this _
        · have : ∀ m : Nat, (List.replicate m vs).flatten.length = vs.length * m := by
            intro m
            induction m with
            | zero => rfl
            | succ m ih => rw [List.replicate_succ, List.flatten_cons, List.length_append, ih, Nat.mul_succ]; omega
          rw [this, hlen]
          exact hc.2.2
    · cases ee
  · cases ee
theorem evs_len {T : Tab} : ∀ {es : Es} {ds : List D} {ρ : Rho} {μ μ' : Sto}, evs T cal mak es ρ μ = some (ds, μ') → ds.length = es.len
  | .nil, ds, ρ, μ, μ', h => by
    unfold evs at h
    cases h
    rfl
  | .cons e es, ds, ρ, μ, μ', h => by
    unfold evs at h
    obtain ⟨x, e1, h⟩ := bind_some' h
    obtain ⟨y, e2, h⟩ := bind_some' h
    have ih := evs_len (ds := y.1) (μ' := y.2) e2
    cases h
    exact congrArg Nat.succ ih
theorem chkEs_len : ∀ {es : Es} {xs : List Expr}, chkEs G es xs = true → es.len = xs.length
  | .nil, xs, h => by
    cases xs with
    | nil => rfl
    | cons _ _ => unfold chkEs at h; cases h
  | .cons e es, xs, h => by
    cases xs with
    | nil => unfold chkEs at h; cases h
    | cons x r =>
      unfold chkEs at h
      exact congrArg Nat.succ (chkEs_len (ba (ba h).2).2)
theorem chkEs_nil {es : Es} {xs : List Expr} (h : chkEs G es xs = true) (hx : xs = []) : es = .nil := by
  subst hx
  cases es with
  | nil => rfl
  | cons e es => unfold chkEs at h; cases h
theorem blk_gx (g : GX P n cal mak G X) {scope : Scope} (hk : (relS scope G.sc).kind = .function) (s : Shared) (H : Hp) (C : Addr) (cl : List (Str × Addr)) (fp : List Addr) : GX P n cal mak (blkG G scope) (X.blk s H scope (compEnvC scope cl C X.env) fp) := by
  have hsc : (X.blk s H scope (compEnvC scope cl C X.env) fp).env.scope = relS scope G.sc := by
    show relS scope X.env.scope = _
    rw [g.sc]
  refine ⟨g.K, g.T, g.N, g.nd, hsc, hk, g.calm, PassesOwn.never, g.room, g.gd, g.Y, g.tb, g.fr, fun x hx => ?_, g.hcal, g.hmak, g.hcalx, g.hmakx, g.xmak, g.xmakC, g.xf, g.calF, g.calL, g.makL⟩
  have hx : ((match scope.names.lookup x with | some .cell => true | _ => false) || (match (relS scope G.sc).names.lookup x with | some .local => true | _ => false)) = true := hx
  rw [Bool.or_eq_true] at hx
  rcases hx with hx | hx
  · left
    show (scope.names.lookup x == some .cell) = true
    split at hx
    · rename_i q; rw [q]; rfl
    · cases hx
  · right
    rw [hsc]
    split at hx
    · assumption
    · cases hx
def AsgO (P : Pl) (cal : Cal) (mak : Mak) (G : Ga) (X : Cx) (e : Expr) (o : O) : Prop := ∀ (i : Nat) (y : Str) (py spos : Pos), G.N[i]? = some y → locB G.sc y = true → G.w y = true → PS X (.Assign [.Name y py] e spos) (tAsg (tO P cal mak o) (gName i))
theorem asg_of (g : GX P n cal mak G X) {e : Expr} {te : TE} (h : PE X e te) {i : Nat} {y : Str} {py spos : Pos} (h1 : G.N[i]? = some y) (h2 : locB G.sc y = true) (h3 : G.w y = true) (hs : swapsWith e (some (.Name y py)) spos.line X.env = pure false) :
    PS X (.Assign [.Name y py] e spos) (tAsg te (gName i)) := ps_set (i := i) (by rw [g.N]; exact g.nd) (by rw [g.N]; exact h1) (g.loc h2) h hs (g.st y h3)
theorem sndO_pl (o : O) {e : Expr} {env : PySem.Env} (h : chkO G o e = true) : ∀ whole, isTrue e env whole = (do let v ← whole; standAt e.pos; holding [v] (truthy v)) := by
  intro whole
  cases e <;> first | rfl | skip
  all_goals (exfalso; cases o <;> first | (unfold chkO at h; cases h; done) | (unfold chkO at h; simp at h; done))
theorem sndO_bo (o : O) {e : Expr} (h : chkO G o e = true) : ∀ op vs pos, e ≠ .BoolOp op vs pos := by
  intro op vs pos q
  subst q
  cases o <;> first | (unfold chkO at h; cases h; done) | (unfold chkO at h; simp at h; done)
mutual
theorem sndE : ∀ (c : E) {G : Ga} {X : Cx} {e : Expr}, GX P n cal mak G X → chkE G c e = true → Snd P cal mak X e c
  | .k d, G, X, e, g, h => by
    unfold chkE at h
    cases e <;> first | (cases h; done) | skip
    obtain ⟨v, p, r⟩ := const_rep h
    exact snd_plain (peI p fun σ H Q ⟨W, ρ, μ, d', μ', w, en, ee, k⟩ => by unfold ev at ee; cases ee; exact k v W H .refl w (r W H)) (fun _ => rfl) (fun _ _ _ q => nomatch q)
  | .gl j, G, X, e, g, h => by
    unfold chkE at h
    cases e <;> first | (cases h; done) | skip
    obtain ⟨h1, h⟩ := ba h
    obtain ⟨h2, h3⟩ := ba h
    split at h3
    · rename_i q hq
      have e := of_decide_eq_true h3
      subst e
      exact snd_plain (g_glob g (d := q.2) hq h1 h2) (fun _ => rfl) (fun _ _ _ q => nomatch q)
    · cases h3
  | .v i, G, X, e, g, h => by
    unfold chkE at h
    cases e <;> first | (cases h; done) | skip
    obtain ⟨h1, h⟩ := ba h
    obtain ⟨h2, h3⟩ := ba h
    exact snd_plain (g_var g (of_decide_eq_true h1) h2 h3) (fun _ => rfl) (fun _ _ _ q => nomatch q)
  | .bin op a b, G, X, e, g, h => by
    unfold chkE at h
    cases e <;> first | (cases h; done) | skip
    obtain ⟨h1, h⟩ := ba h
    obtain ⟨h2, h3⟩ := ba h
    have e1 := of_decide_eq_true h1
    subst e1
    exact snd_plain (g_bin g (sndE a g h2).pe (sndE b g h3).pe) (fun _ => rfl) (fun _ _ _ q => nomatch q)
  | .neg a, G, X, e, g, h => by
    unfold chkE at h
    cases e <;> first | (cases h; done) | skip
    rename_i op x pos
    cases op <;> first | (cases h; done) | skip
    exact snd_plain (g_neg (sndE a g h).pe) (fun _ => rfl) (fun _ _ _ q => nomatch q)
  | .not a, G, X, e, g, h => by
    unfold chkE at h
    cases e <;> first | (cases h; done) | skip
    rename_i op x pos
    cases op <;> first | (cases h; done) | skip
    exact g_not (sndE a g h)
  | .cmp op a b, G, X, e, g, h => by
    unfold chkE at h
    split at h
    · obtain ⟨h1, h⟩ := ba h
      obtain ⟨h2, h⟩ := ba h
      obtain ⟨h3, h4⟩ := ba h
      have e1 := of_decide_eq_true h1
      subst e1
      exact g_cmp g h2 (sndR a g h3) (sndR b g h4)
    · cases h
  | .chn o1 o2 a b c, G, X, e, g, h => by
    unfold chkE at h
    split at h
    · obtain ⟨h1, h⟩ := ba h
      obtain ⟨h1', h⟩ := ba h
      obtain ⟨h2, h⟩ := ba h
      obtain ⟨h3, h⟩ := ba h
      obtain ⟨h4, h5⟩ := ba h
      have e1 := of_decide_eq_true h1
      subst e1
      have e2 := of_decide_eq_true h1'
      subst e2
      exact g_chn g h2 (sndE a g h3).pe (sndE b g h4).pe (sndE c g h5).pe
    · cases h
  | .and a b, G, X, e, g, h => by
    unfold chkE at h
    split at h
    · obtain ⟨h1, h2⟩ := ba h
      have hb := sndE b g h2
      exact g_and (sndE a g h1) (pe_one hb.pe) (pw_and1 hb.pt)
    · obtain ⟨h1, h2⟩ := ba h
      have hb := sndE b g h2
      exact g_and (sndE a g h1) hb.pe (hb.pw _ _ _ rfl)
    · cases h
  | .or a b, G, X, e, g, h => by
    unfold chkE at h
    split at h
    · obtain ⟨h1, h2⟩ := ba h
      have hb := sndE b g h2
      exact g_or (sndE a g h1) (pe_one hb.pe) (pw_or1 hb.pt)
    · obtain ⟨h1, h2⟩ := ba h
      have hb := sndE b g h2
      exact g_or (sndE a g h1) hb.pe (hb.pw _ _ _ rfl)
    · cases h
  | .tup es, G, X, e, g, h => by
    unfold chkE at h
    cases e <;> first | (cases h; done) | skip
    obtain ⟨h1, h2⟩ := ba h
    exact snd_plain (g_tup (of_decide_eq_true h2) (fun ds ρ μ μ' q => by rw [evs_len q, chkEs_len h1]) (sndEs es g h1)) (fun _ => rfl) (fun _ _ _ q => nomatch q)
  | .frz o, G, X, e, g, h => by
    unfold chkE at h
    have hp := g_frz (sndO o g h).1
    exact snd_plain hp (sndO_pl o h) (sndO_bo o h)
  | .box o, G, X, e, g, h => by
    unfold chkE at h
    have hp := g_box (sndO o g h).1
    exact snd_plain hp (sndO_pl o h) (sndO_bo o h)
  | .sub a i, G, X, e, g, h => by
    unfold chkE at h
    cases e <;> first | (cases h; done) | skip
    obtain ⟨h1, h⟩ := ba h
    obtain ⟨h2, h3⟩ := ba h
    exact snd_plain (g_sub g h1 (sndR a g h2) (sndE i g h3).pe) (fun _ => rfl) (fun _ _ _ q => nomatch q)
  | .attr a f, G, X, e, g, h => by
    unfold chkE at h
    cases e <;> first | (cases h; done) | skip
    obtain ⟨h1, h⟩ := ba h
    obtain ⟨h2, h3⟩ := ba h
    exact snd_plain (g_attr g h2 (of_decide_eq_true h1) (sndE a g h3).pe) (fun _ => rfl) (fun _ _ _ q => nomatch q)
  | .call f es, G, X, e, g, h => by
    unfold chkE at h
    split at h
    · obtain ⟨h1, h⟩ := ba h
      obtain ⟨h2, h3⟩ := ba h
      exact snd_plain (g_call (g_callT g h1 h2 (chkEs_nil h3) (sndEs es g h3))) (fun _ => rfl) (fun _ _ _ q => nomatch q)
    · cases h
  | .make c es, G, X, e, g, h => by
    unfold chkE at h
    split at h
    · obtain ⟨h1, h⟩ := ba h
      obtain ⟨h2, h⟩ := ba h
      obtain ⟨h3, h⟩ := ba h
      obtain ⟨h4, h5⟩ := ba h
      split at h1
      · rename_i k hk
        obtain ⟨h6, h7⟩ := ba h1
        obtain ⟨h7, h8⟩ := ba h7
        rw [g.T] at hk h8
        have mu : k.mu = false := by simpa using h7
        obtain ⟨F, hF⟩ := Option.isSome_iff_exists.mp h8
        exact snd_plain (g_make g hk mu hF (of_decide_eq_true h6) (g.gl h2) (nmOk_of h3).1 h4 (chkEs_nil h5) (sndEs es g h5)) (fun _ => rfl) (fun _ _ _ q => nomatch q)
      · cases h1
    · cases h
  | .meth m o es, G, X, e, g, h => by
    unfold chkE at h
    split at h
    · rename_i so nm ap xs cp
      obtain ⟨h1, h⟩ := ba h
      obtain ⟨h2, h⟩ := ba h
      obtain ⟨h3, h⟩ := ba h
      obtain ⟨h4, h⟩ := ba h
      obtain ⟨h5, h⟩ := ba h
      obtain ⟨h6, h7⟩ := ba h
      exact snd_plain (g_meth g (of_decide_eq_true h1) h2 h3 (of_decide_eq_true h4) h5 (sndE o g h6).pe (sndEs es g h7) (chkEs_nil h7)) (fun _ => rfl) (fun _ _ _ q => nomatch q)
    · cases h
  | .methC m o es, G, X, e, g, h => by
    unfold chkE at h
    split at h
    · rename_i so nm ap xs cp
      obtain ⟨h1, h⟩ := ba h
      obtain ⟨h2, h⟩ := ba h
      obtain ⟨h3, h⟩ := ba h
      obtain ⟨h4, h⟩ := ba h
      obtain ⟨h5, h⟩ := ba h
      obtain ⟨h6, h7⟩ := ba h
      exact snd_plain (g_methC g (of_decide_eq_true h1) h2 h3 (of_decide_eq_true h4) h5 (sndE o g h6).pe (sndEs es g h7) (chkEs_nil h7)) (fun _ => rfl) (fun _ _ _ q => nomatch q)
    · cases h
  | .join s a, G, X, e, g, h => by
    unfold chkE at h
    split at h
    · rename_i so nm ap y cp
      obtain ⟨h1, h⟩ := ba h
      obtain ⟨h2, h⟩ := ba h
      obtain ⟨h3, h⟩ := ba h
      obtain ⟨h4, h⟩ := ba h
      obtain ⟨h5, h6⟩ := ba h
      exact snd_plain (g_join g (of_decide_eq_true h1) h2 h3 h4 (sndE s g h5).pe (sndR a g h6)) (fun _ => rfl) (fun _ _ _ q => nomatch q)
    · cases h
  | .str1 a, G, X, e, g, h => by
    unfold chkE at h
    split at h
    · obtain ⟨h1, h⟩ := ba h
      obtain ⟨h2, h⟩ := ba h
      obtain ⟨h3, h4⟩ := ba h
      exact snd_plain (g_str1 g (of_decide_eq_true h1) (g.gl h2) h3 (sndE a g h4).pe) (fun _ => rfl) (fun _ _ _ q => nomatch q)
    · cases h
  | .tslc a lo hi, G, X, e, g, h => by
    unfold chkE at h
    split at h
    · obtain ⟨h1, h⟩ := ba h
      obtain ⟨h2, h3⟩ := ba h
      exact snd_plain (g_tslc g (sndE a g h1).pe (sndX lo g h2) (sndX hi g h3)) (fun _ => rfl) (fun _ _ _ q => nomatch q)
    · cases h
  | .sslc a lo hi, G, X, e, g, h => by
    unfold chkE at h
    split at h
    · obtain ⟨h1, h⟩ := ba h
      obtain ⟨h2, h3⟩ := ba h
      exact snd_plain (g_sslc g (sndE a g h1).pe (sndX lo g h2) (sndX hi g h3)) (fun _ => rfl) (fun _ _ _ q => nomatch q)
    · cases h
  | .fnv f, G, X, e, g, h => by
    unfold chkE at h
    split at h
    · exact snd_plain (g_fnv g h) (fun _ => rfl) (fun _ _ _ q => nomatch q)
    · cases h
  | .callv i es, G, X, e, g, h => by
    unfold chkE at h
    split at h
    · obtain ⟨h1, h⟩ := ba h
      obtain ⟨h2, h⟩ := ba h
      obtain ⟨h3, h⟩ := ba h
      obtain ⟨h4, h⟩ := ba h
      obtain ⟨h5, h6⟩ := ba h
      exact snd_plain (g_callvL g (of_decide_eq_true h1) h2 h3 h4 h5 (sndEs es g h6)) (fun _ => rfl) (fun _ _ _ q => nomatch q)
    · cases h
  | .tupl a, G, X, e, g, h => by
    unfold chkE at h
    split at h
    · obtain ⟨h1, h⟩ := ba h
      obtain ⟨h2, h⟩ := ba h
      obtain ⟨h3, h4⟩ := ba h
      exact snd_plain (g_tupl g (of_decide_eq_true h1) (g.gl h2) h3 (sndR a g h4)) (fun _ => rfl) (fun _ _ _ q => nomatch q)
    · cases h
  | .lenset a, G, X, e, g, h => by
    unfold chkE at h
    split at h
    · obtain ⟨h1, h⟩ := ba h
      obtain ⟨h2, h⟩ := ba h
      obtain ⟨h3, h⟩ := ba h
      obtain ⟨h4, h⟩ := ba h
      obtain ⟨h5, h6⟩ := ba h
      exact snd_plain (g_lenset g (of_decide_eq_true h1) (of_decide_eq_true h2) (g.gl h3) (g.gl h4) h5 (sndR a g h6)) (fun _ => rfl) (fun _ _ _ q => nomatch q)
    · cases h
  | .maxd a d, G, X, e, g, h => by
    unfold chkE at h
    split at h
    · obtain ⟨h1, h⟩ := ba h
      obtain ⟨h2, h⟩ := ba h
      obtain ⟨h3, h⟩ := ba h
      obtain ⟨h4, h⟩ := ba h
      obtain ⟨h5, h6⟩ := ba h
      exact snd_plain (g_maxd g (of_decide_eq_true h1) (of_decide_eq_true h2) (g.gl h3) h4 (sndR a g h5) (sndE d g h6).pe) (fun _ => rfl) (fun _ _ _ q => nomatch q)
    · cases h
  | .mind a d, G, X, e, g, h => by
    unfold chkE at h
    split at h
    · obtain ⟨h1, h⟩ := ba h
      obtain ⟨h2, h⟩ := ba h
      obtain ⟨h3, h⟩ := ba h
      obtain ⟨h4, h⟩ := ba h
      obtain ⟨h5, h6⟩ := ba h
      exact snd_plain (g_mind g (of_decide_eq_true h1) (of_decide_eq_true h2) (g.gl h3) h4 (sndR a g h5) (sndE d g h6).pe) (fun _ => rfl) (fun _ _ _ q => nomatch q)
    · cases h
  | .idx a c, G, X, e, g, h => by
    unfold chkE at h
    split at h
    · rename_i so nm ap y cp
      obtain ⟨h1, h⟩ := ba h
      obtain ⟨h2, h⟩ := ba h
      obtain ⟨h0, h⟩ := ba h
      obtain ⟨h3, h⟩ := ba h
      obtain ⟨h4, h5⟩ := ba h
      exact snd_plain (g_idx g (of_decide_eq_true h1) h2 h0 h3 (sndR a g h4) (sndE c g h5).pe) (fun _ => rfl) (fun _ _ _ q => nomatch q)
    · cases h
  | .dget a k, G, X, e, g, h => by
    unfold chkE at h
    split at h
    · obtain ⟨h1, h⟩ := ba h
      obtain ⟨h2, h⟩ := ba h
      obtain ⟨h3, h4⟩ := ba h
      exact snd_plain (g_dget g (tupc g h1) h2 (sndR a g h3) (sndE k g h4).pe) (fun _ => rfl) (fun _ _ _ q => nomatch q)
    · cases h
  | .tget j k, G, X, e, g, h => by
    unfold chkE at h
    split at h
    · obtain ⟨h1, h⟩ := ba h
      obtain ⟨h2, h⟩ := ba h
      obtain ⟨h3, h⟩ := ba h
      obtain ⟨h4, h5⟩ := ba h
      split at h5
      · rename_i q hq
        rw [g.T] at hq
        exact snd_plain (g_tget g (kvs := q.2) (by rw [hq, ← of_decide_eq_true h5]) h1 h2 h3 (sndE k g h4).pe) (fun _ => rfl) (fun _ _ _ q => nomatch q)
      · cases h5
    · cases h
  | .tin neg k j, G, X, e, g, h => by
    unfold chkE at h
    split at h
    · obtain ⟨h0, h⟩ := ba h
      obtain ⟨h1, h⟩ := ba h
      obtain ⟨h2, h⟩ := ba h
      obtain ⟨h4, h5⟩ := ba h
      split at h5
      · rename_i q hq
        rw [g.T] at hq
        exact g_tin g (of_decide_eq_true h0) (kvs := q.2) (by rw [hq, ← of_decide_eq_true h5]) h1 h2 (sndE k g h4).pe
      · cases h5
    · cases h
  | .cnt a c, G, X, e, g, h => by
    unfold chkE at h
    split at h
    · rename_i so nm ap y cp
      obtain ⟨h1, h⟩ := ba h
      obtain ⟨h2, h⟩ := ba h
      obtain ⟨h0, h⟩ := ba h
      obtain ⟨h3, h⟩ := ba h
      obtain ⟨h4, h5⟩ := ba h
      exact snd_plain (g_cnt g (of_decide_eq_true h1) h2 h0 h3 (sndR a g h4) (sndE c g h5).pe) (fun _ => rfl) (fun _ _ _ q => nomatch q)
    · cases h
  | .cntS a c, G, X, e, g, h => by
    unfold chkE at h
    split at h
    · rename_i so nm ap y cp
      obtain ⟨h1, h⟩ := ba h
      obtain ⟨h2, h⟩ := ba h
      obtain ⟨h0, h⟩ := ba h
      obtain ⟨h3, h⟩ := ba h
      obtain ⟨h4, h5⟩ := ba h
      exact snd_plain (g_cntS g (of_decide_eq_true h1) h2 h0 h3 (sndR a g h4) (sndE c g h5).pe) (fun _ => rfl) (fun _ _ _ q => nomatch q)
    · cases h
  | .mkM c f es, G, X, e, g, h => by
    unfold chkE at h
    split at h
    · obtain ⟨h2, h⟩ := ba h
      obtain ⟨h3, h⟩ := ba h
      obtain ⟨h4, h⟩ := ba h
      obtain ⟨h5, h⟩ := ba h
      obtain ⟨h6, h⟩ := ba h
      split at h
      · rename_i k F hk hF
        rw [g.T] at hk hF h6
        obtain ⟨h7, h8⟩ := ba h
        exact snd_plain (g_mkM g (by simpa using h6) hk hF (by simpa using h8) (of_decide_eq_true h7) (g.gl h2) (nmOk_of h3).1 h4 (chkEs_nil h5) (sndEs es g h5)) (fun _ => rfl) (fun _ _ _ q => nomatch q)
      · cases h
    · cases h
  | .mxv i, G, X, e, g, h => by
    unfold chkE at h
    split at h
    · obtain ⟨h1, h⟩ := ba h
      obtain ⟨h2, h⟩ := ba h
      obtain ⟨h3, h⟩ := ba h
      obtain ⟨h4, h⟩ := ba h
      obtain ⟨h5, h⟩ := ba h
      obtain ⟨h6, h7⟩ := ba h
      exact snd_plain (g_mxv g (of_decide_eq_true h1) (of_decide_eq_true h2) h3 h4 (of_decide_eq_true h5) h6 h7) (fun _ => rfl) (fun _ _ _ q => nomatch q)
    · cases h
  | .din neg k a, G, X, e, g, h => by
    unfold chkE at h
    split at h
    · obtain ⟨h1, h⟩ := ba h
      obtain ⟨h2, h⟩ := ba h
      obtain ⟨h3, h⟩ := ba h
      obtain ⟨h4, h5⟩ := ba h
      exact g_din g (of_decide_eq_true h2) (tupc g h1) h3 (sndE k g h4).pe (sndR a g h5)
    · cases h
  | .dgd a k d, G, X, e, g, h => by
    unfold chkE at h
    split at h
    · obtain ⟨h1, h⟩ := ba h
      obtain ⟨h2, h⟩ := ba h
      obtain ⟨h3, h⟩ := ba h
      obtain ⟨h4, h⟩ := ba h
      obtain ⟨h5, h⟩ := ba h
      obtain ⟨h6, h⟩ := ba h
      obtain ⟨h7, h⟩ := ba h
      obtain ⟨h8, h9⟩ := ba h
      exact snd_plain (g_dgd g (tupc g h1) (of_decide_eq_true h2) h3 h4 h5 h6 (sndR a g h7) (sndE k g h8).pe (sndE d g h9).pe) (fun _ => rfl) (fun _ _ _ q => nomatch q)
    · cases h
  | .dne a, G, X, e, g, h => by
    unfold chkE at h
    split at h
    · exact g_dne g (sndR a g h)
    · cases h
  | .bi b a, G, X, e, g, h => by
    unfold chkE at h
    split at h
    · obtain ⟨h1, h⟩ := ba h
      obtain ⟨h2, h⟩ := ba h
      obtain ⟨h3, h⟩ := ba h
      obtain ⟨h4, h5⟩ := ba h
      exact snd_plain (g_bi g h1 (of_decide_eq_true h2) (g.gl h3) h4 (sndR a g h5)) (fun _ => rfl) (fun _ _ _ q => nomatch q)
    · cases h
  | .b2 b a c, G, X, e, g, h => by
    unfold chkE at h
    split at h
    · obtain ⟨h1, h⟩ := ba h
      obtain ⟨h2, h⟩ := ba h
      obtain ⟨h3, h⟩ := ba h
      obtain ⟨h4, h⟩ := ba h
      obtain ⟨h5, h⟩ := ba h
      obtain ⟨h6, h7⟩ := ba h
      exact snd_plain (g_b2 g h1 (of_decide_eq_true h2) (g.gl h3) h4 h5 (sndE a g h6).pe (sndE c g h7).pe) (fun _ => rfl) (fun _ _ _ q => nomatch q)
    · cases h
  | .isi a t, G, X, e, g, h => by
    unfold chkE at h
    split at h
    · obtain ⟨h1, h⟩ := ba h
      obtain ⟨h2, h⟩ := ba h
      obtain ⟨h3, h⟩ := ba h
      obtain ⟨h4, h⟩ := ba h
      obtain ⟨h5, h⟩ := ba h
      obtain ⟨h6, h⟩ := ba h
      obtain ⟨h7, h8⟩ := ba h
      refine snd_plain (g_isi g (of_decide_eq_true h1) (g.gl h2) h3 (sndE a g h4).pe h5 (g.gl h6) h7 fun c hc => ?_) (fun _ => rfl) (fun _ _ _ q => nomatch q)
      subst hc
      simp only at h8
      split at h8
      · rename_i k hk
        rw [g.T] at hk
        exact ⟨k, hk, of_decide_eq_true h8⟩
      · cases h8
    · cases h
theorem sndR : ∀ (r : R) {G : Ga} {X : Cx} {e : Expr}, GX P n cal mak G X → chkR G r e = true → PE X e (tR P cal mak r)
  | .e a, G, X, e, g, h => by
    unfold chkR at h
    exact g_e (sndE a g h).pe
  | .own i, G, X, e, g, h => by
    unfold chkR at h
    cases e <;> first | (cases h; done) | skip
    obtain ⟨h1, h⟩ := ba h
    obtain ⟨h2, h3⟩ := ba h
    exact g_own g (of_decide_eq_true h1) h2 h3
theorem sndO : ∀ (o : O) {G : Ga} {X : Cx} {e : Expr}, GX P n cal mak G X → chkO G o e = true → PE X e (tO P cal mak o) ∧ AsgO P cal mak G X e o
  | .lst es, G, X, e, g, h => by
    unfold chkO at h
    cases e <;> first | (cases h; done) | skip
    obtain ⟨h1, h2⟩ := ba h
    have p := g_lst (pos := by assumption) (of_decide_eq_true h2) (fun ds ρ μ μ' q => by rw [evs_len q, chkEs_len h1]) (sndEs es g h1)
    exact ⟨p, fun i y py spos a b c => asg_of g p a b c rfl⟩
  | .lc el tg it c, G, X, e, g, h => by
    unfold chkO at h
    split at h
    · rename_i elt t iter ifs scope pos
      obtain ⟨h1, h⟩ := ba h
      obtain ⟨h2, h⟩ := ba h
      obtain ⟨h3, h⟩ := ba h
      obtain ⟨h4, h⟩ := ba h
      obtain ⟨h5, h⟩ := ba h
      obtain ⟨h6, h7⟩ := ba h
      have bo : BlkOk G.N G.sc scope (ownOf G.N tg.slots) := blkOk_by h3
      have hk : (relS scope G.sc).kind = .function := bo.kind
      have bo' : BlkOk X.N X.env.scope scope (ownOf G.N tg.slots) := by rw [g.N, g.sc]; exact bo
      have gb := blk_gx g hk
      have pi := sndI it (tg := t) g (ba h2).1 (ba h2).2
      have hsl := of_decide_eq_true h4
      have pb := fun (s : Shared) (H : Hp) (C : Addr) (cl : List (Str × Addr)) (fp : List Addr) => And.intro (pg_tg (gb s H C cl fp) h5) (And.intro (sndC c (gb s H C cl fp) h6) (sndE el (gb s H C cl fp) h7).pe)
      obtain ⟨p, rd⟩ := g_lc (pos := pos) g h1 pi bo' hsl pb
      refine ⟨p, fun i y py spos a b cc => ?_⟩
      have nd : X.N.Nodup := by rw [g.N]; exact g.nd
      have a' : X.N[i]? = some y := by rw [g.N]; exact a
      have swe : swapsWith (.ListComp elt [⟨t, iter, ifs, 0⟩] scope pos) (some (.Name y py)) spos.line X.env = pure (X.env.blockKind == .function && X.env.kindOf y == some .local && py.line == pos.line && !(scope.names.any fun (n, k) => n == y && (k == .local || k == .cell))) := rfl
      cases hsw : (X.env.blockKind == .function && X.env.kindOf y == some .local && py.line == pos.line && !(scope.names.any fun (n, k) => n == y && (k == .local || k == .cell))) with
      | false =>
        rw [hsw] at swe
        exact asg_of g p a b cc swe
      | true =>
        rw [hsw] at swe
        rw [Bool.and_eq_true, Bool.and_eq_true, Bool.and_eq_true] at hsw
        have hl : X.env.scope.names.lookup y = some .local := eq_of_beq hsw.1.1.2
        have q := ps_setLc (pos := pos) (py := py) (spos := spos) g.calm nd a' hl swe pi bo' (fun s H C cl fp => (pb s H C cl fp).1) (fun s H C cl fp => (pb s H C cl fp).2.1) (fun s H C cl fp => (pb s H C cl fp).2.2) (plain_fold h1)
        exact ⟨fun pins s σ H D I hh => q.run pins s σ H D I (rd σ H _ hh)⟩
    · cases h
  | .cat a b, G, X, e, g, h => by
    unfold chkO at h
    split at h
    · obtain ⟨h1, h2⟩ := ba h
      have p := g_cat (pos := by assumption) g (sndR a g h1) (sndR b g h2)
      exact ⟨p, fun i y py spos a b c => asg_of g p a b c rfl⟩
    · cases h
  | .call f es, G, X, e, g, h => by
    unfold chkO at h
    split at h
    · rename_i x p0 xs pos
      obtain ⟨h1, h⟩ := ba h
      obtain ⟨h2, h3⟩ := ba h
      have p := g_callO (g_callT (p := p0) (pos := pos) g h1 h2 (chkEs_nil h3) (sndEs es g h3))
      exact ⟨p, fun i y py spos a b c => asg_of g p a b c rfl⟩
    · cases h
  | .slc a lo hi, G, X, e, g, h => by
    unfold chkO at h
    split at h
    · rename_i x0 l0 hh0 p2 pos
      obtain ⟨h1, h⟩ := ba h
      obtain ⟨h2, h3⟩ := ba h
      have p := g_slc (p2 := p2) (pos := pos) g (sndR a g h1) (sndX lo g h2) (sndX hi g h3)
      exact ⟨p, fun i y py spos a b c => asg_of g p a b c rfl⟩
    · cases h
  | .lst1 a, G, X, e, g, h => by
    unfold chkO at h
    split at h
    · rename_i x0 p0 y0 pos
      obtain ⟨h1, h⟩ := ba h
      obtain ⟨h2, h⟩ := ba h
      obtain ⟨h3, h4⟩ := ba h
      have p := g_lst1 (p := p0) (pos := pos) g (of_decide_eq_true h1) (g.gl h2) h3 (sndR a g h4)
      exact ⟨p, fun i y py spos a b c => asg_of g p a b c rfl⟩
    · cases h
  | .rev a, G, X, e, g, h => by
    unfold chkO at h
    split at h
    · rename_i x k p1 p2 p3 pos
      have p := g_rev (k := k) (p1 := p1) (p2 := p2) (p3 := p3) (pos := pos) g (sndR a g h)
      exact ⟨p, fun i y py spos a b c => asg_of g p a b c rfl⟩
    · cases h
  | .split s t, G, X, e, g, h => by
    unfold chkO at h
    split at h
    · rename_i so nm ap y cp
      obtain ⟨h1, h⟩ := ba h
      obtain ⟨h2, h⟩ := ba h
      obtain ⟨h3, h⟩ := ba h
      obtain ⟨h4, h⟩ := ba h
      obtain ⟨h5, h6⟩ := ba h
      have p := g_split g (of_decide_eq_true h1) h2 h3 h4 (sndE s g h5).pe (sndE t g h6).pe
      exact ⟨p, fun i y py spos a b c => asg_of g p a b c rfl⟩
    · cases h
  | .repR a k, G, X, e, g, h => by
    unfold chkO at h
    split at h
    · rename_i el er pos
      obtain ⟨h1, h2⟩ := ba h
      have p := g_repR (pos := pos) g (sndR a g h1) (sndE k g h2).pe
      exact ⟨p, fun i y py spos a b c => asg_of g p a b c rfl⟩
    · cases h
  | .rep i k, G, X, e, g, h => by
    unfold chkO at h
    split at h
    · rename_i x px r pos
      obtain ⟨h1, h⟩ := ba h
      obtain ⟨h2, h⟩ := ba h
      obtain ⟨h3, h4⟩ := ba h
      have p := g_rep (px := px) (pos := pos) g (of_decide_eq_true h1) h2 h3 (sndE k g h4).pe
      exact ⟨p, fun i y py spos a b c => asg_of g p a b c rfl⟩
    · cases h
  | .srt a, G, X, e, g, h => by
    unfold chkO at h
    split at h
    · rename_i x0 p0 y0 pos
      obtain ⟨h1, h⟩ := ba h
      obtain ⟨h2, h⟩ := ba h
      obtain ⟨h3, h4⟩ := ba h
      have p := g_srt (p := p0) (pos := pos) g (of_decide_eq_true h1) (g.gl h2) h3 (sndR a g h4)
      exact ⟨p, fun i y py spos a b c => asg_of g p a b c rfl⟩
    · cases h
  | .srtg a, G, X, e, g, h => by
    unfold chkO at h
    split at h
    · rename_i x0 p0 y0 pos
      obtain ⟨h1, h⟩ := ba h
      obtain ⟨h2, h⟩ := ba h
      obtain ⟨h3, h4⟩ := ba h
      have p := g_srtg (p := p0) (pos := pos) g (of_decide_eq_true h1) (g.gl h2) h3 (sndR a g h4)
      exact ⟨p, fun i y py spos a b c => asg_of g p a b c rfl⟩
    · cases h
  | .dct0 t, G, X, e, g, h => by
    unfold chkO at h
    split at h
    · rename_i pos
      have p : PE X (.Dict [] [] pos) (tO P cal mak (.dct0 t)) := g_dct0
      exact ⟨p, fun i y py spos a b c => asg_of g p a b c rfl⟩
    · cases h
  | .dct1 k v, G, X, e, g, h => by
    unfold chkO at h
    split at h
    · rename_i x0 y0 pos
      obtain ⟨h1, h⟩ := ba h
      obtain ⟨h2, h3⟩ := ba h
      have p := g_dct1 (pos := pos) g (tupc g h1) (sndE k g h2).pe (sndE v g h3).pe
      exact ⟨p, fun i y py spos a b c => asg_of g p a b c rfl⟩
    · cases h
  | .dctS k v, G, X, e, g, h => by
    unfold chkO at h
    split at h
    · rename_i x0 y0 pos
      obtain ⟨h1, h⟩ := ba h
      obtain ⟨h2, h3⟩ := ba h
      have p := g_dctS (pos := pos) g (tupc g h1) (sndE k g h2).pe (sndE v g h3).pe
      exact ⟨p, fun i y py spos a b c => asg_of g p a b c rfl⟩
    · cases h
  | .dcp a, G, X, e, g, h => by
    unfold chkO at h
    split at h
    · rename_i x0 p0 y0 pos
      obtain ⟨h1, h⟩ := ba h
      obtain ⟨h2, h⟩ := ba h
      obtain ⟨h3, h5⟩ := ba h
      have p := g_dcp (p := p0) (pos := pos) g (of_decide_eq_true h1) (g.gl h2) h3 (sndR a g h5)
      exact ⟨p, fun i y py spos a b c => asg_of g p a b c rfl⟩
    · cases h
  | .dctC ks es, G, X, e, g, h => by
    unfold chkO at h
    split at h
    · rename_i keys xs pos
      obtain ⟨h1, h⟩ := ba h
      obtain ⟨h2, h⟩ := ba h
      obtain ⟨h3, h⟩ := ba h
      obtain ⟨h4, h5⟩ := ba h
      obtain ⟨trs, D⟩ := sndKs es (pos := pos) g h1 (of_decide_eq_true h4) h5
      have p := g_dctC (pos := pos) g D h1 (of_decide_eq_true h4) (of_decide_eq_true h2) (by intro z; rw [z] at h3; cases h3)
      exact ⟨p, fun i y py spos a b c => asg_of g p a b c rfl⟩
    · cases h
  | .dctL a, G, X, e, g, h => by
    unfold chkO at h
    split at h
    · rename_i x0 p0 y0 pos
      obtain ⟨h1, h⟩ := ba h
      obtain ⟨h2, h⟩ := ba h
      obtain ⟨h3, h⟩ := ba h
      obtain ⟨h4, h5⟩ := ba h
      have p := g_dctL (p := p0) (pos := pos) g (of_decide_eq_true h1) (g.gl h2) h3 (tupc g h4) (sndR a g h5)
      exact ⟨p, fun i y py spos a b c => asg_of g p a b c rfl⟩
    · cases h
  | .srtk a, G, X, e, g, h => by
    unfold chkO at h
    split at h
    · rename_i x0 p0 y0 pos
      obtain ⟨h1, h⟩ := ba h
      obtain ⟨h2, h⟩ := ba h
      obtain ⟨h3, h4⟩ := ba h
      have p := g_srtk (p := p0) (pos := pos) g (of_decide_eq_true h1) (g.gl h2) h3 (sndR a g h4)
      exact ⟨p, fun i y py spos a b c => asg_of g p a b c rfl⟩
    · cases h
  | .srtset a, G, X, e, g, h => by
    unfold chkO at h
    split at h
    · rename_i x0 p0 z0 p1 y0 q0 pos
      obtain ⟨h1, h⟩ := ba h
      obtain ⟨h2, h⟩ := ba h
      obtain ⟨h3, h⟩ := ba h
      obtain ⟨h4, h⟩ := ba h
      obtain ⟨h5, h6⟩ := ba h
      have p := g_srtset (p := p0) (p2 := p1) (q := q0) (pos := pos) g (of_decide_eq_true h1) (of_decide_eq_true h2) (g.gl h3) (g.gl h4) h5 (sndR a g h6)
      exact ⟨p, fun i y py spos a b c => asg_of g p a b c rfl⟩
    · cases h
  | .srtsetI a, G, X, e, g, h => by
    unfold chkO at h
    split at h
    · rename_i x0 p0 z0 p1 y0 q0 pos
      obtain ⟨h1, h⟩ := ba h
      obtain ⟨h2, h⟩ := ba h
      obtain ⟨h3, h⟩ := ba h
      obtain ⟨h4, h⟩ := ba h
      obtain ⟨h5, h6⟩ := ba h
      have p := g_srtsetI (p := p0) (p2 := p1) (q := q0) (pos := pos) g (of_decide_eq_true h1) (of_decide_eq_true h2) (g.gl h3) (g.gl h4) h5 (sndR a g h6)
      exact ⟨p, fun i y py spos a b c => asg_of g p a b c rfl⟩
    · cases h
theorem sndX : ∀ (c : Eo) {G : Ga} {X : Cx} {e : Option Expr}, GX P n cal mak G X → chkX G c e = true → PO X e (tX P cal mak c)
  | .no, G, X, e, g, h => by
    unfold chkX at h
    split at h
    · exact g_xno
    · cases h
  | .so c, G, X, e, g, h => by
    unfold chkX at h
    split at h
    · exact g_xso (sndE c g h).pe
    · cases h
theorem sndKs : ∀ (es : Es) {G : Ga} {X : Cx} {pos : Pos} {ks : List Str} {keys : List (Option Expr)} {xs : List Expr}, GX P n cal mak G X → keysB ks keys = true → keys.length = xs.length → chkEs G es xs = true → ∃ trs, Disp P cal mak X pos ks es keys xs trs
  | .nil, G, X, pos, ks, keys, xs, g, hk, hl, h => by
    unfold chkEs at h
    cases xs with
    | nil =>
      cases ks with
      | nil => cases keys with
        | nil => exact ⟨_, disp_nil⟩
        | cons _ _ => cases hk
      | cons _ _ => cases keys with
        | nil => cases hk
        | cons _ _ => cases hl
    | cons _ _ => cases h
  | .cons e es, G, X, pos, ks, keys, xs, g, hk, hl, h => by
    unfold chkEs at h
    cases xs with
    | nil => cases h
    | cons x r =>
      obtain ⟨h1, h⟩ := ba h
      obtain ⟨h2, h3⟩ := ba h
      cases ks with
      | nil => cases keys with
        | nil => cases hl
        | cons _ _ => cases hk
      | cons k ks => cases keys with
        | nil => cases hk
        | cons key keys =>
          unfold keysB at hk
          obtain ⟨k1, k2⟩ := ba hk
          split at k1
          · obtain ⟨trs, D⟩ := sndKs es (pos := pos) g k2 (Nat.succ.inj hl) h3
            exact disp_cons k1 (sndE e g h2).pe D
          · cases k1
theorem sndEs : ∀ (es : Es) {G : Ga} {X : Cx} {xs : List Expr}, GX P n cal mak G X → chkEs G es xs = true → PA X xs (tA' P cal mak es)
  | .nil, G, X, xs, g, h => by
    unfold chkEs at h
    cases xs with
    | nil => exact g_args0
    | cons _ _ => cases h
  | .cons e es, G, X, xs, g, h => by
    unfold chkEs at h
    cases xs with
    | nil => cases h
    | cons x r =>
      obtain ⟨h1, h⟩ := ba h
      obtain ⟨h2, h3⟩ := ba h
      exact g_args h1 (sndE e g h2).pe (sndEs es g h3)
theorem sndC : ∀ (c : Eo) {G : Ga} {X : Cx} {xs : List Expr}, GX P n cal mak G X → chkC G c xs = true → PTs X xs (tC' P cal mak c)
  | .no, G, X, xs, g, h => by
    unfold chkC at h
    cases xs with
    | nil => exact g_cno
    | cons _ _ => cases h
  | .so e, G, X, xs, g, h => by
    unfold chkC at h
    split at h
    · exact g_cso (sndE e g h).pt
    · cases h
theorem sndI : ∀ (it : It) {G : Ga} {X : Cx} {tg e : Expr}, GX P n cal mak G X → tgOk it tg = true → chkI G it e = true → PI X tg e (tI P cal mak it)
  | .lst a, G, X, tg, e, g, ht, h => by
    unfold chkI at h
    exact g_ilst g (sndR a g h)
  | .tup a, G, X, tg, e, g, ht, h => by
    unfold chkI at h
    exact g_itup g (sndE a g h).pe
  | .str a, G, X, tg, e, g, ht, h => by
    unfold chkI at h
    exact g_istr g (sndE a g h).pe
  | .rng a, G, X, tg, e, g, ht, h => by
    unfold chkI at h
    split at h
    · obtain ⟨h1, h⟩ := ba h
      obtain ⟨h2, h⟩ := ba h
      obtain ⟨h3, h4⟩ := ba h
      exact g_irng g (of_decide_eq_true h1) (g.gl h2) h3 (sndE a g h4).pe
    · cases h
  | .enum a, G, X, tg, e, g, ht, h => by
    cases tg <;> first | (cases ht; done) | skip
    unfold chkI at h
    split at h
    · obtain ⟨h1, h⟩ := ba h
      obtain ⟨h2, h⟩ := ba h
      obtain ⟨h3, h4⟩ := ba h
      exact g_ienum g (of_decide_eq_true h1) (g.gl h2) h3 (sndE a g h4).pe
    · cases h
  | .enumT a, G, X, tg, e, g, ht, h => by
    cases tg <;> first | (cases ht; done) | skip
    unfold chkI at h
    split at h
    · obtain ⟨h1, h⟩ := ba h
      obtain ⟨h2, h⟩ := ba h
      obtain ⟨h3, h4⟩ := ba h
      exact g_ienumT g (of_decide_eq_true h1) (g.gl h2) h3 (sndE a g h4).pe
    · cases h
  | .zip a b, G, X, tg, e, g, ht, h => by
    cases tg <;> first | (cases ht; done) | skip
    unfold chkI at h
    split at h
    · obtain ⟨h1, h⟩ := ba h
      obtain ⟨h2, h⟩ := ba h
      obtain ⟨h3, h⟩ := ba h
      obtain ⟨h4, h⟩ := ba h
      obtain ⟨h5, h6⟩ := ba h
      exact g_izip g (of_decide_eq_true h1) (g.gl h2) h3 h4 (sndE a g h5).pe (sndE b g h6).pe
    · cases h
  | .items a, G, X, tg, e, g, ht, h => by
    cases tg <;> first | (cases ht; done) | skip
    unfold chkI at h
    split at h
    · obtain ⟨h1, h⟩ := ba h
      obtain ⟨h2, h⟩ := ba h
      obtain ⟨h3, h4⟩ := ba h
      exact g_items g (of_decide_eq_true h1) h2 h3 (sndE a g h4).pe
    · cases h
  | .keys a, G, X, tg, e, g, ht, h => by
    unfold chkI at h
    exact g_keys g (sndE a g h).pe
  | .itemsO o, G, X, tg, e, g, ht, h => by
    cases tg <;> first | (cases ht; done) | skip
    unfold chkI at h
    split at h
    · obtain ⟨h1, h⟩ := ba h
      obtain ⟨h2, h⟩ := ba h
      obtain ⟨h3, h4⟩ := ba h
      exact g_itemsO g (of_decide_eq_true h1) h2 h3 (sndO o g h4).1
    · cases h
end
end
end EV

set_option Elab.async false
set_option linter.all false
set_option maxRecDepth 100000
set_option maxHeartbeats 2000000
namespace EV
open PySem PySem.Spec PyProof.Rows L2
/-! except suites -/
def xnB (G : Ga) (c : Nat) (z : Str) : Bool := (match G.T.xcl[c]? with | some q => decide (q.1 = z) | none => false) && (glB G.sc z && nmOk z)
def xnsB (G : Ga) : List Nat → List Expr → Bool
  | [], [] => true
  | c :: cs, e :: es => (match e with | .Name z _ => xnB G c z | _ => false) && xnsB G cs es
  | _, _ => false
def isiB (G : Ga) (one : Bool) (cs : List Nat) (t : Expr) : Bool := match one, cs, t with
  | true, [c], .Name z _ => xnB G c z
  | false, cs, .Tuple es _ _ => xnsB G cs es && decide (es.length ≤ 100)
  | _, _, _ => false
mutual
def chkHE (G : Ga) (n : Str) : HE → Expr → Bool
  | .k d, e => (match e with
    | .Constant c _ _ => constB d c
    | _ => false)
  | .v i, e => (match e with
    | .Name x _ => decide (G.N[i]? = some x) && (visB G.sc x && nmOk x)
    | _ => false)
  | .isi cs one, e => (match e with
    | .Call (.Name f _) [.Name y _, t] [] _ => decide (f = "isinstance") && (glB G.sc f && (decide (y = n) && isiB G one cs t))
    | _ => false)
  | .isv, e => (match e with
    | .Call (.Name f _) [.Name y _, .Name z _] [] _ => decide (f = "isinstance") && (glB G.sc f && (decide (y = n) && (decide (z = "ValueError") && glB G.sc z)))
    | _ => false)
  | .not a, e => (match e with
    | .UnaryOp .Not x _ => chkHE G n a x
    | _ => false)
  | .and a b, e => (match e with
    | .BoolOp .And [x, y] _ => chkHE G n a x && chkHE G n b y
    | .BoolOp .And (x :: y :: z :: r) pos => chkHE G n a x && chkHE G n b (.BoolOp .And (y :: z :: r) pos)
    | _ => false)
  | .or a b, e => (match e with
    | .BoolOp .Or [x, y] _ => chkHE G n a x && chkHE G n b y
    | .BoolOp .Or (x :: y :: z :: r) pos => chkHE G n a x && chkHE G n b (.BoolOp .Or (y :: z :: r) pos)
    | _ => false)
  | .tup es, e => (match e with
    | .Tuple xs _ _ => decide (xs.length ≤ 100) && chkHEs G n es xs
    | _ => false)
  | .lst es, e => (match e with
    | .List xs _ => decide (xs.length ≤ 100) && chkHEs G n es xs
    | _ => false)
  | .sub a b, e => (match e with
    | .Subscript o i _ => plnB i && (chkHE G n a o && chkHE G n b i)
    | _ => false)
  | .int1 a, e => (match e with
    | .Call (.Name f _) [y] [] _ => decide (f = "int") && (glB G.sc f && (starB y && chkHE G n a y))
    | _ => false)
  | .bin op a b, e => (match e with
    | .BinOp l op' r _ => decide (op = op') && (chkHE G n a l && chkHE G n b r)
    | _ => false)
  | .cmp op a b, e => (match e with
    | .Compare l [op'] [r] _ => decide (op = op') && (plnB r && (chkHE G n a l && chkHE G n b r))
    | _ => false)
  | _, _ => false
def chkHEs (G : Ga) (n : Str) : HEs → List Expr → Bool
  | .nil, xs => (match xs with
    | [] => true
    | _ => false)
  | .cons e es, xs => (match xs with
    | x :: r => starB x && (chkHE G n e x && chkHEs G n es r)
    | [] => false)
end
/-- a context within an except suite: the exception x is at a, in slot xi -/
structure HX (P : Pl) (G : Ga) (X : Cx) (xi : Nat) (n : Str) (a : Addr) (x : D) : Prop where
  K : X.K = P.K
  T : G.T = P.T
  N : X.N = G.N
  nd : G.N.Nodup
  sc : X.env.scope = G.sc
  st : ∀ x, G.w x = true → X.fn x = true ∨ X.env.scope.names.lookup x = some .local
  xf : XF P X.mg
  fr : ∀ x ∈ bltNames, X.mg x = none
  un : X.A.units + 64 < cLine
  hn : G.N[xi]? = some n
  hv : visB G.sc n = true
  hk : nmOk n = true
  ex : ∃ c oe, x = .obj c [] ∧ (P.T.xcl[c]?).isSome = true ∧ (a, oe) ∈ X.pn ∧ Zc (.ref (P.xa c)) none oe ∧ ∃ vs, oe.data = .fields vs
section
variable (P : Pl) (hc : Nat → D → Option D) (xi : Nat) (a : Addr) (x : D)
structure EnH (W : Wo) (H : Hp) (σ : L2.St) (ρ : Rho) : Prop where
  en : En P W H σ ρ
  at_ : σ[xi]? = some (some (.ref a))
def tHE (e : HE) : TE := fun σ H Q => ∃ (W : Wo) (ρ : Rho) (μ : Sto) (d : D), Wd P W H μ ∧ EnH P xi a W H σ ρ ∧ hev P.T hc x e ρ = some d ∧ Post P W H d μ Q
def tHT (e : HE) : TT := fun σ H Q => ∃ (W : Wo) (ρ : Rho) (μ : Sto) (b : Bool), Wd P W H μ ∧ EnH P xi a W H σ ρ ∧ hev P.T hc x e ρ = some (.bl b) ∧ ∀ W' H', Ext W H W' H' → Wd P W' H' μ → Q b H'
def tHA (es : HEs) : TA := fun σ H Q => ∃ (W : Wo) (ρ : Rho) (μ : Sto) (ds : List D), Wd P W H μ ∧ EnH P xi a W H σ ρ ∧ hevs P.T hc x es ρ = some ds ∧ ∀ vs W' H', Ext W H W' H' → Wd P W' H' μ → RepL P W' H' vs ds → Q vs H'
structure SndH (X : Cx) (e : Expr) (c : HE) : Prop where
  pe : PE X e (tHE P hc xi a x c)
  pt : PT X e (tHT P hc xi a x c)
  pw : ∀ op vs pos, e = .BoolOp op vs pos → PW X e (tHT P hc xi a x c)
end
section
variable {P : Pl} {hc : Nat → D → Option D} {xi : Nat} {n : Str} {a : Addr} {x : D} {G : Ga} {X : Cx} {W W' : Wo} {H H' : Hp} {μ : Sto} {σ : L2.St} {ρ : Rho}
theorem EnH.ext (k : Ext W H W' H') (w : Wd P W H μ) (e : EnH P xi a W H σ ρ) : EnH P xi a W' H' σ ρ := ⟨e.en.ext k w, e.at_⟩
theorem HX.gl (g : HX P G X xi n a x) {y : Str} (h : glB G.sc y = true) : Gl X y := by
  have := gl_of h
  rw [← g.sc] at this
  exact this
theorem HX.vis (g : HX P G X xi n a x) {y : Str} (h : visB G.sc y = true) : Vis X.env.scope y := by rw [g.sc]; exact vis_of h
theorem sndH_plain {e : Expr} {c : HE} (h : PE X e (tHE P hc xi a x c)) (he : ∀ whole, isTrue e X.env whole = (do let v ← whole; standAt e.pos; holding [v] (truthy v))) (hb : ∀ op vs pos, e ≠ .BoolOp op vs pos) : SndH P hc xi a x X e c := by
  refine ⟨h, ptI (pt_val h he) fun σ H Q ⟨W, ρ, μ, b, w, en, ee, k⟩ => ?_, fun op vs pos q => absurd q (hb op vs pos)⟩
  exact ⟨W, ρ, μ, .bl b, w, en, ee, fun v W' H' x w' r => by cases r; exact ⟨b, rfl, k W' H' x w'⟩⟩
/-- the exception's name -/
theorem h_name (g : HX P G X xi n a x) {p : Pos} {R : L2.St → Hp → VK → Prop} (h : ∀ σ H Q, R σ H Q → σ[xi]? = some (some (.ref a)) ∧ Q (.ref a) H) : PE X (.Name n p) R := by
  obtain ⟨d1, d2, _⟩ := nmOk_of g.hk
  refine peI (pe_var (i := xi) (by rw [g.N]; exact g.hn) (g.vis g.hv) d1 d2) fun σ H Q r => ?_
  obtain ⟨h1, h2⟩ := h σ H Q r
  exact ⟨_, h1, h2⟩
theorem h_var (g : HX P G X xi n a x) {i : Nat} {y : Str} {pos : Pos} (h1 : G.N[i]? = some y) (h2 : visB G.sc y = true) (h3 : nmOk y = true) : PE X (.Name y pos) (tHE P hc xi a x (.v i)) := by
  obtain ⟨d1, d2, _⟩ := nmOk_of h3
  refine peI (pe_var (i := i) (by rw [g.N]; exact h1) (g.vis h2) d1 d2) fun σ H Q ⟨W, ρ, μ, d, w, en, ee, k⟩ => ?_
  unfold hev at ee
  split at ee
  · rename_i d' he
    cases ee
    obtain ⟨v, hv, r⟩ := en.en.fz i d he
    exact ⟨v, hv, k v W H .refl w r⟩
  · cases ee
/-- isinstance of the exception -/
def rIsH (K : PySem.W.Frag) (D a : Addr) : List V → Hp → VK → Prop := fun xs H Q => ∃ (c : V) (b : Bool), xs = [.ref a, c] ∧ ((∃ cv, ClsV c cv ∧ PySem.W.kitOne K (.ref D) cv = some b) ∨ ∃ tp cs us, c = .ref tp ∧ H tp = some (.tup cs) ∧ Paired ClsV cs us ∧ PySem.W.kitAny K (.ref D) us = some b) ∧ Q (.bl b) H
theorem call_isH {D : Addr} {oe : Obj} (C : ExcC X.K D) (hp : (a, oe) ∈ X.pn) (hz : Zc (.ref D) none oe) (hf : ∃ vs, oe.data = .fields vs) : CallR X (.builtin "isinstance") (rIsH X.K D a) := by
  intro pins s σ H xs us Q I r ⟨c, b, ex, e, q⟩
  subst ex
  obtain ⟨u1, u2, eu, r1, r2⟩ := vals2 r
  subst eu
  cases (show u1 = Value.ref a from r1)
  have hget := (I.pin (a, oe) (List.mem_append_left _ hp)).1
  obtain ⟨vs, hv⟩ := hf
  have J : PySem.W.InstAt s.heap a oe D none := by
    obtain ⟨oc, od, oda, osl⟩ := oe
    simp only at hv
    obtain ⟨z1, z2⟩ := hz
    simp only at z1 z2
    cases z1; cases z2; cases hv
    exact ⟨hget, rfl, rfl, trivial⟩
  have kit := PySem.W.handS_kitx_exc (ox := oe) (x := a) C.hg C.hk C.hs C.hd C.ha C.hn C.ht C.hm
  rcases e with ⟨cv, k, e⟩ | ⟨tp, cs, ws, ec, hT, k, e⟩
  · have e2 := k.eq r2
    subst e2
    exact PySem.W.kia_one kit I.kIn J e (fun z => nomatch z) fun tk => ⟨.bl b, H, I.tok tk, rfl, q⟩
  · subst ec
    cases (show u2 = Value.ref tp from r2)
    obtain ⟨_, its, rv, o, h1, h2, n', h3⟩ := (show ObjOk X.prog X.w H s.heap tp (.tup cs) from I.hok tp _ hT)
    have e3 := ClsV.all k rv
    subst e3
    obtain ⟨oc, od, dt, sl⟩ := o
    simp only at h2 h3
    subst h2 h3
    exact PySem.W.kia_tup kit I.kIn J h1 e (fun z => nomatch z) fun tk => ⟨.bl b, H, I.tok tk, rfl, q⟩
theorem xnB_of (g : HX P G X xi n a x) {c : Nat} {z : Str} (h : xnB G c z = true) : ∃ q, P.T.xcl[c]? = some q ∧ q.1 = z ∧ Gl X z ∧ (z == ("__debug__" : Str)) = false := by
  obtain ⟨h1, h⟩ := ba h
  obtain ⟨h2, h3⟩ := ba h
  split at h1
  · rename_i q hq
    rw [g.T] at hq
    exact ⟨q, hq, of_decide_eq_true h1, g.gl h2, (nmOk_of h3).1⟩
  · cases h1
theorem pe_xcl (g : HX P G X xi n a x) {c : Nat} {z : Str} {p : Pos} (h : xnB G c z = true) : PE X (.Name z p) (tC (.ref (P.xa c))) := by
  obtain ⟨q, hq, ez, gz, hd⟩ := xnB_of g h
  subst ez
  exact pe_glob gz (g.xf.g c q hq) rfl hd
theorem pa_xcls (g : HX P G X xi n a x) : ∀ {cs : List Nat} {es : List Expr}, xnsB G cs es = true → PA X es (fun _ H Q => Q (cs.map fun c => V.ref (P.xa c)) H) ∧ Paired ClsV (cs.map fun c => V.ref (P.xa c)) (cs.map fun c => Value.ref (P.xa c)) ∧ es.length = cs.length
  | [], [], h => ⟨paI pa_nil fun _ _ _ q => q, .nil, rfl⟩
  | c :: cs, e :: es, h => by
    unfold xnsB at h
    obtain ⟨h1, h2⟩ := ba h
    cases e <;> first | (cases h1; done) | skip
    obtain ⟨p1, p2, p3⟩ := pa_xcls g h2
    exact ⟨paI (pa_cons (pe_xcl g h1) p1 rfl) fun _ _ _ q => q, .cons (.own _) p2, by rw [List.length_cons, List.length_cons, p3]⟩
  | [], _ :: _, h => by cases h
  | _ :: _, [], h => by cases h
theorem kitAny_xcl (xf : XF P X.mg) {k : Nat} {q : Str × List Nat} (hq : P.T.xcl[k]? = some q) {ds : List D} : ∀ {cs : List Nat} {b : Bool}, (∀ c ∈ cs, (P.T.xcl[c]?).isSome = true) → anyX P.T (.obj k ds) cs = some b → PySem.W.kitAny P.K (.ref (P.xa k)) (cs.map fun c => Value.ref (P.xa c)) = some b
  | [], b, _, h => by cases h; rfl
  | c :: cs, b, hs, h => by
    obtain ⟨q', hq'⟩ := Option.isSome_iff_exists.mp (hs c List.mem_cons_self)
    unfold anyX at h
    obtain ⟨b1, e1, h⟩ := bind_some' h
    unfold isaX at e1
    simp only [hq, Option.map_some, Option.some.injEq] at e1
    have kk := (xf.kk k c q q' hq hq').1
    rw [e1] at kk
    rw [List.map_cons]
    unfold PySem.W.kitAny
    rw [kk]
    cases b1 with
    | true => simp only [if_true] at h ⊢; cases h; rfl
    | false => exact kitAny_xcl xf hq (fun c hc => hs c (.tail _ hc)) (by simpa using h)
theorem xns_some (g : HX P G X xi n a x) : ∀ {cs : List Nat} {es : List Expr}, xnsB G cs es = true → ∀ c ∈ cs, (P.T.xcl[c]?).isSome = true
  | [], _, _, _, hc => nomatch hc
  | c :: cs, [], h, _, _ => by cases h
  | c :: cs, e :: es, h, c', hc' => by
    unfold xnsB at h
    obtain ⟨h1, h2⟩ := ba h
    rcases List.mem_cons.mp hc' with rfl | hc'
    · cases e <;> first | (cases h1; done) | skip
      obtain ⟨q, hq, _⟩ := xnB_of g h1
      rw [hq]; rfl
    · exact xns_some g h2 c' hc'
theorem h_isi (g : HX P G X xi n a x) {cs : List Nat} {one : Bool} {p p2 pos : Pos} {t : Expr} (hs : starB t = true) (gi : Gl X "isinstance")
    (ht : isiB G one cs t = true) : PE X (.Call (.Name "isinstance" p) [.Name n p2, t] [] pos) (tHE P hc xi a x (.isi cs one)) := by
  obtain ⟨k, oe, rfl, hk, hp, hz, hf⟩ := g.ex
  obtain ⟨q, hq⟩ := Option.isSome_iff_exists.mp hk
  have ci := call_isH (X := X) (a := a) (D := P.xa k) (by rw [g.K]; exact g.xf.ec k q hq) hp hz hf
  have hb : bootBuiltins "isinstance" = some (.builtin "isinstance") := by decide +kernel
  unfold isiB at ht
  split at ht
  · rename_i c z p3
    refine peI (pe_callB (id := "isinstance") ci gi (g.fr _ (by decide +kernel)) hb (pa_cons (h_name g (R := fun σ H Q => σ[xi]? = some (some (.ref a)) ∧ Q (.ref a) H) fun _ _ _ r => r) (pa_cons (pe_xcl g ht) pa_nil)) (by decide +kernel) (by decide +kernel) rfl rfl) fun σ H Q ⟨W, ρ, μ, d, w, en, ee, kq⟩ => ?_
    refine ⟨en.at_, .ref (P.xa c), ?_⟩
    obtain ⟨qc, hqc, _⟩ := xnB_of g ht
    unfold hev at ee
    simp only [isaX, hq, Option.map_some, Option.some.injEq] at ee
    subst ee
    exact ⟨_, rfl, .inl ⟨_, .own _, by rw [g.K]; exact (g.xf.kk k c q qc hq hqc).1⟩, kq _ W H .refl w (.bl _)⟩
  · rename_i es j p3
    obtain ⟨h1, h2⟩ := ba ht
    obtain ⟨pa, pr, hl⟩ := pa_xcls g h1
    refine peI (pe_callB (id := "isinstance") ci gi (g.fr _ (by decide +kernel)) hb (pa_cons (h_name g (R := fun σ H Q => σ[xi]? = some (some (.ref a)) ∧ Q (.ref a) H) fun _ _ _ r => r) (pa_cons (pe_tup pa) pa_nil)) (by decide +kernel) (by decide +kernel) rfl rfl) fun σ H Q ⟨W, ρ, μ, d, w, en, ee, kq⟩ => ?_
    unfold hev at ee
    have hlen := of_decide_eq_true h2
    refine ⟨en.at_, by rw [List.length_map, ← hl, ← lim_eq]; show es.length ≤ 16777216; omega, fun tp htp => ?_⟩
    obtain ⟨x2, w2⟩ := addO (o := .tup (cs.map fun c => V.ref (P.xa c))) w htp
    obtain ⟨b, eb, ed⟩ := Option.map_eq_some_iff.mp (show (anyX P.T (.obj k []) cs).map D.bl = some d by
      revert ee
      cases cs with
      | nil => exact id
      | cons c cs => exact id)
    subst ed
    exact ⟨.ref tp, b, rfl, .inr ⟨tp, _, _, rfl, upd_same, pr, by rw [g.K]; exact kitAny_xcl g.xf hq (xns_some g h1) eb⟩, kq _ W _ x2 w2 (.bl _)⟩
  · cases ht
theorem h_isv (g : HX P G X xi n a x) {p p2 p3 pos : Pos} (gi : Gl X "isinstance") (gz : Gl X "ValueError") : PE X (.Call (.Name "isinstance" p) [.Name n p2, .Name "ValueError" p3] [] pos) (tHE P hc xi a x .isv) := by
  obtain ⟨k, oe, rfl, hk, hp, hz, hf⟩ := g.ex
  obtain ⟨q, hq⟩ := Option.isSome_iff_exists.mp hk
  have ci := call_isH (X := X) (a := a) (D := P.xa k) (by rw [g.K]; exact g.xf.ec k q hq) hp hz hf
  have pn : PE X (.Name "ValueError" p3) (tC (.ty "ValueError")) := pe_bltn gz (g.fr _ (by decide +kernel)) (by decide +kernel : bootBuiltins "ValueError" = some (.type "ValueError")) rfl (by decide +kernel) (by decide +kernel)
  refine peI (pe_callB (id := "isinstance") ci gi (g.fr _ (by decide +kernel)) (by decide +kernel) (pa_cons (h_name g (R := fun σ H Q => σ[xi]? = some (some (.ref a)) ∧ Q (.ref a) H) fun _ _ _ r => r) (pa_cons pn pa_nil)) (by decide +kernel) (by decide +kernel) rfl rfl) fun σ H Q ⟨W, ρ, μ, d, w, en, ee, kq⟩ => ?_
  unfold hev at ee
  simp only [hk, if_true] at ee
  cases ee
  exact ⟨en.at_, .ty "ValueError", true, rfl, .inl ⟨_, .ty _, by rw [g.K]; exact g.xf.kv k q hq⟩, kq _ W H .refl w (.bl _)⟩
theorem h_not {e : Expr} {c : HE} {pos : Pos} (ha : SndH P hc xi a x X e c) : SndH P hc xi a x X (.UnaryOp .Not e pos) (.not c) := by
  refine ⟨peI (pe_not ha.pe) fun σ H Q ⟨W, ρ, μ, d, w, en, ee, k⟩ => ?_, ptI (pt_not ha.pt) fun σ H Q ⟨W, ρ, μ, d, w, en, ee, k⟩ => ?_, fun _ _ _ q => nomatch q⟩
  · unfold hev at ee
    obtain ⟨y, e1, ee⟩ := bind_some' ee
    split at ee
    · cases ee
      refine ⟨W, ρ, μ, _, w, en, e1, fun v W' H' x' w' r => ?_⟩
      cases r
      exact ⟨_, rfl, k _ W' H' x' w' (.bl _)⟩
    · cases ee
  · unfold hev at ee
    obtain ⟨y, e1, ee⟩ := bind_some' ee
    split at ee
    · cases ee
      exact ⟨W, ρ, μ, _, w, en, e1, fun W' H' x' w' => k W' H' x' w'⟩
    · cases ee
theorem h_and {e f : Expr} {r : List Expr} {ca cb : HE} {pos : Pos} (ha : SndH P hc xi a x X e ca) (pe : PE X (.BoolOp .And (f :: r) pos) (tHE P hc xi a x cb)) (pw : PW X (.BoolOp .And (f :: r) pos) (tHT P hc xi a x cb)) : SndH P hc xi a x X (.BoolOp .And (e :: f :: r) pos) (.and ca cb) := by
  have hw : PW X (.BoolOp .And (e :: f :: r) pos) (tHT P hc xi a x (.and ca cb)) := by
    refine pwI (pw_and ha.pt pw) fun σ H Q ⟨W, ρ, μ, d, w, en, ee, k⟩ => ?_
    unfold hev at ee
    obtain ⟨y, e1, ee⟩ := bind_some' ee
    split at ee
    · exact ⟨W, ρ, μ, true, w, en, e1, fun W1 H1 x1 w1 => iteT ⟨W1, ρ, μ, d, w1, en.ext x1 w, ee, fun W' H' x' w' => k W' H' (x1.trans x' w w1) w'⟩⟩
    · cases ee
      exact ⟨W, ρ, μ, false, w, en, e1, fun W1 H1 x1 w1 => iteF (k W1 H1 x1 w1)⟩
    · cases ee
  refine ⟨peI (pe_and ha.pe pe) fun σ H Q ⟨W, ρ, μ, d, w, en, ee, k⟩ => ?_, hw.pt, fun op vs pos q => by cases q; exact hw⟩
  unfold hev at ee
  obtain ⟨y, e1, ee⟩ := bind_some' ee
  refine ⟨W, ρ, μ, y, w, en, e1, fun v1 W1 H1 x1 w1 r1 => ?_⟩
  split at ee
  · cases r1
    exact ⟨true, rfl, iteT ⟨W1, ρ, μ, d, w1, en.ext x1 w, ee, fun v W' H' x' w' => k v W' H' (x1.trans x' w w1) w'⟩⟩
  · cases r1
    cases ee
    exact ⟨false, rfl, iteF (k _ W1 H1 x1 w1 (.bl false))⟩
  · cases ee
theorem h_or {e f : Expr} {r : List Expr} {ca cb : HE} {pos : Pos} (ha : SndH P hc xi a x X e ca) (pe : PE X (.BoolOp .Or (f :: r) pos) (tHE P hc xi a x cb)) (pw : PW X (.BoolOp .Or (f :: r) pos) (tHT P hc xi a x cb)) : SndH P hc xi a x X (.BoolOp .Or (e :: f :: r) pos) (.or ca cb) := by
  have hw : PW X (.BoolOp .Or (e :: f :: r) pos) (tHT P hc xi a x (.or ca cb)) := by
    refine pwI (pw_or ha.pt pw) fun σ H Q ⟨W, ρ, μ, d, w, en, ee, k⟩ => ?_
    unfold hev at ee
    obtain ⟨y, e1, ee⟩ := bind_some' ee
    split at ee
    · exact ⟨W, ρ, μ, false, w, en, e1, fun W1 H1 x1 w1 => iteF ⟨W1, ρ, μ, d, w1, en.ext x1 w, ee, fun W' H' x' w' => k W' H' (x1.trans x' w w1) w'⟩⟩
    · cases ee
      exact ⟨W, ρ, μ, true, w, en, e1, fun W1 H1 x1 w1 => iteT (k W1 H1 x1 w1)⟩
    · cases ee
  refine ⟨peI (pe_or ha.pe pe) fun σ H Q ⟨W, ρ, μ, d, w, en, ee, k⟩ => ?_, hw.pt, fun op vs pos q => by cases q; exact hw⟩
  unfold hev at ee
  obtain ⟨y, e1, ee⟩ := bind_some' ee
  refine ⟨W, ρ, μ, y, w, en, e1, fun v1 W1 H1 x1 w1 r1 => ?_⟩
  split at ee
  · cases r1
    exact ⟨false, rfl, iteF ⟨W1, ρ, μ, d, w1, en.ext x1 w, ee, fun v W' H' x' w' => k v W' H' (x1.trans x' w w1) w'⟩⟩
  · cases r1
    cases ee
    exact ⟨true, rfl, iteT (k _ W1 H1 x1 w1 (.bl true))⟩
  · cases ee
theorem h_nil : PA X [] (tHA P hc xi a x .nil) := paI pa_nil fun σ H Q ⟨W, ρ, μ, ds, w, en, ee, k⟩ => by
  unfold hevs at ee
  cases ee
  exact k [] W H .refl w .nil
theorem h_cons {e : Expr} {es : List Expr} {c : HE} {cs : HEs} (hs : starB e = true) (he : PE X e (tHE P hc xi a x c)) (hes : PA X es (tHA P hc xi a x cs)) : PA X (e :: es) (tHA P hc xi a x (.cons c cs)) :=
  paI (pa_cons he hes (star_cons hs)) fun σ H Q ⟨W, ρ, μ, ds, w, en, ee, k⟩ => by
    unfold hevs at ee
    obtain ⟨y, e1, ee⟩ := bind_some' ee
    obtain ⟨ys, e2, ee⟩ := bind_some' ee
    cases ee
    exact ⟨W, ρ, μ, y, w, en, e1, fun v1 W1 H1 x1 w1 r1 => ⟨W1, ρ, μ, ys, w1, en.ext x1 w, e2, fun vs W2 H2 x2 w2 r2 => k _ W2 H2 (x1.trans x2 w w1) w2 (.cons (r1.ext x2 w1) r2)⟩⟩
theorem hevs_len {es : HEs} : ∀ {xs : List Expr} {ds : List D}, chkHEs G n es xs = true → hevs P.T hc x es ρ = some ds → ds.length = xs.length := by
  intro xs
  induction xs generalizing es with
  | nil =>
    intro ds h e
    cases es with
    | nil => unfold hevs at e; cases e; rfl
    | cons c cs => unfold chkHEs at h; cases h
  | cons y ys ih =>
    intro ds h e
    cases es with
    | nil => unfold chkHEs at h; cases h
    | cons c cs =>
      unfold chkHEs at h
      unfold hevs at e
      obtain ⟨d, e1, e⟩ := bind_some' e
      obtain ⟨r, e2, e⟩ := bind_some' e
      cases e
      rw [List.length_cons, List.length_cons, ih (ba (ba h).2).2 e2]
theorem h_tup {xs : List Expr} {es : HEs} {j : Nat} {pos : Pos} (hl : xs.length ≤ 100) (h : chkHEs G n es xs = true) (ha : PA X xs (tHA P hc xi a x es)) : PE X (.Tuple xs j pos) (tHE P hc xi a x (.tup es)) := by
  refine peI (pe_tup ha) fun σ H Q ⟨W, ρ, μ, d, w, en, ee, k⟩ => ?_
  unfold hev at ee
  obtain ⟨ds, e1, ed⟩ := Option.map_eq_some_iff.mp ee
  subst ed
  refine ⟨W, ρ, μ, ds, w, en, e1, fun vs W1 H1 x1 w1 r1 => ?_⟩
  have hv : vs.length ≤ 100 := by rw [r1.len, hevs_len h e1]; exact hl
  refine ⟨by rw [← lim_eq]; show vs.length ≤ 16777216; omega, fun p hp => ?_⟩
  obtain ⟨x2, w2⟩ := addF (o := .tup vs) w1 hp
  exact k _ _ _ (x1.trans x2 w w1) w2 (.tup (.of upd_same) (.inl ⟨.inr rfl, upd_same⟩) (by show vs.length ≤ 16777216; omega) (r1.ext x2 w1))
theorem h_lst {xs : List Expr} {es : HEs} {pos : Pos} (hl : xs.length ≤ 100) (h : chkHEs G n es xs = true) (ha : PA X xs (tHA P hc xi a x es)) : PE X (.List xs pos) (tHE P hc xi a x (.lst es)) := by
  refine peI (pe_lst ha) fun σ H Q ⟨W, ρ, μ, d, w, en, ee, k⟩ => ?_
  unfold hev at ee
  obtain ⟨ds, e1, ed⟩ := Option.map_eq_some_iff.mp ee
  subst ed
  refine ⟨W, ρ, μ, ds, w, en, e1, fun vs W1 H1 x1 w1 r1 => ?_⟩
  have hv : vs.length ≤ 100 := by rw [r1.len, hevs_len h e1]; exact hl
  refine ⟨by rw [← lim_eq]; show vs.length ≤ 16777216; omega, fun p hp => ?_⟩
  obtain ⟨x2, w2⟩ := addF (o := .lst vs) w1 hp
  exact k _ _ _ (x1.trans x2 w w1) w2 (.lst (.of upd_same) (.inl (.inr rfl)) (by show vs.length ≤ 16777216; omega) (r1.ext x2 w1))
theorem h_sub (g : HX P G X xi n a x) {o i : Expr} {ca cb : HE} {pos : Pos} (hp : plnB i = true) (ha : PE X o (tHE P hc xi a x ca)) (hb : PE X i (tHE P hc xi a x cb)) : PE X (.Subscript o i pos) (tHE P hc xi a x (.sub ca cb)) := by
  refine peI (pe_ix (ix_sub g.K) ha hb (plain_ix hp)) fun σ H Q ⟨W, ρ, μ, d, w, en, ee, k⟩ => ?_
  unfold hev at ee
  obtain ⟨y, e1, ee⟩ := bind_some' ee
  obtain ⟨z, e2, ee⟩ := bind_some' ee
  split at ee
  · exact ⟨W, ρ, μ, _, w, en, e1, fun v1 W1 H1 x1 w1 r1 => ⟨W1, ρ, μ, _, w1, en.ext x1 w, e2, fun v2 W2 H2 x2 w2 r2 => ⟨W2, μ, _, _, d, w2, .inl (r1.ext x2 w1), .inl r2, ee, fun v W' H' x' w' r' => k v W' H' ((x1.trans x2 w w1).trans x' w w2) w' r'⟩⟩⟩
  · cases ee
theorem h_bin (g : HX P G X xi n a x) {op : Operator} {e f : Expr} {ca cb : HE} {pos : Pos} (ha : PE X e (tHE P hc xi a x ca)) (hb : PE X f (tHE P hc xi a x cb)) : PE X (.BinOp e op f pos) (tHE P hc xi a x (.bin op ca cb)) := by
  refine peI (pe_op (op_bin g.K op) ha hb) fun σ H Q ⟨W, ρ, μ, d, w, en, ee, k⟩ => ?_
  unfold hev at ee
  obtain ⟨y, e1, ee⟩ := bind_some' ee
  obtain ⟨z, e2, ee⟩ := bind_some' ee
  split at ee
  · exact ⟨W, ρ, μ, _, w, en, e1, fun v1 W1 H1 x1 w1 r1 => ⟨W1, ρ, μ, _, w1, en.ext x1 w, e2, fun v2 W2 H2 x2 w2 r2 => ⟨W2, μ, _, _, d, w2, r1.ext x2 w1, r2, ee, fun v W' H' x' w' r' => k v W' H' ((x1.trans x2 w w1).trans x' w w2) w' r'⟩⟩⟩
  · cases ee
theorem h_cmp (g : HX P G X xi n a x) {op : CmpOp} {e f : Expr} {ca cb : HE} {pos : Pos} (hp : plnB f = true) (ha : PE X e (tHE P hc xi a x ca)) (hb : PE X f (tHE P hc xi a x cb)) : SndH P hc xi a x X (.Compare e [op] [f] pos) (.cmp op ca cb) := by
  have ho := op_cmp (X := X) g.K g.un op
  have main : ∀ {σ H ρ W μ d} {Q : VK}, Wd P W H μ → EnH P xi a W H σ ρ → hev P.T hc x (.cmp op ca cb) ρ = some d → (∀ b W' H', d = .bl b → Ext W H W' H' → Wd P W' H' μ → Q (.bl b) H') → tOp (rCmp P op) (tHE P hc xi a x ca) (tHE P hc xi a x cb) σ H Q := fun {σ H ρ W μ d Q} w en ee k => by
    unfold hev at ee
    obtain ⟨y, e1, ee⟩ := bind_some' ee
    obtain ⟨z, e2, ee⟩ := bind_some' ee
    split at ee
    · rename_i i j _
      obtain ⟨b, eb, ed⟩ := Option.map_eq_some_iff.mp ee
      have eb' : ∀ μ, cmpD op (.int i) (.int j) μ = some b := fun μ => by rw [← eb]; cases op <;> rfl
      exact ⟨W, ρ, μ, _, w, en, e1, fun v1 W1 H1 x1 w1 r1 => ⟨W1, ρ, μ, _, w1, en.ext x1 w, e2, fun v2 W2 H2 x2 w2 r2 => ⟨W2, μ, _, _, b, w2, .inl (r1.ext x2 w1), .inl r2, eb' μ, k b W2 H2 ed.symm (x1.trans x2 w w1) w2⟩⟩⟩
    · cases ee
  refine ⟨peI (pe_cmpR ho ha hb (plain_mark hp)) fun σ H Q ⟨W, ρ, μ, d, w, en, ee, k⟩ => main w en ee fun b W' H' ed x' w' => k _ W' H' x' w' (ed ▸ .bl b), ptI (pt_cmpR ho ha hb (plain_mark hp)) fun σ H Q ⟨W, ρ, μ, b, w, en, ee, k⟩ => main w en ee fun b' W' H' ed x' w' => ?_, fun _ _ _ q => nomatch q⟩
  cases ed
  exact ⟨b, rfl, k W' H' x' w'⟩
theorem rl_intB : CallR X (.type "int") (fun xs H Q => ∃ b, xs = [.bl b] ∧ Q (.int (if b = true then 1 else 0)) H) := fun pins s σ H xs us Q I r ⟨b, e, q⟩ => call_int1 pins s σ H xs us Q I r (.inr ⟨b, e, q⟩)
theorem h_int (g : HX P G X xi n a x) {y : Expr} {c : HE} {p pos : Pos} (gl : Gl X "int") (hs : starB y = true) (ha : PE X y (tHE P hc xi a x c)) : PE X (.Call (.Name "int" p) [y] [] pos) (tHE P hc xi a x (.int1 c)) := by
  refine peI (pe_callTy (T := "int") rl_intB gl (g.fr _ (by decide +kernel)) (by decide +kernel) (pa_cons ha pa_nil (star_cons hs)) (by decide +kernel) (by decide +kernel) (star_cons hs) rfl) fun σ H Q ⟨W, ρ, μ, d, w, en, ee, k⟩ => ?_
  unfold hev at ee
  obtain ⟨y, e1, ee⟩ := bind_some' ee
  split at ee
  · cases ee
    refine ⟨W, ρ, μ, _, w, en, e1, fun v1 W1 H1 x1 w1 r1 => ?_⟩
    cases r1
    exact ⟨_, rfl, k _ W1 H1 x1 w1 (.int _)⟩
  · cases ee
mutual
theorem sndH : ∀ (c : HE) {e : Expr}, HX P G X xi n a x → chkHE G n c e = true → SndH P hc xi a x X e c
  | .k d, e, g, h => by
    unfold chkHE at h
    cases e <;> first | (cases h; done) | skip
    obtain ⟨v, p, r⟩ := const_rep (X := X) h
    refine sndH_plain (peI p fun σ H Q ⟨W, ρ, μ, d', w, en, ee, k⟩ => ?_) (fun _ => rfl) (fun _ _ _ q => nomatch q)
    unfold hev at ee
    cases ee
    exact k v W H .refl w (r W H)
  | .v i, e, g, h => by
    unfold chkHE at h
    cases e <;> first | (cases h; done) | skip
    obtain ⟨h1, h⟩ := ba h
    obtain ⟨h2, h3⟩ := ba h
    exact sndH_plain (h_var g (of_decide_eq_true h1) h2 h3) (fun _ => rfl) (fun _ _ _ q => nomatch q)
  | .isi cs one, e, g, h => by
    unfold chkHE at h
    split at h
    · obtain ⟨h1, h⟩ := ba h
      obtain ⟨h2, h⟩ := ba h
      obtain ⟨h3, h4⟩ := ba h
      have e1 := of_decide_eq_true h1
      have e3 := of_decide_eq_true h3
      subst e1 e3
      refine sndH_plain (h_isi g ?_ (g.gl h2) h4) (fun _ => rfl) (fun _ _ _ q => nomatch q)
      unfold isiB at h4
      split at h4 <;> first | rfl | cases h4
    · cases h
  | .isv, e, g, h => by
    unfold chkHE at h
    split at h
    · obtain ⟨h1, h⟩ := ba h
      obtain ⟨h2, h⟩ := ba h
      obtain ⟨h3, h⟩ := ba h
      obtain ⟨h4, h5⟩ := ba h
      have e1 := of_decide_eq_true h1
      have e3 := of_decide_eq_true h3
      have e4 := of_decide_eq_true h4
      subst e1 e3 e4
      exact sndH_plain (h_isv g (g.gl h2) (g.gl h5)) (fun _ => rfl) (fun _ _ _ q => nomatch q)
    · cases h
  | .not c, e, g, h => by
    unfold chkHE at h
    split at h
    · exact h_not (sndH c g h)
    · cases h
  | .and c d, e, g, h => by
    unfold chkHE at h
    split at h
    · obtain ⟨h1, h2⟩ := ba h
      have hb := sndH d g h2
      exact h_and (sndH c g h1) (pe_one hb.pe) (pw_and1 hb.pt)
    · obtain ⟨h1, h2⟩ := ba h
      have hb := sndH d g h2
      exact h_and (sndH c g h1) hb.pe (hb.pw _ _ _ rfl)
    · cases h
  | .or c d, e, g, h => by
    unfold chkHE at h
    split at h
    · obtain ⟨h1, h2⟩ := ba h
      have hb := sndH d g h2
      exact h_or (sndH c g h1) (pe_one hb.pe) (pw_or1 hb.pt)
    · obtain ⟨h1, h2⟩ := ba h
      have hb := sndH d g h2
      exact h_or (sndH c g h1) hb.pe (hb.pw _ _ _ rfl)
    · cases h
  | .tup es, e, g, h => by
    unfold chkHE at h
    cases e <;> first | (cases h; done) | skip
    obtain ⟨h1, h2⟩ := ba h
    exact sndH_plain (h_tup (of_decide_eq_true h1) h2 (sndHs es g h2)) (fun _ => rfl) (fun _ _ _ q => nomatch q)
  | .lst es, e, g, h => by
    unfold chkHE at h
    cases e <;> first | (cases h; done) | skip
    obtain ⟨h1, h2⟩ := ba h
    exact sndH_plain (h_lst (of_decide_eq_true h1) h2 (sndHs es g h2)) (fun _ => rfl) (fun _ _ _ q => nomatch q)
  | .sub c d, e, g, h => by
    unfold chkHE at h
    cases e <;> first | (cases h; done) | skip
    obtain ⟨h1, h⟩ := ba h
    obtain ⟨h2, h3⟩ := ba h
    exact sndH_plain (h_sub g h1 (sndH c g h2).pe (sndH d g h3).pe) (fun _ => rfl) (fun _ _ _ q => nomatch q)
  | .int1 c, e, g, h => by
    unfold chkHE at h
    split at h
    · obtain ⟨h1, h⟩ := ba h
      obtain ⟨h2, h⟩ := ba h
      obtain ⟨h3, h4⟩ := ba h
      have e1 := of_decide_eq_true h1
      subst e1
      exact sndH_plain (h_int g (g.gl h2) h3 (sndH c g h4).pe) (fun _ => rfl) (fun _ _ _ q => nomatch q)
    · cases h
  | .bin op c d, e, g, h => by
    unfold chkHE at h
    cases e <;> first | (cases h; done) | skip
    obtain ⟨h1, h⟩ := ba h
    obtain ⟨h2, h3⟩ := ba h
    have e1 := of_decide_eq_true h1
    subst e1
    exact sndH_plain (h_bin g (sndH c g h2).pe (sndH d g h3).pe) (fun _ => rfl) (fun _ _ _ q => nomatch q)
  | .cmp op c d, e, g, h => by
    unfold chkHE at h
    split at h
    · obtain ⟨h1, h⟩ := ba h
      obtain ⟨h2, h⟩ := ba h
      obtain ⟨h3, h4⟩ := ba h
      have e1 := of_decide_eq_true h1
      subst e1
      exact h_cmp g h2 (sndH c g h3).pe (sndH d g h4).pe
    · cases h
  | .at, e, g, h => by unfold chkHE at h; cases h
  | .cnt _ _, e, g, h => by unfold chkHE at h; cases h
  | .idx _ _, e, g, h => by unfold chkHE at h; cases h
  | .str1 _, e, g, h => by unfold chkHE at h; cases h
  | .cat _ _, e, g, h => by unfold chkHE at h; cases h
  | .call _, e, g, h => by unfold chkHE at h; cases h
  | .lcR _ _ _, e, g, h => by unfold chkHE at h; cases h
  | .lcZ _ _ _ _, e, g, h => by unfold chkHE at h; cases h
theorem sndHs : ∀ (es : HEs) {xs : List Expr}, HX P G X xi n a x → chkHEs G n es xs = true → PA X xs (tHA P hc xi a x es)
  | .nil, xs, g, h => by
    unfold chkHEs at h
    cases xs with
    | nil => exact h_nil
    | cons _ _ => cases h
  | .cons c cs, xs, g, h => by
    unfold chkHEs at h
    cases xs with
    | nil => cases h
    | cons y ys =>
      obtain ⟨h1, h⟩ := ba h
      obtain ⟨h2, h3⟩ := ba h
      exact h_cons h1 (sndH c g h2).pe (sndHs cs g h3)
end
end
end EV

set_option Elab.async false
set_option linter.all false
set_option maxRecDepth 100000
set_option maxHeartbeats 2000000
namespace EV
open PySem PySem.Spec PyProof.Rows L2
/-! calls that raise -/
section
variable {X : Cx} {CX : CXT} {k : Nat} {f C : Addr} {fd : FuncData} {ps : List Str} {sp : Sp} {E : L2.St → XK} {x m : Str} {p pos apos : Pos} {e o : Expr} {es : List Expr} {ta : TE} {t u : TA}
def tCallX (sp : Sp) (E : L2.St → XK) (t : TA) : TE := fun σ H Q => t σ H fun vs H1 => sp vs H1 Q (E σ)
theorem pe_fnX (F : FnG X.prog X.w X.K X.mg X.base CX k f fd ps sp) (hc : Calm X.A) (hr : Room k X.A) (hg : Gl X x) (hm : X.mg x = some (.ref f)) (hk : PySem.W.keepIn X.K (.ref f) = true) (hb : Binds X.K fd ps []) (hx : ∀ σ, PassesAt CX X σ (E σ))
    (ha : PA X (e :: es) t) (hdb : (x == ("__debug__" : Str)) = false) (he : starEach (e :: es) X.env = (false, eval e X.env) :: starEach es X.env) (hpl : (backTo pos (starEach es X.env)).any (·.1) = false) :
    PE X (.Call (.Name x p) (e :: es) [] pos) (tCallX sp E t) :=
  ⟨fun pins s σ H Q I h => wpAny_Call_Name_kw (ld_glob I hg hm (PySem.W.callWith_K (h₀ := X.base) I.ok.mod.kin hk (thn (ha.run pos pins s σ H _ I h) fun us s1 ⟨vs, H1, I1, r, q⟩ => ⟨I1.kIn, go_fn (dvs := []) F hc hr hb .nil (hx σ) I1 r (by rw [List.append_nil]; exact q)⟩) he hpl) hdb)⟩
theorem pe_fnX0 (F : FnG X.prog X.w X.K X.mg X.base CX k f fd ps sp) (hc : Calm X.A) (hr : Room k X.A) (hg : Gl X x) (hm : X.mg x = some (.ref f)) (hk : PySem.W.keepIn X.K (.ref f) = true) (hb : Binds X.K fd ps []) (hx : ∀ σ, PassesAt CX X σ (E σ))
    (hdb : (x == ("__debug__" : Str)) = false) : PE X (.Call (.Name x p) [] [] pos) (tCallX sp E tNil) :=
  ⟨fun pins s σ H Q I h => wpAny_Call_Name_kw (ld_glob I hg hm (PySem.W.callWith_K0 I.kIn hk (go_fn (us := []) (dvs := []) F hc hr hb .nil (hx σ) I .nil (by rw [List.append_nil]; exact h))) hdb)⟩
def tMakeX (C : Addr) (sp : Sp) (E : L2.St → XK) (t : TA) : TE := fun σ H Q => t σ H fun vs H1 => ∀ x dx, H1 x = none → H1 dx = none → dx ≠ x → sp (.ref x :: vs) (upd (upd H1 dx (.own x)) x (.ins C dx [])) (fun v H2 => v = .non ∧ Q (.ref x) H2) (E σ)
theorem pe_mkX (M : Mk X.K C f) (F : FnG X.prog X.w X.K X.mg X.base CX k f fd ps sp) (hc : Calm X.A) (hr : Room (k + 1) X.A) (hg : Gl X x) (hm : X.mg x = some (.ref C)) (hb : Binds X.K fd ps []) (hx : ∀ σ, PassesAt CX X σ (E σ))
    (ha : PA X (e :: es) t) (hdb : (x == ("__debug__" : Str)) = false) (he : starEach (e :: es) X.env = (false, eval e X.env) :: starEach es X.env) (hpl : (backTo pos (starEach es X.env)).any (·.1) = false) :
    PE X (.Call (.Name x p) (e :: es) [] pos) (tMakeX C sp E t) :=
  ⟨fun pins s σ H Q I h => wpAny_Call_Name_kw (ld_glob I hg hm (PySem.W.callWith_K (h₀ := X.base) I.ok.mod.kin M.kp (thn (ha.run pos pins s σ H _ I h) fun us s1 ⟨vs, H1, I1, r, q⟩ => ⟨I1.kIn, go_make (dvs := []) M F hc hr hb .nil (hx σ) I1 r (by rw [List.append_nil]; exact q)⟩) he hpl) hdb)⟩
theorem pe_mkX0 (M : Mk X.K C f) (F : FnG X.prog X.w X.K X.mg X.base CX k f fd ps sp) (hc : Calm X.A) (hr : Room (k + 1) X.A) (hg : Gl X x) (hm : X.mg x = some (.ref C)) (hb : Binds X.K fd ps []) (hx : ∀ σ, PassesAt CX X σ (E σ))
    (hdb : (x == ("__debug__" : Str)) = false) : PE X (.Call (.Name x p) [] [] pos) (tMakeX C sp E tNil) :=
  ⟨fun pins s σ H Q I h => wpAny_Call_Name_kw (ld_glob I hg hm (PySem.W.callWith_K0 I.kIn M.kp (go_make (us := []) (dvs := []) M F hc hr hb .nil (hx σ) I .nil (by rw [List.append_nil]; exact h))) hdb)⟩
def tMX (X : Cx) (CX : CXT) (n : Nat) (m : Str) (ta : TE) (E : L2.St → XK) (t : TA) : TE := fun σ H Q => ta σ H fun x H1 => ∃ (a C dx : Addr) (fs : List (Str × V)) (f : Addr) (fd : FuncData) (ps : List Str) (sp : Sp), x = .ref a ∧ H1 a = some (.ins C dx fs) ∧ fs.lookup m = none ∧ Cls X.K C ∧ L2.Meth X.K C m f ∧
  FnG X.prog X.w X.K X.mg X.base CX n f fd ps sp ∧ Binds X.K fd ps [] ∧ t σ H1 fun vs H2 => sp (x :: vs) H2 Q (E σ)
theorem pe_methX {n : Nat} (hx : ∀ σ, PassesAt CX X σ (E σ)) (hp : plnB o = true) (hs : (e :: es).all starB = true) (hn : (e :: es).length < 30) (hl : (apos.endLine == pos.line) = true) (he : PE X o ta) (hc : Calm X.A) (hr : Room n X.A) (ha : PA X (e :: es) t) : PE X (.Call (.Attribute o m apos) (e :: es) [] pos) (tMX X CX n m ta E t) := by
  have ht := meth_ev (X := X) (m := m) (apos := apos) (pos := pos) hp hs hn hl
  rw [List.all_cons, Bool.and_eq_true] at hs
  refine ⟨fun pins s σ H Q I h => ?_⟩
  refine PySem.W.methodCall_KW (thn (he.run pins s σ H _ I h) fun u s1 ⟨x, H1, I1, rx, a, C, dx, fs, f, fd, ps, sp, ex, ea, l, c, hm, F, hb, q⟩ => ?_) ht
  subst ex
  obtain rfl : u = Value.ref a := rx
  refine getmeth_ok I1 ea c hm l ?_
  refine PySem.W.callWith_K (first := [.ref a]) (h₀ := X.base) I.ok.mod.kin hm.kp (thn (ha.run pos pins s1 σ H1 _ I1 q) fun us s2 ⟨vs, H2, I2, r, q2⟩ => ⟨I2.kIn, ?_⟩) (star_cons hs.1) (star_any hs.2)
  exact go_fn (us := .ref a :: us) (vs := .ref a :: vs) (dvs := []) F hc hr hb .nil (hx σ) I2 (.cons rfl r) (by rw [List.append_nil]; exact q2)
theorem pe_methX0 {n : Nat} (hx : ∀ σ, PassesAt CX X σ (E σ)) (hp : plnB o = true) (hl : (apos.endLine == pos.line) = true) (he : PE X o ta) (hc : Calm X.A) (hr : Room n X.A) : PE X (.Call (.Attribute o m apos) [] [] pos) (tMX X CX n m ta E tNil) := by
  have ht := meth_ev (X := X) (m := m) (apos := apos) (pos := pos) (xs := []) hp rfl (by decide) hl
  refine ⟨fun pins s σ H Q I h => ?_⟩
  refine PySem.W.methodCall_KW (thn (he.run pins s σ H _ I h) fun u s1 ⟨x, H1, I1, rx, a, C, dx, fs, f, fd, ps, sp, ex, ea, l, c, hm, F, hb, q⟩ => ?_) ht
  subst ex
  obtain rfl : u = Value.ref a := rx
  refine getmeth_ok I1 ea c hm l ?_
  exact PySem.W.callWith_K0 (first := [.ref a]) I1.kIn hm.kp (go_fn (us := [.ref a]) (vs := [.ref a]) (dvs := []) F hc hr hb .nil (hx σ) I1 (.cons rfl .nil) (by rw [List.append_nil]; exact q))
theorem pe_or {t t' : TE} (h : PE X e t) (h' : PE X e t') : PE X e (fun σ H Q => t σ H Q ∨ t' σ H Q) := ⟨fun pins s σ H Q I q => q.elim (h.run pins s σ H Q I) (h'.run pins s σ H Q I)⟩
theorem pa_or (h : PA X es t) (h' : PA X es u) : PA X es (fun σ H Q => t σ H Q ∨ u σ H Q) := ⟨fun pos pins s σ H Q I q => q.elim (h.run pos pins s σ H Q I) (h'.run pos pins s σ H Q I)⟩
theorem pt_or' {t t' : TT} (h : PT X e t) (h' : PT X e t') : PT X e (fun σ H Q => t σ H Q ∨ t' σ H Q) := ⟨fun pins s σ H Q I q => q.elim (h.run pins s σ H Q I) (h'.run pins s σ H Q I)⟩
theorem pw_or' {t t' : TT} (h : PW X e t) (h' : PW X e t') : PW X e (fun σ H Q => t σ H Q ∨ t' σ H Q) := ⟨fun wh pins s σ H Q I q => q.elim (h.run wh pins s σ H Q I) (h'.run wh pins s σ H Q I)⟩
end
/-! expressions that raise -/
section
variable (P : Pl) (cal : Cal) (mak : Mak) (Wx : WX)
def tXE (e : E) : TE := fun σ H _ => ∃ (W : Wo) (ρ : Rho) (μ : Sto) (x : D) (μ' : Sto), Wd P W H μ ∧ En P W H σ ρ ∧ evx P.T cal mak e ρ μ = some (x, μ') ∧ PostX P W H x μ' (WE Wx σ)
def tXT (e : E) : TT := fun σ H _ => ∃ (W : Wo) (ρ : Rho) (μ : Sto) (x : D) (μ' : Sto), Wd P W H μ ∧ En P W H σ ρ ∧ evx P.T cal mak e ρ μ = some (x, μ') ∧ PostX P W H x μ' (WE Wx σ)
def tXR (e : R) : TE := fun σ H _ => ∃ (W : Wo) (ρ : Rho) (μ : Sto) (x : D) (μ' : Sto), Wd P W H μ ∧ En P W H σ ρ ∧ evxR P.T cal mak e ρ μ = some (x, μ') ∧ PostX P W H x μ' (WE Wx σ)
def tXO (e : O) : TE := fun σ H _ => ∃ (W : Wo) (ρ : Rho) (μ : Sto) (x : D) (μ' : Sto), Wd P W H μ ∧ En P W H σ ρ ∧ evxO P.T cal mak e ρ μ = some (x, μ') ∧ PostX P W H x μ' (WE Wx σ)
def tXA (e : Es) : TA := fun σ H _ => ∃ (W : Wo) (ρ : Rho) (μ : Sto) (x : D) (μ' : Sto), Wd P W H μ ∧ En P W H σ ρ ∧ evxs P.T cal mak e ρ μ = some (x, μ') ∧ PostX P W H x μ' (WE Wx σ)
structure SndX (X : Cx) (e : Expr) (c : E) : Prop where
  pe : PE X e (tXE P cal mak Wx c)
  pt : PT X e (tXT P cal mak Wx c)
  pw : ∀ op vs pos, e = .BoolOp op vs pos → PW X e (tXT P cal mak Wx c)
end
section
variable {P : Pl} {n : Nat} {cal : Cal} {mak : Mak} {Wx : WX} {G : Ga} {X : Cx}
theorem PostX.back {W W1 : Wo} {H H1 : Hp} {x : D} {μ μ' : Sto} {E : XK} (x1 : Ext W H W1 H1) (w : Wd P W H μ) (w1 : Wd P W1 H1 μ) (k : PostX P W H x μ' E) : PostX P W1 H1 x μ' E := fun W' H' cls d x' w' r => k W' H' cls d (x1.tr x' w1) w' r
theorem PostX.bk {W W1 : Wo} {H H1 : Hp} {x : D} {μ1 μ' : Sto} {E : XK} (x1 : Ext W H W1 H1) (w1 : Wd P W1 H1 μ1) (k : PostX P W H x μ' E) : PostX P W1 H1 x μ' E := fun W' H' cls d x' w' r => k W' H' cls d (x1.tr x' w1) w' r
theorem sndX_plain {e : Expr} {c : E} (h : PE X e (tXE P cal mak Wx c)) (he : ∀ whole, isTrue e X.env whole = (do let v ← whole; standAt e.pos; holding [v] (truthy v))) (hb : ∀ op vs pos, e ≠ .BoolOp op vs pos) : SndX P cal mak Wx X e c := by
  refine ⟨h, ptI (pt_val h he) fun σ H Q h => h, fun op vs pos q => absurd q (hb op vs pos)⟩
/-- nothing of this kind raises -/
theorem x_no {e : Expr} {c : E} (h : ∀ ρ μ, evx P.T cal mak c ρ μ = none) : SndX P cal mak Wx X e c :=
  ⟨⟨fun pins s σ H Q I ⟨W, ρ, μ, x, μ', w, en, ee, k⟩ => by rw [h] at ee; cases ee⟩, ⟨fun pins s σ H Q I ⟨W, ρ, μ, x, μ', w, en, ee, k⟩ => by rw [h] at ee; cases ee⟩, fun _ _ _ _ => ⟨fun wh pins s σ H Q I ⟨W, ρ, μ, x, μ', w, en, ee, k⟩ => by rw [h] at ee; cases ee⟩⟩
theorem xO_no {e : Expr} {c : O} (h : ∀ ρ μ, evxO P.T cal mak c ρ μ = none) : PE X e (tXO P cal mak Wx c) := ⟨fun pins s σ H Q I ⟨W, ρ, μ, x, μ', w, en, ee, k⟩ => by rw [h] at ee; cases ee⟩
theorem x_nil : PA X [] (tXA P cal mak Wx .nil) := ⟨fun pos pins s σ H Q I ⟨W, ρ, μ, x, μ', w, en, ee, k⟩ => by unfold evxs at ee; cases ee⟩
theorem x_args {e : Expr} {es : List Expr} {c : E} {cs : Es} (hs : starB e = true) (he : PE X e (tE P cal mak c)) (hx : PE X e (tXE P cal mak Wx c)) (hes : PA X es (tXA P cal mak Wx cs)) : PA X (e :: es) (tXA P cal mak Wx (.cons c cs)) := by
  refine paI (pa_cons (pe_or he hx) hes (star_cons hs)) fun σ H Q ⟨W, ρ, μ, x, μ', w, en, ee, k⟩ => ?_
  unfold evxs at ee
  split at ee
  · rename_i y e1
    exact .inl ⟨W, ρ, μ, y.1, y.2, w, en, e1, fun v1 W1 H1 x1 w1 r1 => ⟨W1, ρ, y.2, x, μ', w1, en.ext x1 w, ee, k.bk x1 w1⟩⟩
  · exact .inr ⟨W, ρ, μ, x, μ', w, en, ee, k⟩
theorem x_R {e : Expr} {c : E} (h : PE X e (tXE P cal mak Wx c)) : PE X e (tXR P cal mak Wx (.e c)) := peI h fun σ H Q ⟨W, ρ, μ, x, μ', w, en, ee, k⟩ => by
  unfold evxR at ee
  exact ⟨W, ρ, μ, x, μ', w, en, ee, k⟩
theorem x_own {e : Expr} {i : Nat} : PE X e (tXR P cal mak Wx (.own i)) := ⟨fun pins s σ H Q I ⟨W, ρ, μ, x, μ', w, en, ee, k⟩ => by unfold evxR at ee; cases ee⟩
/-- two, one behind the other -/
theorem x_two {f : R2} {e e2 ee : Expr} {a b : R} {t : TE → TE → TE} (h : PE X ee (t (fun σ H Q => tR P cal mak a σ H Q ∨ tXR P cal mak Wx a σ H Q) (tXR P cal mak Wx b))) (ht : ∀ {ta tb : TE} {σ H Q}, (ta σ H fun v H1 => ∀ Q', tb σ H1 Q') → t ta tb σ H Q)
    {c : E} (hc : ∀ ρ μ r, evx P.T cal mak c ρ μ = some r → (∃ y, evR P.T cal mak a ρ μ = some y ∧ evxR P.T cal mak b ρ y.2 = some r) ∨ evxR P.T cal mak a ρ μ = some r) : PE X ee (tXE P cal mak Wx c) := by
  refine peI h fun σ H Q ⟨W, ρ, μ, x, μ', w, en, ee, k⟩ => ht ?_
  rcases hc ρ μ _ ee with ⟨y, e1, e2⟩ | e1
  · exact .inl ⟨W, ρ, μ, y.1, y.2, w, en, e1, fun v1 W1 H1 x1 w1 r1 _ Q' => ⟨W1, ρ, y.2, x, μ', w1, en.ext x1 w, e2, k.bk x1 w1⟩⟩
  · exact .inr ⟨W, ρ, μ, x, μ', w, en, e1, k⟩
theorem passX (tk : L2N.Takes X Wx) : ∀ σ, PassesAt (L2N.CX X.prog X.w) X σ (WE Wx σ) := fun σ => L2N.passAt tk σ
theorem x_callT (g : GX P n cal mak G X) (tk : L2N.Takes X Wx) {f : Nat} {x : Str} {es : List Expr} {cs : Es} {p pos : Pos} (h : chkCall G f x = true) (hs : es.all starB = true) (hnil : es = [] → cs = .nil) (ha : PA X es (tA' P cal mak cs)) (hx : PA X es (tXA P cal mak Wx cs)) :
    PE X (.Call (.Name x p) es [] pos) (fun σ H Q => ∃ (W : Wo) (ρ : Rho) (μ : Sto) (x : D) (μ' : Sto), Wd P W H μ ∧ En P W H σ ρ ∧ (match evs P.T cal mak cs ρ μ with | some x => mak (XOFF + f) x.1 x.2 | none => evxs P.T cal mak cs ρ μ) = some (x, μ') ∧ PostX P W H x μ' (WE Wx σ)) := by
  obtain ⟨F, fd0, hF, _, _, gl, hm, hk, hd⟩ := call_of g h
  have fin : ∀ (es : List Expr) (hs : es.all starB = true) (σ : L2.St) (H : Hp) (Q : VK) (W : Wo) (ρ : Rho) (μ : Sto) (x : D) (μ' : Sto), Wd P W H μ → En P W H σ ρ → (match evs P.T cal mak cs ρ μ with | some x => mak (XOFF + f) x.1 x.2 | none => evxs P.T cal mak cs ρ μ) = some (x, μ') → PostX P W H x μ' (WE Wx σ) →
      (tA' P cal mak cs σ H fun vs H1 => spX P F.ps.length mak f vs H1 Q (WE Wx σ)) ∨ tXA P cal mak Wx cs σ H fun vs H1 => spX P F.ps.length mak f vs H1 Q (WE Wx σ) := fun es hs σ H Q W ρ μ x μ' w en ee k => by
    split at ee
    · rename_i y e1
      exact .inl ⟨W, ρ, μ, y.1, y.2, w, en, e1, fun vs W1 H1 x1 w1 r1 => ⟨W1, y.2, y.1, x, μ', by rw [r1.len]; exact (g.xmak f F _ _ _ hF ee).1, w1, r1, ee, k.bk x1 w1⟩⟩
    · exact .inr ⟨W, ρ, μ, x, μ', w, en, ee, k⟩
  by_cases hi : F.ini = false
  · obtain ⟨fd, F1, F2⟩ := g.hcalx f F hF hi
    cases es with
    | nil =>
      cases hnil rfl
      refine peI (pe_fnX0 F1 g.gd (room_n g) gl hm hk F2 (passX tk) hd) fun σ H Q ⟨W, ρ, μ, x, μ', w, en, ee, k⟩ => ?_
      unfold evs at ee
      exact ⟨W, μ, [], x, μ', (g.xmak f F _ _ _ hF ee).1, w, .nil, ee, k⟩
    | cons e es =>
      rw [List.all_cons, Bool.and_eq_true] at hs
      exact peI (pe_fnX F1 g.gd (room_n g) gl hm hk F2 (passX tk) (pa_or ha hx) hd (star_cons hs.1) (star_any hs.2)) fun σ H Q ⟨W, ρ, μ, x, μ', w, en, ee, k⟩ => fin (e :: es) (by rw [List.all_cons, Bool.and_eq_true]; exact hs) σ H Q W ρ μ x μ' w en ee k
  · unfold chkCall at h
    rw [g.T, hF] at h
    have := (ba (ba h).1).2
    exact absurd (by simpa using this) hi
theorem x_make (g : GX P n cal mak G X) (tk : L2N.Takes X Wx) {c : Nat} {kk : Cl} {F : Fn} {x : Str} {es : List Expr} {cs : Es} {p pos : Pos} (h1 : P.T.cls[c]? = some kk) (h2 : kk.mu = false) (h3 : P.T.fns[kk.init]? = some F) (h4 : kk.name = x) (gl : Gl X x) (hd : (x == ("__debug__" : Str)) = false)
    (hs : es.all starB = true) (hnil : es = [] → cs = .nil) (ha : PA X es (tA' P cal mak cs)) (hx : PA X es (tXA P cal mak Wx cs)) : PE X (.Call (.Name x p) es [] pos) (tXE P cal mak Wx (.make c cs)) := by
  obtain ⟨fd, F1, F2⟩ := g.hmakx c kk F h1 h2 h3
  have hm := g.Y.cg c kk h1
  rw [h4] at hm
  have M : Mk X.K (P.ca c) (P.fa kk.init) := g.K ▸ g.Y.mkr c kk h1 h2
  have fin : ∀ {H : Hp} {Q : VK} {E : XK} {W : Wo} {μ : Sto} {ds : List D} {e : D} {μ' : Sto} {vs : List V}, Wd P W H μ → RepL P W H vs ds → mak (2 * XOFF + c) ds μ = some (e, μ') → PostX P W H e μ' E →
      ∀ y dx, H y = none → H dx = none → dx ≠ y → spMX P F.ps.length mak c (.ref y :: vs) (upd (upd H dx (.own y)) y (.ins (P.ca c) dx [])) (fun v H2 => v = .non ∧ Q (.ref y) H2) E := fun {H Q E W μ ds d μ' vs} w r e k y dx hy hdx ne => by
    refine ⟨W, μ, ds, d, μ', y, dx, vs, H, rfl, ?_, rfl, hy, hdx, ne, w, r, e, k⟩
    rw [List.length_cons, r.len]
    exact g.xmakC c kk F ds μ _ h1 h3 e
  cases es with
  | nil =>
    cases hnil rfl
    refine peI (pe_mkX0 M F1 g.gd g.room gl hm F2 (passX tk) hd) fun σ H Q ⟨W, ρ, μ, d, μ', w, en, ee, k⟩ => ?_
    unfold evx evs at ee
    exact fin w .nil ee k
  | cons e es =>
    rw [List.all_cons, Bool.and_eq_true] at hs
    refine peI (pe_mkX M F1 g.gd g.room gl hm F2 (passX tk) (pa_or ha hx) hd (star_cons hs.1) (star_any hs.2)) fun σ H Q ⟨W, ρ, μ, d, μ', w, en, ee, k⟩ => ?_
    unfold evx at ee
    split at ee
    · rename_i y e1
      exact .inl ⟨W, ρ, μ, y.1, y.2, w, en, e1, fun vs W1 H1 x1 w1 r1 => fin w1 r1 ee (k.bk x1 w1)⟩
    · exact .inr ⟨W, ρ, μ, d, μ', w, en, ee, k⟩
theorem x_mkM (g : GX P n cal mak G X) (tk : L2N.Takes X Wx) {c f : Nat} {kk : Cl} {F : Fn} {x : Str} {es : List Expr} {cs : Es} {p pos : Pos} (hq : (c, f) ∈ P.T.mkm) (h1 : P.T.cls[c]? = some kk) (h3 : P.T.fns[f]? = some F) (h2 : F.ini = false) (h4 : kk.name = x) (gl : Gl X x) (hd : (x == ("__debug__" : Str)) = false)
    (hs : es.all starB = true) (hnil : es = [] → cs = .nil) (ha : PA X es (tA' P cal mak cs)) (hx : PA X es (tXA P cal mak Wx cs)) : PE X (.Call (.Name x p) es [] pos) (tXE P cal mak Wx (.mkM c f cs)) := by
  obtain ⟨fd, F1, F2⟩ := g.hcalx f F h3 h2
  have hm := g.Y.cg c kk h1
  rw [h4] at hm
  have M : Mk X.K (P.ca c) (P.fa f) := g.K ▸ g.Y.mkm c f kk hq h1
  have fin : ∀ {H : Hp} {Q : VK} {E : XK} {W : Wo} {μ : Sto} {ds : List D} {e : D} {μ' : Sto} {vs : List V}, Wd P W H μ → RepL P W H vs ds → mak (XOFF + f) (.cell μ.length :: ds) (μ ++ [.obj c []]) = some (e, μ') → PostX P W H e μ' E →
      ∀ y dx, H y = none → H dx = none → dx ≠ y → spX P F.ps.length mak f (.ref y :: vs) (upd (upd H dx (.own y)) y (.ins (P.ca c) dx [])) (fun v H2 => v = .non ∧ Q (.ref y) H2) E := fun {H Q E W μ ds d μ' vs} w rl e k y dx hy hdx ne => by
    obtain ⟨x1, w1⟩ := addO (o := .own y) w hdx
    have hy1 : (upd H dx (.own y)) y = none := by rw [upd_ne (Ne.symm ne)]; exact hy
    obtain ⟨x2, w2⟩ := addO (o := .ins (P.ca c) dx []) w1 hy1
    have own : Own P W (upd (upd H dx (.own y)) y (.ins (P.ca c) dx [])) y (.obj c []) := ⟨.obj (vs := []) (by rw [h1]; rfl) (by rw [upd_same, List.zip_nil_right]) (Nat.zero_le _) .nil, (w.notp hy).1, (w.notp hy).2⟩
    obtain ⟨w3, r3⟩ := own.box w2
    have x3 : Ext W H (W.addC y) (upd (upd H dx (.own y)) y (.ins (P.ca c) dx [])) := (x1.trans x2 w w1).addC hy
    refine ⟨W.addC y, μ ++ [.obj c []], .cell μ.length :: ds, d, μ', ?_, w3, .cons r3 (rl.ext x3 w), e, k.bk x3 w3⟩
    rw [List.length_cons, rl.len]
    have := (g.xmak f F _ _ _ h3 e).1
    rw [List.length_cons] at this
    exact this
  cases es with
  | nil =>
    cases hnil rfl
    refine peI (pe_mkX0 M F1 g.gd g.room gl hm F2 (passX tk) hd) fun σ H Q ⟨W, ρ, μ, d, μ', w, en, ee, k⟩ => ?_
    unfold evx evs at ee
    exact fin w .nil ee k
  | cons e es =>
    rw [List.all_cons, Bool.and_eq_true] at hs
    refine peI (pe_mkX M F1 g.gd g.room gl hm F2 (passX tk) (pa_or ha hx) hd (star_cons hs.1) (star_any hs.2)) fun σ H Q ⟨W, ρ, μ, d, μ', w, en, ee, k⟩ => ?_
    unfold evx at ee
    split at ee
    · rename_i y e1
      exact .inl ⟨W, ρ, μ, y.1, y.2, w, en, e1, fun vs W1 H1 x1 w1 r1 => fin w1 r1 ee (k.bk x1 w1)⟩
    · exact .inr ⟨W, ρ, μ, d, μ', w, en, ee, k⟩
theorem x_meth (g : GX P n cal mak G X) (tk : L2N.Takes X Wx) {m : Nat} {o : E} {cs : Es} {so : Expr} {xs : List Expr} {nm : Str} {ap cp : Pos} (h1 : G.T.names[m]? = some nm) (hp : plnB so = true) (hs : xs.all starB = true) (hn : xs.length < 30) (hl : (ap.endLine == cp.line) = true)
    (ho : PE X so (tE P cal mak o)) (hox : PE X so (tXE P cal mak Wx o)) (ha : PA X xs (tA' P cal mak cs)) (hx : PA X xs (tXA P cal mak Wx cs)) (hnil : xs = [] → cs = .nil) : PE X (.Call (.Attribute so nm ap) xs [] cp) (tXE P cal mak Wx (.meth m o cs)) := by
  rw [g.T] at h1
  have hnm : P.nm m = nm := by unfold Pl.nm; rw [List.getD_eq_getElem?_getD, h1]; rfl
  have rd : ∀ {t : TA}, (∀ σ H R, (tA' P cal mak cs σ H R ∨ tXA P cal mak Wx cs σ H R) → t σ H R) → ∀ σ H Q, tXE P cal mak Wx (.meth m o cs) σ H Q → tMX X (L2N.CX X.prog X.w) n nm (fun σ H Q => tE P cal mak o σ H Q ∨ tXE P cal mak Wx o σ H Q) (WE Wx) t σ H Q := fun {t} ht σ H Q ⟨W, ρ, μ, x, μ', w, en, ee, k⟩ => by
    unfold evx at ee
    split at ee
    · rename_i y e1
      split at ee
      · rename_i c ds hc0
        obtain ⟨f, e2, ee⟩ := bind_some' ee
        refine .inl ⟨W, ρ, μ, y.1, y.2, w, en, e1, fun v W1 H1 x1 w1 r1 => ?_⟩
        rw [hc0] at r1
        have r1' := r1
        cases r1 with
        | @obj a _ dx vs _ hc hh hF z rr =>
        obtain ⟨q1, q2, F, q4, q5⟩ := g.Y.meth c m f e2 hc
        obtain ⟨kc, hkc⟩ := Option.isSome_iff_exists.mp hc
        obtain ⟨fd, F1, F2⟩ := g.hcalx f F q4 q5
        refine ⟨a, P.ca c, dx, _, P.fa f, fd, F.ps, _, rfl, hh, hnm ▸ zip_lk q2, g.K ▸ g.Y.cl c kc hkc, g.K ▸ hnm ▸ q1, F1, F2, ?_⟩
        refine ht _ _ _ ?_
        split at ee
        · rename_i y2 e3
          refine .inl ⟨W1, ρ, y.2, y2.1, y2.2, w1, en.ext x1 w, e3, fun us W2 H2 x2 w2 r2 => ⟨W2, y2.2, _, x, μ', ?_, w2, .cons (r1'.ext x2 w1) r2, ee, k.bk (x1.tr x2 w1) w2⟩⟩
          have := (g.xmak f F _ _ _ q4 ee).1
          rw [List.length_cons, r2.len]
          rw [List.length_cons] at this
          exact this
        · exact .inr ⟨W1, ρ, y.2, x, μ', w1, en.ext x1 w, ee, k.bk x1 w1⟩
      · cases ee
    · exact .inr ⟨W, ρ, μ, x, μ', w, en, ee, k⟩
  cases xs with
  | nil =>
    cases hnil rfl
    exact peI (pe_methX0 (passX tk) hp hl (pe_or ho hox) g.gd (room_n g)) (rd fun σ H R h => by
      rcases h with ⟨W, ρ, μ, d, μ', w, en, ee, k⟩ | ⟨W, ρ, μ, x, μ', w, en, ee, k⟩
      · unfold evs at ee; cases ee; exact k [] W H .refl w .nil
      · unfold evxs at ee; cases ee)
  | cons e es => exact peI (pe_methX (passX tk) hp hs hn hl (pe_or ho hox) g.gd (room_n g) (pa_or ha hx)) (rd fun _ _ _ h => h)
theorem x_methC (g : GX P n cal mak G X) (tk : L2N.Takes X Wx) {m : Nat} {o : E} {cs : Es} {so : Expr} {xs : List Expr} {nm : Str} {ap cp : Pos} (h1 : G.T.names[m]? = some nm) (hp : plnB so = true) (hs : xs.all starB = true) (hn : xs.length < 30) (hl : (ap.endLine == cp.line) = true)
    (ho : PE X so (tE P cal mak o)) (hox : PE X so (tXE P cal mak Wx o)) (ha : PA X xs (tA' P cal mak cs)) (hx : PA X xs (tXA P cal mak Wx cs)) (hnil : xs = [] → cs = .nil) : PE X (.Call (.Attribute so nm ap) xs [] cp) (tXE P cal mak Wx (.methC m o cs)) := by
  rw [g.T] at h1
  have hnm : P.nm m = nm := by unfold Pl.nm; rw [List.getD_eq_getElem?_getD, h1]; rfl
  have rd : ∀ {t : TA}, (∀ σ H R, (tA' P cal mak cs σ H R ∨ tXA P cal mak Wx cs σ H R) → t σ H R) → ∀ σ H Q, tXE P cal mak Wx (.methC m o cs) σ H Q → tMX X (L2N.CX X.prog X.w) n nm (fun σ H Q => tE P cal mak o σ H Q ∨ tXE P cal mak Wx o σ H Q) (WE Wx) t σ H Q := fun {t} ht σ H Q ⟨W, ρ, μ, x, μ', w, en, ee, k⟩ => by
    unfold evx at ee
    split at ee
    · rename_i y e1
      split at ee
      · rename_i cn hc0
        split at ee
        · rename_i c ds hcn
          obtain ⟨f, e2, ee⟩ := bind_some' ee
          refine .inl ⟨W, ρ, μ, y.1, y.2, w, en, e1, fun v W1 H1 x1 w1 r1 => ?_⟩
          rw [hc0] at r1
          have r1' := r1
          cases r1 with
          | @cell _ a hm =>
          cases w1.cell cn a _ hm hcn with
          | @obj _ dx vs _ hc hh z rr =>
          obtain ⟨q1, q2, F, q4, q5⟩ := g.Y.meth c m f e2 hc
          obtain ⟨kc, hkc⟩ := Option.isSome_iff_exists.mp hc
          obtain ⟨fd, F1, F2⟩ := g.hcalx f F q4 q5
          refine ⟨a, P.ca c, dx, _, P.fa f, fd, F.ps, _, rfl, hh, hnm ▸ zip_lk q2, g.K ▸ g.Y.cl c kc hkc, g.K ▸ hnm ▸ q1, F1, F2, ?_⟩
          refine ht _ _ _ ?_
          split at ee
          · rename_i y2 e3
            refine .inl ⟨W1, ρ, y.2, y2.1, y2.2, w1, en.ext x1 w, e3, fun us W2 H2 x2 w2 r2 => ⟨W2, y2.2, _, x, μ', ?_, w2, .cons (r1'.ext x2 w1) r2, ee, k.bk (x1.tr x2 w1) w2⟩⟩
            have := (g.xmak f F _ _ _ q4 ee).1
            rw [List.length_cons, r2.len]
            rw [List.length_cons] at this
            exact this
          · exact .inr ⟨W1, ρ, y.2, x, μ', w1, en.ext x1 w, ee, k.bk x1 w1⟩
        · cases ee
      · cases ee
    · exact .inr ⟨W, ρ, μ, x, μ', w, en, ee, k⟩
  cases xs with
  | nil =>
    cases hnil rfl
    exact peI (pe_methX0 (passX tk) hp hl (pe_or ho hox) g.gd (room_n g)) (rd fun σ H R h => by
      rcases h with ⟨W, ρ, μ, d, μ', w, en, ee, k⟩ | ⟨W, ρ, μ, x, μ', w, en, ee, k⟩
      · unfold evs at ee; cases ee; exact k [] W H .refl w .nil
      · unfold evxs at ee; cases ee)
  | cons e es => exact peI (pe_methX (passX tk) hp hs hn hl (pe_or ho hox) g.gd (room_n g) (pa_or ha hx)) (rd fun _ _ _ h => h)
theorem x_and {a b : Expr} {r : List Expr} {ca cb : E} {pos : Pos} (ha : Snd P cal mak X a ca) (xa : SndX P cal mak Wx X a ca) (pe : PE X (.BoolOp .And (b :: r) pos) (tXE P cal mak Wx cb)) (pw : PW X (.BoolOp .And (b :: r) pos) (tXT P cal mak Wx cb)) : SndX P cal mak Wx X (.BoolOp .And (a :: b :: r) pos) (.and ca cb) := by
  have hw : PW X (.BoolOp .And (a :: b :: r) pos) (tXT P cal mak Wx (.and ca cb)) := by
    refine pwI (pw_and (pt_or' ha.pt xa.pt) pw) fun σ H Q ⟨W, ρ, μ, x, μ', w, en, ee, k⟩ => ?_
    unfold evx at ee
    split at ee
    · rename_i m e1
      exact .inl ⟨W, ρ, μ, true, m, w, en, e1, fun W1 H1 x1 w1 => iteT ⟨W1, ρ, m, x, μ', w1, en.ext x1 w, ee, k.bk x1 w1⟩⟩
    · cases ee
    · exact .inr ⟨W, ρ, μ, x, μ', w, en, ee, k⟩
  refine ⟨peI (pe_and (pe_or ha.pe xa.pe) pe) fun σ H Q ⟨W, ρ, μ, x, μ', w, en, ee, k⟩ => ?_, hw.pt, fun op vs pos q => by cases q; exact hw⟩
  unfold evx at ee
  split at ee
  · rename_i m e1
    refine .inl ⟨W, ρ, μ, .bl true, m, w, en, e1, fun v1 W1 H1 x1 w1 r1 => ?_⟩
    cases r1
    exact ⟨true, rfl, iteT ⟨W1, ρ, m, x, μ', w1, en.ext x1 w, ee, k.bk x1 w1⟩⟩
  · cases ee
  · exact .inr ⟨W, ρ, μ, x, μ', w, en, ee, k⟩
theorem x_or {a b : Expr} {r : List Expr} {ca cb : E} {pos : Pos} (ha : Snd P cal mak X a ca) (xa : SndX P cal mak Wx X a ca) (pe : PE X (.BoolOp .Or (b :: r) pos) (tXE P cal mak Wx cb)) (pw : PW X (.BoolOp .Or (b :: r) pos) (tXT P cal mak Wx cb)) : SndX P cal mak Wx X (.BoolOp .Or (a :: b :: r) pos) (.or ca cb) := by
  have hw : PW X (.BoolOp .Or (a :: b :: r) pos) (tXT P cal mak Wx (.or ca cb)) := by
    refine pwI (pw_or (pt_or' ha.pt xa.pt) pw) fun σ H Q ⟨W, ρ, μ, x, μ', w, en, ee, k⟩ => ?_
    unfold evx at ee
    split at ee
    · rename_i m e1
      exact .inl ⟨W, ρ, μ, false, m, w, en, e1, fun W1 H1 x1 w1 => iteF ⟨W1, ρ, m, x, μ', w1, en.ext x1 w, ee, k.bk x1 w1⟩⟩
    · cases ee
    · exact .inr ⟨W, ρ, μ, x, μ', w, en, ee, k⟩
  refine ⟨peI (L2.pe_or (pe_or ha.pe xa.pe) pe) fun σ H Q ⟨W, ρ, μ, x, μ', w, en, ee, k⟩ => ?_, hw.pt, fun op vs pos q => by cases q; exact hw⟩
  unfold evx at ee
  split at ee
  · rename_i m e1
    refine .inl ⟨W, ρ, μ, .bl false, m, w, en, e1, fun v1 W1 H1 x1 w1 r1 => ?_⟩
    cases r1
    exact ⟨false, rfl, iteF ⟨W1, ρ, m, x, μ', w1, en.ext x1 w, ee, k.bk x1 w1⟩⟩
  · cases ee
  · exact .inr ⟨W, ρ, μ, x, μ', w, en, ee, k⟩
theorem x_bin (g : GX P n cal mak G X) {op : Operator} {a b : Expr} {ca cb : E} {pos : Pos} (ha : PE X a (tE P cal mak ca)) (xa : PE X a (tXE P cal mak Wx ca)) (xb : PE X b (tXE P cal mak Wx cb)) : PE X (.BinOp a op b pos) (tXE P cal mak Wx (.bin op ca cb)) := by
  refine peI (pe_op (op_bin (P := P) g.K op) (pe_or ha xa) xb) fun σ H Q ⟨W, ρ, μ, x, μ', w, en, ee, k⟩ => ?_
  unfold evx at ee
  split at ee
  · rename_i y e1
    exact .inl ⟨W, ρ, μ, y.1, y.2, w, en, e1, fun v1 W1 H1 x1 w1 r1 => ⟨W1, ρ, y.2, x, μ', w1, en.ext x1 w, ee, k.bk x1 w1⟩⟩
  · exact .inr ⟨W, ρ, μ, x, μ', w, en, ee, k⟩
theorem x_cmp (g : GX P n cal mak G X) {op : CmpOp} {a b : Expr} {ca cb : R} {pos : Pos} (hp : mrkB b = true) (ha : PE X a (tR P cal mak ca)) (xa : PE X a (tXR P cal mak Wx ca)) (xb : PE X b (tXR P cal mak Wx cb)) : SndX P cal mak Wx X (.Compare a [op] [b] pos) (.cmp op ca cb) := by
  have ho := op_cmp (P := P) (X := X) g.K (hu_of' g.room) op
  have main : ∀ {σ H Q}, tXE P cal mak Wx (.cmp op ca cb) σ H Q → ∀ {R : V → Hp → VK}, (fun σ H Q => tR P cal mak ca σ H Q ∨ tXR P cal mak Wx ca σ H Q) σ H fun x H1 => tXR P cal mak Wx cb σ H1 (R x H1) := fun {σ H Q} ⟨W, ρ, μ, x, μ', w, en, ee, k⟩ {R} => by
    unfold evx at ee
    split at ee
    · rename_i y e1
      exact .inl ⟨W, ρ, μ, y.1, y.2, w, en, e1, fun v1 W1 H1 x1 w1 r1 _ => ⟨W1, ρ, y.2, x, μ', w1, en.ext x1 w, ee, k.bk x1 w1⟩⟩
    · exact .inr ⟨W, ρ, μ, x, μ', w, en, ee, k⟩
  exact ⟨peI (pe_cmpR ho (pe_or ha xa) xb (mark_ok hp)) fun σ H Q h => main h, ptI (pt_cmpR ho (pe_or ha xa) xb (mark_ok hp)) fun σ H Q h => main (Q := fun _ _ => True) h, fun _ _ _ q => nomatch q⟩
theorem x_sub (g : GX P n cal mak G X) {a b : Expr} {ca : R} {cb : E} {pos : Pos} (hp : plnB b = true) (ha : PE X a (tR P cal mak ca)) (xa : PE X a (tXR P cal mak Wx ca)) (xb : PE X b (tXE P cal mak Wx cb)) : PE X (.Subscript a b pos) (tXE P cal mak Wx (.sub ca cb)) := by
  refine peI (pe_ix (ix_sub (P := P) g.K) (pe_or ha xa) xb (plain_ix hp)) fun σ H Q ⟨W, ρ, μ, x, μ', w, en, ee, k⟩ => ?_
  unfold evx at ee
  split at ee
  · rename_i y e1
    exact .inl ⟨W, ρ, μ, y.1, y.2, w, en, e1, fun v1 W1 H1 x1 w1 r1 _ => ⟨W1, ρ, y.2, x, μ', w1, en.ext x1 w, ee, k.bk x1 w1⟩⟩
  · exact .inr ⟨W, ρ, μ, x, μ', w, en, ee, k⟩
theorem x_bi (g : GX P n cal mak G X) {b : Bi} {x : Str} {y : Expr} {cy : R} {p pos : Pos} (h1 : b.one = true) (h2 : b.nm = x) (gl : Gl X x) (hs : starB y = true) (hy : PE X y (tXR P cal mak Wx cy)) : PE X (.Call (.Name x p) [y] [] pos) (tXE P cal mak Wx (.bi b cy)) := by
  subst h2
  obtain ⟨m1, m2, m3, m4⟩ := blt_bi b h1
  have hm := g.fr _ m1
  have rd : ∀ σ H Q, tXE P cal mak Wx (.bi b cy) σ H Q → tCB (rB1 P b) (tCons (tXR P cal mak Wx cy) tNil) σ H Q := fun σ H Q ⟨W, ρ, μ, d, μ', w, en, ee, k⟩ => by
    unfold evx at ee
    exact ⟨W, ρ, μ, d, μ', w, en, ee, k⟩
  rcases m4 with ⟨id, q1, q2⟩ | ⟨id, q1, q2⟩
  · exact peI (pe_callB (call_bi g.K g.calm q1) gl hm q2 (pa_cons hy pa_nil (star_cons hs)) m2 m3 (star_cons hs) rfl) rd
  · exact peI (pe_callTy (call_bi g.K g.calm q1) gl hm q2 (pa_cons hy pa_nil (star_cons hs)) m2 m3 (star_cons hs) rfl) rd
theorem x_str1 (g : GX P n cal mak G X) {x : Str} {y : Expr} {a : E} {p pos : Pos} (hx : x = "str") (gl : Gl X x) (hs : starB y = true) (hy : PE X y (tXE P cal mak Wx a)) : PE X (.Call (.Name x p) [y] [] pos) (tXE P cal mak Wx (.str1 a)) := by
  subst hx
  refine peI (pe_callTy (T := "str") call_str_int gl (g.fr _ (by decide +kernel)) (by decide +kernel) (pa_cons hy pa_nil (star_cons hs)) (by decide +kernel) (by decide +kernel) (star_cons hs) rfl) fun σ H Q ⟨W, ρ, μ, d, μ', w, en, ee, k⟩ => ?_
  unfold evx at ee
  exact ⟨W, ρ, μ, d, μ', w, en, ee, k⟩
theorem x_same {e : Expr} {c c' : E} (h : PE X e (tXE P cal mak Wx c)) (hc : ∀ ρ μ, evx P.T cal mak c' ρ μ = evx P.T cal mak c ρ μ) : PE X e (tXE P cal mak Wx c') := peI h fun σ H Q ⟨W, ρ, μ, d, μ', w, en, ee, k⟩ => ⟨W, ρ, μ, d, μ', w, en, by rw [← hc]; exact ee, k⟩
theorem x_ofO {e : Expr} {o : O} {c' : E} (h : PE X e (tXO P cal mak Wx o)) (hc : ∀ ρ μ, evx P.T cal mak c' ρ μ = evxO P.T cal mak o ρ μ) : PE X e (tXE P cal mak Wx c') := peI h fun σ H Q ⟨W, ρ, μ, d, μ', w, en, ee, k⟩ => ⟨W, ρ, μ, d, μ', w, en, by rw [← hc]; exact ee, k⟩
end
end EV

set_option Elab.async false
set_option linter.all false
set_option maxRecDepth 100000
set_option maxHeartbeats 4000000
namespace EV
open PySem PySem.Spec PyProof.Rows L2
section
variable {P : Pl} {n : Nat} {cal : Cal} {mak : Mak} {Wx : WX} {G : Ga} {X : Cx}
mutual
theorem sndXE (tk : L2N.Takes X Wx) : ∀ (c : E) {e : Expr}, GX P n cal mak G X → chkE G c e = true → SndX P cal mak Wx X e c
  | .bin op a b, e, g, h => by
    unfold chkE at h
    cases e <;> first | (cases h; done) | skip
    obtain ⟨h1, h⟩ := ba h
    obtain ⟨h2, h3⟩ := ba h
    have e1 := of_decide_eq_true h1
    subst e1
    exact sndX_plain (x_bin g (sndE a g h2).pe (sndXE tk a g h2).pe (sndXE tk b g h3).pe) (fun _ => rfl) (fun _ _ _ q => nomatch q)
  | .neg a, e, g, h => by
    unfold chkE at h
    cases e <;> first | (cases h; done) | skip
    rename_i op x pos
    cases op <;> first | (cases h; done) | skip
    refine sndX_plain (peI (pe_un un_neg (sndXE tk a g h).pe) fun σ H Q ⟨W, ρ, μ, d, μ', w, en, ee, k⟩ => ?_) (fun _ => rfl) (fun _ _ _ q => nomatch q)
    unfold evx at ee
    exact ⟨W, ρ, μ, d, μ', w, en, ee, k⟩
  | .not a, e, g, h => by
    unfold chkE at h
    cases e <;> first | (cases h; done) | skip
    rename_i op x pos
    cases op <;> first | (cases h; done) | skip
    have q := sndXE tk a g h
    refine ⟨peI (pe_not q.pe) fun σ H Q ⟨W, ρ, μ, d, μ', w, en, ee, k⟩ => ?_, ptI (pt_not q.pt) fun σ H Q ⟨W, ρ, μ, d, μ', w, en, ee, k⟩ => ?_, fun _ _ _ q => nomatch q⟩
    all_goals
      unfold evx at ee
      exact ⟨W, ρ, μ, d, μ', w, en, ee, k⟩
  | .cmp op a b, e, g, h => by
    unfold chkE at h
    split at h
    · obtain ⟨h1, h⟩ := ba h
      obtain ⟨h2, h⟩ := ba h
      obtain ⟨h3, h4⟩ := ba h
      have e1 := of_decide_eq_true h1
      subst e1
      exact x_cmp g h2 (sndR a g h3) (sndXR tk a g h3) (sndXR tk b g h4)
    · cases h
  | .and a b, e, g, h => by
    unfold chkE at h
    split at h
    · obtain ⟨h1, h2⟩ := ba h
      have hb := sndXE tk b g h2
      exact x_and (sndE a g h1) (sndXE tk a g h1) (pe_one hb.pe) (pw_and1 hb.pt)
    · obtain ⟨h1, h2⟩ := ba h
      have hb := sndXE tk b g h2
      exact x_and (sndE a g h1) (sndXE tk a g h1) hb.pe (hb.pw _ _ _ rfl)
    · cases h
  | .or a b, e, g, h => by
    unfold chkE at h
    split at h
    · obtain ⟨h1, h2⟩ := ba h
      have hb := sndXE tk b g h2
      exact x_or (sndE a g h1) (sndXE tk a g h1) (pe_one hb.pe) (pw_or1 hb.pt)
    · obtain ⟨h1, h2⟩ := ba h
      have hb := sndXE tk b g h2
      exact x_or (sndE a g h1) (sndXE tk a g h1) hb.pe (hb.pw _ _ _ rfl)
    · cases h
  | .tup es, e, g, h => by
    unfold chkE at h
    cases e <;> first | (cases h; done) | skip
    obtain ⟨h1, h2⟩ := ba h
    refine sndX_plain (peI (pe_tup (sndXEs tk es g h1)) fun σ H Q ⟨W, ρ, μ, d, μ', w, en, ee, k⟩ => ?_) (fun _ => rfl) (fun _ _ _ q => nomatch q)
    unfold evx at ee
    exact ⟨W, ρ, μ, d, μ', w, en, ee, k⟩
  | .frz o, e, g, h => by
    unfold chkE at h
    exact sndX_plain (x_ofO (sndXO tk o g h) fun ρ μ => by unfold evx; rfl) (sndO_pl o h) (sndO_bo o h)
  | .box o, e, g, h => by
    unfold chkE at h
    exact sndX_plain (x_ofO (sndXO tk o g h) fun ρ μ => by unfold evx; rfl) (sndO_pl o h) (sndO_bo o h)
  | .sub a i, e, g, h => by
    unfold chkE at h
    cases e <;> first | (cases h; done) | skip
    obtain ⟨h1, h⟩ := ba h
    obtain ⟨h2, h3⟩ := ba h
    exact sndX_plain (x_sub g h1 (sndR a g h2) (sndXR tk a g h2) (sndXE tk i g h3).pe) (fun _ => rfl) (fun _ _ _ q => nomatch q)
  | .attr a f, e, g, h => by
    unfold chkE at h
    cases e <;> first | (cases h; done) | skip
    obtain ⟨h1, h⟩ := ba h
    obtain ⟨h2, h3⟩ := ba h
    refine sndX_plain (peI (pe_fld (sndXE tk a g h3).pe (plain_attr h2)) fun σ H Q ⟨W, ρ, μ, d, μ', w, en, ee, k⟩ => ?_) (fun _ => rfl) (fun _ _ _ q => nomatch q)
    unfold evx at ee
    exact ⟨W, ρ, μ, d, μ', w, en, ee, k⟩
  | .call f es, e, g, h => by
    unfold chkE at h
    split at h
    · obtain ⟨h1, h⟩ := ba h
      obtain ⟨h2, h3⟩ := ba h
      refine sndX_plain (peI (x_callT g tk h1 h2 (chkEs_nil h3) (sndEs es g h3) (sndXEs tk es g h3)) fun σ H Q ⟨W, ρ, μ, d, μ', w, en, ee, k⟩ => ?_) (fun _ => rfl) (fun _ _ _ q => nomatch q)
      unfold evx at ee
      exact ⟨W, ρ, μ, d, μ', w, en, ee, k⟩
    · cases h
  | .make c es, e, g, h => by
    unfold chkE at h
    split at h
    · obtain ⟨h1, h⟩ := ba h
      obtain ⟨h2, h⟩ := ba h
      obtain ⟨h3, h⟩ := ba h
      obtain ⟨h4, h5⟩ := ba h
      split at h1
      · rename_i k hk
        obtain ⟨h6, h7⟩ := ba h1
        obtain ⟨h7, h8⟩ := ba h7
        rw [g.T] at hk h8
        have mu : k.mu = false := by simpa using h7
        obtain ⟨F, hF⟩ := Option.isSome_iff_exists.mp h8
        exact sndX_plain (x_make g tk hk mu hF (of_decide_eq_true h6) (g.gl h2) (nmOk_of h3).1 h4 (chkEs_nil h5) (sndEs es g h5) (sndXEs tk es g h5)) (fun _ => rfl) (fun _ _ _ q => nomatch q)
      · cases h1
    · cases h
  | .meth m o es, e, g, h => by
    unfold chkE at h
    split at h
    · rename_i so nm ap xs cp
      obtain ⟨h1, h⟩ := ba h
      obtain ⟨h2, h⟩ := ba h
      obtain ⟨h3, h⟩ := ba h
      obtain ⟨h4, h⟩ := ba h
      obtain ⟨h5, h⟩ := ba h
      obtain ⟨h6, h7⟩ := ba h
      exact sndX_plain (x_meth g tk (of_decide_eq_true h1) h2 h3 (of_decide_eq_true h4) h5 (sndE o g h6).pe (sndXE tk o g h6).pe (sndEs es g h7) (sndXEs tk es g h7) (chkEs_nil h7)) (fun _ => rfl) (fun _ _ _ q => nomatch q)
    · cases h
  | .methC m o es, e, g, h => by
    unfold chkE at h
    split at h
    · rename_i so nm ap xs cp
      obtain ⟨h1, h⟩ := ba h
      obtain ⟨h2, h⟩ := ba h
      obtain ⟨h3, h⟩ := ba h
      obtain ⟨h4, h⟩ := ba h
      obtain ⟨h5, h⟩ := ba h
      obtain ⟨h6, h7⟩ := ba h
      exact sndX_plain (x_methC g tk (of_decide_eq_true h1) h2 h3 (of_decide_eq_true h4) h5 (sndE o g h6).pe (sndXE tk o g h6).pe (sndEs es g h7) (sndXEs tk es g h7) (chkEs_nil h7)) (fun _ => rfl) (fun _ _ _ q => nomatch q)
    · cases h
  | .mkM c f es, e, g, h => by
    unfold chkE at h
    split at h
    · obtain ⟨h2, h⟩ := ba h
      obtain ⟨h3, h⟩ := ba h
      obtain ⟨h4, h⟩ := ba h
      obtain ⟨h5, h⟩ := ba h
      obtain ⟨h6, h⟩ := ba h
      split at h
      · rename_i k F hk hF
        rw [g.T] at hk hF h6
        obtain ⟨h7, h8⟩ := ba h
        exact sndX_plain (x_mkM g tk (by simpa using h6) hk hF (by simpa using h8) (of_decide_eq_true h7) (g.gl h2) (nmOk_of h3).1 h4 (chkEs_nil h5) (sndEs es g h5) (sndXEs tk es g h5)) (fun _ => rfl) (fun _ _ _ q => nomatch q)
      · cases h
    · cases h
  | .str1 a, e, g, h => by
    unfold chkE at h
    split at h
    · obtain ⟨h1, h⟩ := ba h
      obtain ⟨h2, h⟩ := ba h
      obtain ⟨h3, h4⟩ := ba h
      exact sndX_plain (x_str1 g (of_decide_eq_true h1) (g.gl h2) h3 (sndXE tk a g h4).pe) (fun _ => rfl) (fun _ _ _ q => nomatch q)
    · cases h
  | .bi b a, e, g, h => by
    unfold chkE at h
    split at h
    · obtain ⟨h1, h⟩ := ba h
      obtain ⟨h2, h⟩ := ba h
      obtain ⟨h3, h⟩ := ba h
      obtain ⟨h4, h5⟩ := ba h
      exact sndX_plain (x_bi g h1 (of_decide_eq_true h2) (g.gl h3) h4 (sndXR tk a g h5)) (fun _ => rfl) (fun _ _ _ q => nomatch q)
    · cases h
  | .k _, e, g, h => x_no fun ρ μ => by unfold evx; rfl
  | .gl _, e, g, h => x_no fun ρ μ => by unfold evx; rfl
  | .v _, e, g, h => x_no fun ρ μ => by unfold evx; rfl
  | .chn _ _ _ _ _, e, g, h => x_no fun ρ μ => by unfold evx; rfl
  | .join _ _, e, g, h => x_no fun ρ μ => by unfold evx; rfl
  | .lenset _, e, g, h => x_no fun ρ μ => by unfold evx; rfl
  | .maxd _ _, e, g, h => x_no fun ρ μ => by unfold evx; rfl
  | .mind _ _, e, g, h => x_no fun ρ μ => by unfold evx; rfl
  | .idx _ _, e, g, h => x_no fun ρ μ => by unfold evx; rfl
  | .tslc _ _ _, e, g, h => x_no fun ρ μ => by unfold evx; rfl
  | .sslc _ _ _, e, g, h => x_no fun ρ μ => by unfold evx; rfl
  | .fnv _, e, g, h => x_no fun ρ μ => by unfold evx; rfl
  | .callv _ _, e, g, h => x_no fun ρ μ => by unfold evx; rfl
  | .tupl _, e, g, h => x_no fun ρ μ => by unfold evx; rfl
  | .dget _ _, e, g, h => x_no fun ρ μ => by unfold evx; rfl
  | .din _ _ _, e, g, h => x_no fun ρ μ => by unfold evx; rfl
  | .dgd _ _ _, e, g, h => x_no fun ρ μ => by unfold evx; rfl
  | .dne _, e, g, h => x_no fun ρ μ => by unfold evx; rfl
  | .tget _ _, e, g, h => x_no fun ρ μ => by unfold evx; rfl
  | .tin _ _ _, e, g, h => x_no fun ρ μ => by unfold evx; rfl
  | .mxv _, e, g, h => x_no fun ρ μ => by unfold evx; rfl
  | .cnt _ _, e, g, h => x_no fun ρ μ => by unfold evx; rfl
  | .cntS _ _, e, g, h => x_no fun ρ μ => by unfold evx; rfl
  | .b2 _ _ _, e, g, h => x_no fun ρ μ => by unfold evx; rfl
  | .isi _ _, e, g, h => x_no fun ρ μ => by unfold evx; rfl
theorem sndXR (tk : L2N.Takes X Wx) : ∀ (r : R) {e : Expr}, GX P n cal mak G X → chkR G r e = true → PE X e (tXR P cal mak Wx r)
  | .e a, e, g, h => by
    unfold chkR at h
    exact x_R (sndXE tk a g h).pe
  | .own i, e, g, h => x_own
theorem sndXO (tk : L2N.Takes X Wx) : ∀ (o : O) {e : Expr}, GX P n cal mak G X → chkO G o e = true → PE X e (tXO P cal mak Wx o)
  | .lst es, e, g, h => by
    unfold chkO at h
    cases e <;> first | (cases h; done) | skip
    obtain ⟨h1, h2⟩ := ba h
    refine peI (pe_lst (sndXEs tk es g h1)) fun σ H Q ⟨W, ρ, μ, d, μ', w, en, ee, k⟩ => ?_
    unfold evxO at ee
    exact ⟨W, ρ, μ, d, μ', w, en, ee, k⟩
  | .call f es, e, g, h => by
    unfold chkO at h
    split at h
    · obtain ⟨h1, h⟩ := ba h
      obtain ⟨h2, h3⟩ := ba h
      refine peI (x_callT g tk h1 h2 (chkEs_nil h3) (sndEs es g h3) (sndXEs tk es g h3)) fun σ H Q ⟨W, ρ, μ, d, μ', w, en, ee, k⟩ => ?_
      unfold evxO at ee
      exact ⟨W, ρ, μ, d, μ', w, en, ee, k⟩
    · cases h
  | .lc _ _ _ _, e, g, h => xO_no fun ρ μ => by unfold evxO; rfl
  | .cat _ _, e, g, h => xO_no fun ρ μ => by unfold evxO; rfl
  | .slc _ _ _, e, g, h => xO_no fun ρ μ => by unfold evxO; rfl
  | .lst1 _, e, g, h => xO_no fun ρ μ => by unfold evxO; rfl
  | .rev _, e, g, h => xO_no fun ρ μ => by unfold evxO; rfl
  | .repR _ _, e, g, h => xO_no fun ρ μ => by unfold evxO; rfl
  | .rep _ _, e, g, h => xO_no fun ρ μ => by unfold evxO; rfl
  | .split _ _, e, g, h => xO_no fun ρ μ => by unfold evxO; rfl
  | .srt _, e, g, h => xO_no fun ρ μ => by unfold evxO; rfl
  | .srtg _, e, g, h => xO_no fun ρ μ => by unfold evxO; rfl
  | .srtset _, e, g, h => xO_no fun ρ μ => by unfold evxO; rfl
  | .dct0 _, e, g, h => xO_no fun ρ μ => by unfold evxO; rfl
  | .dct1 _ _, e, g, h => xO_no fun ρ μ => by unfold evxO; rfl
  | .srtk _, e, g, h => xO_no fun ρ μ => by unfold evxO; rfl
  | .dctS _ _, e, g, h => xO_no fun ρ μ => by unfold evxO; rfl
  | .dctL _, e, g, h => xO_no fun ρ μ => by unfold evxO; rfl
  | .dcp _, e, g, h => xO_no fun ρ μ => by unfold evxO; rfl
  | .srtsetI _, e, g, h => xO_no fun ρ μ => by unfold evxO; rfl
  | .dctC _ _, e, g, h => xO_no fun ρ μ => by unfold evxO; rfl
theorem sndXEs (tk : L2N.Takes X Wx) : ∀ (es : Es) {xs : List Expr}, GX P n cal mak G X → chkEs G es xs = true → PA X xs (tXA P cal mak Wx es)
  | .nil, xs, g, h => by
    unfold chkEs at h
    cases xs with
    | nil => exact x_nil
    | cons _ _ => cases h
  | .cons c cs, xs, g, h => by
    unfold chkEs at h
    cases xs with
    | nil => cases h
    | cons y ys =>
      obtain ⟨h1, h⟩ := ba h
      obtain ⟨h2, h3⟩ := ba h
      exact x_args h1 (sndE c g h2).pe (sndXE tk c g h2).pe (sndXEs tk cs g h3)
end
end
end EV

set_option Elab.async false
set_option linter.all false
set_option maxRecDepth 100000
set_option maxHeartbeats 2000000
namespace EV
open PySem PySem.Spec PyProof.Rows L2
def notTup : Expr → Bool
  | .Tuple _ _ _ => false
  | _ => true
theorem notTup_st {t v : Expr} {env : PySem.Env} (h : notTup v = true) : swappedStores [t] v env = pure none := by
  cases v <;> first | (cases t <;> rfl) | cases h
def ixB : Expr → Bool
  | .Name _ _ => true
  | .Constant _ _ _ => true
  | .BinOp _ _ _ _ => true
  | .Subscript _ _ _ => true
  | .Attribute _ _ _ => true
  | .Call _ _ _ _ => true
  | _ => false
theorem ix_asg {o i : Expr} {pos : Pos} {X : Cx} {v : Value} (h : ixB i = true) : assign (.Subscript o i pos) X.env v = (do
      let ov ← holding [v] (eval o X.env)
      let iv ← holding [v, ov] (eval i X.env)
      standAt pos
      holding [v, ov, iv] (setItem ov iv v)
      release [v, ov, iv] []) := by
  cases i <;> first | rfl | cases h
mutual
def chkHS (G : Ga) (n : Str) (xi : Nat) : HS → Stmt → Bool
  | .set i e, s => (match s with
    | .Assign [.Name y _] v _ => i != 0 && (i != xi && (decide (G.N[i]? = some y) && (locB G.sc y && (G.w y && (notLc v && chkHE G n e v)))))
    | _ => false)
  | .iff c a b, s => (match s with
    | .If t x y _ => chkHE G n c t && (chkHSs G n xi a x && chkHSs G n xi b y)
    | _ => false)
  | .ret e, s => (match s with
    | .Return (some v) _ => chkHE G n e v
    | _ => false)
def chkHSs (G : Ga) (n : Str) (xi : Nat) : HSs → List Stmt → Bool
  | .nil, xs => (match xs with
    | [] => true
    | _ => false)
  | .cons s b, xs => (match xs with
    | x :: r => chkHS G n xi s x && chkHSs G n xi b r
    | [] => false)
end
/-- an except suite, with a name for the exception, or a bare return of a constant -/
def chkHs (G : Ga) (i : Option Nat) (h : HSs) (xs : List Stmt) : Bool := match i with
  | some i => (match G.N[i]? with
    | some n => visB G.sc n && (nmOk n && chkHSs G n i h xs)
    | none => false)
  | none => (match h, xs with
    | .cons (.ret (.k d)) .nil, [.Return (some (.Constant c _ _)) _] => constB d c
    | _, _ => false)
/-- statements whose expression may raise -/
def xsB : S → Bool
  | .set _ _ => true
  | .setO _ _ => true
  | .setT _ _ => true
  | .setA _ _ _ => true
  | .ex _ => true
  | .ret _ => true
  | .retO _ => true
  | .iff _ _ _ => true
  | _ => false
mutual
def chkS (G : Ga) : S → Stmt → Bool
  | .set i e, s => (match s with
    | .Assign [.Name y _] v _ => i != 0 && (decide (G.N[i]? = some y) && (locB G.sc y && (G.w y && (notLc v && chkE G e v))))
    | _ => false)
  | .setO i o, s => (match s with
    | .Assign [.Name y _] v _ => i != 0 && (decide (G.N[i]? = some y) && (locB G.sc y && (G.w y && chkO G o v)))
    | _ => false)
  | .setT l e, s => (match s with
    | .Assign [.Tuple ts _ _] v _ => !l.contains 0 && (notTup v && (notLc v && (chkTs G l ts && chkE G e v)))
    | _ => false)
  | .frz _, _ => false
  | .setA i f e, s => (match s with
    | .Assign [.Attribute (.Name x _) nm _] v _ => decide (G.N[i]? = some x) && (visB G.sc x && (nmOk x && (decide (G.T.names[f]? = some nm) && chkE G e v)))
    | _ => false)
  | .setIx a k e, s => (match s with
    | .Assign [.Subscript o ix _] v _ => notLc v && (ixB ix && (chkE G e v && (chkE G a o && chkE G k ix)))
    | _ => false)
  | .app i e, s => (match s with
    | .Expr (.Call (.Attribute (.Name x _) nm ap) [v] [] cp) _ => decide (nm = "append") && (decide (G.N[i]? = some x) && (visB G.sc x && (nmOk x && (starB v && ((ap.endLine == cp.line) && chkE G e v)))))
    | _ => false)
  | .ext i a, s => (match s with
    | .Expr (.Call (.Attribute (.Name x _) nm ap) [v] [] cp) _ => decide (nm = "extend") && (decide (G.N[i]? = some x) && (visB G.sc x && (nmOk x && (starB v && ((ap.endLine == cp.line) && chkR G a v)))))
    | _ => false)
  | .appPop i j k, s => (match s with
    | .Expr (.Call (.Attribute (.Name x _) nm ap) [.Call (.Attribute (.Name y _) nm2 ap2) [v] [] cp2] [] cp) _ => decide (nm = "append") && (decide (nm2 = "pop") && (decide (G.N[i]? = some x) && (decide (G.N[j]? = some y) && (visB G.sc x && (visB G.sc y && (nmOk x && (nmOk y && (starB v && ((ap.endLine == cp.line) && ((ap2.endLine == cp2.line) && chkE G k v))))))))))
    | _ => false)
  | .appE a e, s => (match s with
    | .Expr (.Call (.Attribute o nm ap) [v] [] cp) _ => decide (nm = "append") && (plnB o && (starB v && ((ap.endLine == cp.line) && (chkE G a o && chkE G e v))))
    | _ => false)
  | .remE a e, s => (match s with
    | .Expr (.Call (.Attribute o nm ap) [v] [] cp) _ => decide (nm = "remove") && (plnB o && (starB v && ((ap.endLine == cp.line) && (chkE G a o && chkE G e v))))
    | _ => false)
  | .dputE a k e, s => (match s with
    | .Assign [.Subscript o ix _] v _ => !G.T.tupC && (notLc v && (plnB ix && (chkE G e v && (chkE G a o && chkE G k ix))))
    | _ => false)
  | .dput i k e, s => (match s with
    | .Assign [.Subscript (.Name x _) ix _] v _ => !G.T.tupC && (decide (G.N[i]? = some x) && (visB G.sc x && (nmOk x && (notLc v && (plnB ix && (chkE G e v && chkE G k ix))))))
    | _ => false)
  | .mv i j, s => (match s with
    | .Assign [.Name x _] (.Name y _) _ => i != 0 && (decide (G.N[i]? = some x) && (decide (G.N[j]? = some y) && (locB G.sc x && (G.w x && (visB G.sc y && nmOk y)))))
    | _ => false)
  | .whl c b, s => (match s with
    | .While t body [] _ => chkE G c t && chkSs G b body
    | _ => false)
  | .ex e, s => (match s with
    | .Expr v _ => notLc v && chkE G e v
    | _ => false)
  | .ret e, s => (match s with
    | .Return (some v) _ => chkE G e v
    | _ => false)
  | .retO o, s => (match s with
    | .Return (some v) _ => chkO G o v
    | _ => false)
  | .retS i, s => (match s with
    | .Return (some (.Name x _)) _ => decide (G.N[i]? = some x) && (visB G.sc x && nmOk x)
    | _ => false)
  | .ret0, s => (match s with
    | .Return none _ => true
    | _ => false)
  | .iff c a b, s => (match s with
    | .If t x y _ => chkE G c t && (chkSs G a x && chkSs G b y)
    | _ => false)
  | .for tg it b, s => (match s with
    | .For t iter body [] _ => !tg.slots.contains 0 && (plnB iter && (!ownI it && ((tgOk it t && chkI G it iter) && (chkT G tg t && chkSs G b body))))
    | _ => false)
  | .pas, s => (match s with
    | .Pass _ => true
    | _ => false)
  | .bad, _ => true
  | .xs s, st => xsB s && chkS G s st
  | .rse c, st => (match st with
    | .Raise (some (.Call (.Name x _) [.Constant (.str _) _ _] [] _)) none _ => G.T.xpl.contains c && ((match G.T.xcl[c]? with | some q => decide (q.1 = x) | none => false) && (glB G.sc x && nmOk x))
    | _ => false)
  | .try b c i h, st => (match st with
    | .Try body [.ExceptHandler (some (.Name x _)) nm (b₀ :: suite) _] [] [] _ => (match G.T.xcl[c]? with | some q => decide (q.1 = x) | none => false) && (glB G.sc x && (nmOk x && (chkSs G b body && (chkHs G i h (b₀ :: suite) && (match i, nm with
      | some i, some n => i != 0 && (decide (G.N[i]? = some n) && decide (G.sc.names.lookup n = some .local))
      | none, none => true
      | _, _ => false)))))
    | _ => false)
def chkSs (G : Ga) : Ss → List Stmt → Bool
  | .nil, xs => (match xs with
    | [] => true
    | _ => false)
  | .cons s b, xs => (match s with
    | .frz _ => chkSs G b xs
    | s => (match xs with
      | x :: r => chkS G s x && chkSs G b r
      | [] => false))
end
section
variable (P : Pl)
structure EnS (H0 : Hp) (W : Wo) (H : Hp) (σ : L2.St) (ρ : Rho) : Prop where
  en : En P W H σ ρ
  fr : ∀ (i : Nat) (d : D) (a : Addr), ρ[i]? = some (.ow d) → σ[i]? = some (some (.ref a)) → H0 a = none
variable (Wx : WX)
def PostS (W0 : Wo) (H0 : Hp) (W : Wo) (H : Hp) (σ : L2.St) (D : Ends) : Out → Prop
  | .nx ρ' μ' => ∀ σ' W' H', Ext W0 H0 W' H' → Keep W H W' H' → Wd P W' H' μ' → EnS P H0 W' H' σ' ρ' → σ'[0]? = σ[0]? → D.nx σ' H'
  | .rt o d μ' => ∀ v W' H', Ext W0 H0 W' H' → Wd P W' H' μ' → RetRep P W0 H0 W' H' o v d → D.rt v H'
  | .xc x ρ' μ' => ∀ σ' W' H' cls d, Ext W0 H0 W' H' → Keep W H W' H' → Wd P W' H' μ' → EnS P H0 W' H' σ' ρ' → σ'[0]? = σ[0]? → XR P W' H' x cls d → Wx cls d σ' H'
variable (cal : Cal) (mak : Mak)
def tS (s : S) : TS := fun D σ H => ∃ (W0 : Wo) (H0 : Hp) (W : Wo) (ρ : Rho) (μ : Sto) (out : Out), Ext W0 H0 W H ∧ Wd P W H μ ∧ EnS P H0 W H σ ρ ∧ ex P.T cal mak s ρ μ = some out ∧ PostS P Wx W0 H0 W H σ D out
def tSs (s : Ss) : TS := fun D σ H => ∃ (W0 : Wo) (H0 : Hp) (W : Wo) (ρ : Rho) (μ : Sto) (out : Out), Ext W0 H0 W H ∧ Wd P W H μ ∧ EnS P H0 W H σ ρ ∧ exs P.T cal mak s ρ μ = some out ∧ PostS P Wx W0 H0 W H σ D out
end
theorem psI {X : Cx} {e : Stmt} {t t' : TS} (h : PS X e t) (k : ∀ D σ H, t' D σ H → t D σ H) : PS X e t' := ⟨fun pins s σ H D I q => h.run pins s σ H D I (k D σ H q)⟩
theorem pssI {X : Cx} {e : List Stmt} {t t' : TS} (h : PSs X e t) (k : ∀ D σ H, t' D σ H → t D σ H) : PSs X e t' := ⟨fun pins s σ H D I q => h.run pins s σ H D I (k D σ H q)⟩
section
variable {P : Pl} {Wx : WX} {n : Nat} {cal : Cal} {mak : Mak} {G : Ga} {X : Cx} {W0 W W' W'' : Wo} {H0 H H' H'' : Hp} {μ μ' : Sto} {σ : L2.St} {ρ : Rho}
theorem EnS.ext (x : Ext W H W' H') (w : Wd P W H μ) (e : EnS P H0 W H σ ρ) : EnS P H0 W' H' σ ρ := ⟨e.en.ext x w, e.fr⟩
theorem EnS.setF {i : Nat} {v : V} {d : D} (en : EnS P H0 W H σ ρ) (r : Rep P W H v d) : EnS P H0 W H (σ.set i (some v)) (ρ.set i (.fz d)) := by
  refine ⟨en.en.setF r, fun j e a h1 h2 => ?_⟩
  obtain ⟨h3, h4⟩ := owsame_set j e h1
  exact en.fr j e a h3 (h4 ▸ h2)
theorem set_cases {α : Type} {l : List α} {i j : Nat} {x y : α} (h : (l.set i x)[j]? = some y) : (i = j ∧ y = x ∧ i < l.length) ∨ (i ≠ j ∧ l[j]? = some y) := by
  by_cases hj : i = j
  · subst hj
    have hl : i < l.length := by
      have := (List.getElem?_eq_some_iff.mp h).1
      simpa using this
    rw [List.getElem?_set_self hl] at h
    cases h
    exact .inl ⟨rfl, rfl, hl⟩
  · rw [List.getElem?_set_ne hj] at h
    exact .inr ⟨hj, h⟩
theorem EnS.setO {i : Nat} {a : Addr} {d : D} (en : EnS P H0 W H σ ρ) (o : Own P W H a d) (h0 : H0 a = none) (hne : ∀ (j : Nat) (e : D), i ≠ j → ρ[j]? = some (.ow e) → σ[j]? ≠ some (some (.ref a))) : EnS P H0 W H (σ.set i (some (.ref a))) (ρ.set i (.ow d)) := by
  have gs : ∀ {j : Nat}, i ≠ j → (σ.set i (some (V.ref a)))[j]? = σ[j]? := fun hj => List.getElem?_set_ne hj
  refine ⟨⟨by rw [List.length_set, List.length_set]; exact en.en.len, fun j e h => ?_, fun j e h => ?_, fun j j' d' e b h1 h2 h3 h4 => ?_⟩, fun j e b h1 h2 => ?_⟩
  · rcases set_cases h with ⟨_, q, _⟩ | ⟨hj, h⟩
    · cases q
    · rw [gs hj]; exact en.en.fz j e h
  · rcases set_cases h with ⟨q1, q, hl⟩ | ⟨hj, h⟩
    · cases q
      subst q1
      exact ⟨a, List.getElem?_set_self (by rw [en.en.len]; exact hl), o⟩
    · rw [gs hj]; exact en.en.ow j e h
  · rcases set_cases h1 with ⟨q1, q, hl⟩ | ⟨hj, h1⟩
    · rcases set_cases h2 with ⟨q2, q', hl'⟩ | ⟨hj', h2⟩
      · exact q1.symm.trans q2
      · subst q1
        rw [List.getElem?_set_self (by rw [en.en.len]; exact hl)] at h3
        cases h3
        rw [gs hj'] at h4
        exact absurd h4 (hne j' e hj' h2)
    · rcases set_cases h2 with ⟨q2, q', hl'⟩ | ⟨hj', h2⟩
      · subst q2
        rw [List.getElem?_set_self (by rw [en.en.len]; exact hl')] at h4
        cases h4
        rw [gs hj] at h3
        exact absurd h3 (hne j d' hj h1)
      · rw [gs hj] at h3
        rw [gs hj'] at h4
        exact en.en.ne j j' d' e b h1 h2 h3 h4
  · rcases set_cases h1 with ⟨q1, q, hl⟩ | ⟨hj, h1⟩
    · subst q1
      rw [List.getElem?_set_self (by rw [en.en.len]; exact hl)] at h2
      cases h2
      exact h0
    · rw [gs hj] at h2
      exact en.fr j e b h1 h2
theorem s_set (g : GX P n cal mak G X) {i : Nat} {e : E} {y : Str} {py spos : Pos} {v : Expr} (hz : i ≠ 0) (h1 : G.N[i]? = some y) (h2 : locB G.sc y = true) (h3 : G.w y = true) (h4 : notLc v = true) (h : PE X v (tE P cal mak e)) : PS X (.Assign [.Name y py] v spos) (tS P Wx cal mak (.set i e)) := by
  refine psI (asg_of g h h1 h2 h3 (lc_swap h4)) fun D σ H ⟨W0, H0, W, ρ, μ, out, x0, w, en, ee, k⟩ => ?_
  unfold ex at ee
  obtain ⟨x, e1, ee⟩ := bind_some' ee
  split at ee
  · cases ee
    exact ⟨W, ρ, μ, x.1, x.2, w, en.en, e1, fun v W1 H1 x1 w1 r1 => k _ W1 H1 (x0.tr x1 w) (x1.keep w) w1 ((en.ext x1 w).setF r1) (List.getElem?_set_ne hz)⟩
  · cases ee
theorem s_setO (g : GX P n cal mak G X) {i : Nat} {o : O} {y : Str} {py spos : Pos} {v : Expr} (hz : i ≠ 0) (h1 : G.N[i]? = some y) (h2 : locB G.sc y = true) (h3 : G.w y = true) (h : AsgO P cal mak G X v o) : PS X (.Assign [.Name y py] v spos) (tS P Wx cal mak (.setO i o)) := by
  refine psI (h i y py spos h1 h2 h3) fun D σ H ⟨W0, H0, W, ρ, μ, out, x0, w, en, ee, k⟩ => ?_
  unfold ex at ee
  obtain ⟨x, e1, ee⟩ := bind_some' ee
  split at ee
  · cases ee
    refine ⟨W, ρ, μ, x.1, x.2, w, en.en, e1, fun a W1 H1 x1 w1 o1 hn => k _ W1 H1 (x0.tr x1 w) (x1.keep w) w1 ((en.ext x1 w).setO o1 (x0.free w hn) fun j e _ hj hs => ?_) (List.getElem?_set_ne hz)⟩
    obtain ⟨b, hb, ob⟩ := en.en.ow j e hj
    rw [hs] at hb
    cases hb
    obtain ⟨u, hu⟩ := ob.c.some
    rw [hn] at hu; cases hu
  · cases ee
theorem s_ex {e : E} {v : Expr} {pos : Pos} (h4 : notLc v = true) (h : PE X v (tE P cal mak e)) : PS X (.Expr v pos) (tS P Wx cal mak (.ex e)) := by
  refine psI (ps_expr h (lc_swap h4)) fun D σ H ⟨W0, H0, W, ρ, μ, out, x0, w, en, ee, k⟩ => ?_
  unfold ex at ee
  obtain ⟨x, e1, ee⟩ := bind_some' ee
  cases ee
  exact ⟨W, ρ, μ, x.1, x.2, w, en.en, e1, fun v W1 H1 x1 w1 r1 => k _ W1 H1 (x0.tr x1 w) (x1.keep w) w1 (en.ext x1 w) rfl⟩
theorem s_ret {e : E} {v : Expr} {pos : Pos} (h : PE X v (tE P cal mak e)) : PS X (.Return (some v) pos) (tS P Wx cal mak (.ret e)) := by
  refine psI (ps_ret h) fun D σ H ⟨W0, H0, W, ρ, μ, out, x0, w, en, ee, k⟩ => ?_
  unfold ex at ee
  obtain ⟨x, e1, ee⟩ := bind_some' ee
  cases ee
  exact ⟨W, ρ, μ, x.1, x.2, w, en.en, e1, fun v W1 H1 x1 w1 r1 => k v W1 H1 (x0.tr x1 w) w1 r1⟩
theorem s_retO {o : O} {v : Expr} {pos : Pos} (h : PE X v (tO P cal mak o)) : PS X (.Return (some v) pos) (tS P Wx cal mak (.retO o)) := by
  refine psI (ps_ret h) fun D σ H ⟨W0, H0, W, ρ, μ, out, x0, w, en, ee, k⟩ => ?_
  unfold ex at ee
  obtain ⟨x, e1, ee⟩ := bind_some' ee
  cases ee
  exact ⟨W, ρ, μ, x.1, x.2, w, en.en, e1, fun a W1 H1 x1 w1 o1 hn => k _ W1 H1 (x0.tr x1 w) w1 ⟨a, rfl, o1, x0.free w hn⟩⟩
theorem s_retS (g : GX P n cal mak G X) {i : Nat} {x : Str} {pos pos' : Pos} (h1 : G.N[i]? = some x) (h2 : visB G.sc x = true) (h3 : nmOk x = true) : PS X (.Return (some (.Name x pos)) pos') (tS P Wx cal mak (.retS i)) := by
  obtain ⟨d1, d2, _⟩ := nmOk_of h3
  refine psI (ps_ret (pe_var (i := i) (by rw [g.N]; exact h1) (g.vis h2) d1 d2)) fun D σ H ⟨W0, H0, W, ρ, μ, out, x0, w, en, ee, k⟩ => ?_
  unfold ex at ee
  split at ee
  · rename_i d hd
    cases ee
    obtain ⟨a, ha, o⟩ := en.en.ow i d hd
    exact ⟨.ref a, ha, k _ W H x0 w ⟨a, rfl, o, en.fr i d a hd ha⟩⟩
  · cases ee
theorem s_ret0 {pos : Pos} : PS X (.Return none pos) (tS P Wx cal mak .ret0) := by
  refine psI ps_retN fun D σ H ⟨W0, H0, W, ρ, μ, out, x0, w, en, ee, k⟩ => ?_
  unfold ex at ee
  cases ee
  exact k _ W H x0 w .non
theorem s_pas {pos : Pos} : PS X (.Pass pos) (tS P Wx cal mak .pas) := by
  refine psI ps_pass fun D σ H ⟨W0, H0, W, ρ, μ, out, x0, w, en, ee, k⟩ => ?_
  unfold ex at ee
  cases ee
  exact k _ W H x0 .refl w en rfl
theorem s_bad {st : Stmt} : PS X st (tS P Wx cal mak .bad) := by
  refine psI ps_never fun D σ H ⟨W0, H0, W, ρ, μ, out, x0, w, en, ee, k⟩ => ?_
  unfold ex at ee
  cases ee
theorem PostS.mono {D : Ends} {out : Out} {σ1 : L2.St} (kp : Keep W H W' H') (e : σ1[0]? = σ[0]?) (k : PostS P Wx W0 H0 W H σ D out) : PostS P Wx W0 H0 W' H' σ1 D out := by
  cases out with
  | nx ρ μ => exact fun σ' W2 H2 x kp2 w en e2 => k σ' W2 H2 x (kp.trans kp2) w en (e2.trans e)
  | rt o d μ => exact k
  | xc x ρ μ => exact fun σ' W2 H2 cls d x kp2 w en e2 r => k σ' W2 H2 cls d x (kp.trans kp2) w en (e2.trans e) r
theorem s_iff {c : E} {a b : Ss} {t : Expr} {x y : List Stmt} {pos : Pos} (hc : PT X t (tT P cal mak c)) (ha : PSs X x (tSs P Wx cal mak a)) (hb : PSs X y (tSs P Wx cal mak b)) : PS X (.If t x y pos) (tS P Wx cal mak (.iff c a b)) := by
  refine psI (ps_if hc ha hb) fun D σ H ⟨W0, H0, W, ρ, μ, out, x0, w, en, ee, k⟩ => ?_
  unfold ex at ee
  obtain ⟨⟨x, z⟩, e1, ee⟩ := bind_some' ee
  split at ee
  · rename_i hx
    simp only at hx ee
    subst hx
    exact ⟨W, ρ, μ, true, z, w, en.en, e1, fun W1 H1 x1 w1 => iteT ⟨W0, H0, W1, ρ, z, out, x0.tr x1 w, w1, en.ext x1 w, ee, k.mono (x1.keep w) rfl⟩⟩
  · rename_i hx
    simp only at hx ee
    subst hx
    exact ⟨W, ρ, μ, false, z, w, en.en, e1, fun W1 H1 x1 w1 => iteF ⟨W0, H0, W1, ρ, z, out, x0.tr x1 w, w1, en.ext x1 w, ee, k.mono (x1.keep w) rfl⟩⟩
  · cases ee
theorem s_nil : PSs X [] (tSs P Wx cal mak .nil) := by
  refine pssI pss_nil fun D σ H ⟨W0, H0, W, ρ, μ, out, x0, w, en, ee, k⟩ => ?_
  unfold exs at ee
  cases ee
  exact k _ W H x0 .refl w en rfl
theorem s_cons {st : Stmt} {r : List Stmt} {s : S} {b : Ss} (h1 : PS X st (tS P Wx cal mak s)) (h2 : PSs X r (tSs P Wx cal mak b)) : PSs X (st :: r) (tSs P Wx cal mak (.cons s b)) := by
  refine pssI (pss_cons h1 h2) fun D σ H ⟨W0, H0, W, ρ, μ, out, x0, w, en, ee, k⟩ => ?_
  unfold exs at ee
  obtain ⟨o1, e1, ee⟩ := bind_some' ee
  cases o1 with
  | nx ρ' μ' => exact ⟨W0, H0, W, ρ, μ, _, x0, w, en, e1, fun σ' W1 H1 x1 kp w1 en1 e0 => ⟨W0, H0, W1, ρ', μ', out, x1, w1, en1, ee, k.mono kp e0⟩⟩
  | rt o d μ' =>
    cases ee
    exact ⟨W0, H0, W, ρ, μ, _, x0, w, en, e1, k⟩
  | xc x ρ' μ' =>
    cases ee
    exact ⟨W0, H0, W, ρ, μ, _, x0, w, en, e1, k⟩
theorem s_frz {xs : List Stmt} {i : Nat} {b : Ss} (h : PSs X xs (tSs P Wx cal mak b)) : PSs X xs (tSs P Wx cal mak (.cons (.frz i) b)) := by
  refine pssI (pss_lk h) fun D σ H ⟨W0, H0, W, ρ, μ, out, x0, w, en, ee, k⟩ => ?_
  unfold exs at ee
  obtain ⟨o1, e1, ee⟩ := bind_some' ee
  unfold ex at e1
  split at e1
  · rename_i d hd
    cases e1
    obtain ⟨a, ha, o⟩ := en.en.ow i d hd
    have go := freeze_or (Q := fun H' => tSs P Wx cal mak b D σ H') w o fun H' hb w2 r2 => by
      have kp : Keep W H (W.add a) H' := ⟨fun _ h => .inl h, fun c u f h => by rw [hb c (fun z => o.nf (z ▸ f))]; exact h, [], by simp [Wo.add]⟩
      refine ⟨W0, H0, W.add a, ρ.set i (.fz d), μ, out, x0.addFu (en.fr i d a hd ha) hb, w2, ?_, ee, k.mono kp rfl⟩
      have en2 : EnS P H0 (W.add a) H' (σ.set i (some (.ref a))) (ρ.set i (.fz d)) := by
        refine ⟨⟨by rw [List.length_set, List.length_set]; exact en.en.len, fun j e h => ?_, fun j e h => ?_, fun j j' d' e b h1 h2 h3 h4 => ?_⟩, fun j e b h1 h2 => ?_⟩
        · rcases set_cases h with ⟨q1, q, hl⟩ | ⟨hj, h⟩
          · cases q
            subst q1
            exact ⟨_, List.getElem?_set_self (by rw [en.en.len]; exact hl), r2⟩
          · rw [List.getElem?_set_ne hj]
            obtain ⟨v, q1, q2⟩ := en.en.fz j e h
            exact ⟨v, q1, q2.keep kp⟩
        · rcases set_cases h with ⟨q1, q, hl⟩ | ⟨hj, h⟩
          · cases q
          · rw [List.getElem?_set_ne hj]
            obtain ⟨c, q1, q2⟩ := en.en.ow j e h
            have hca : c ≠ a := fun z => by
              subst z
              exact hj (en.en.ne i j d e c hd h ha q1)
            exact ⟨c, q1, q2.c.keep kp fun u h => (by rw [hb c hca]; exact h), fun z => z.elim q2.nf hca, q2.nc⟩
        · obtain ⟨h1, e1⟩ := owsame_set (σ := σ) (x := some (.ref a)) j d' h1
          obtain ⟨h2, e2⟩ := owsame_set (σ := σ) (x := some (.ref a)) j' e h2
          exact en.en.ne j j' d' e b h1 h2 (e1 ▸ h3) (e2 ▸ h4)
        · obtain ⟨h1, e1⟩ := owsame_set (σ := σ) (x := some (.ref a)) j e h1
          exact en.fr j e b h1 (e1 ▸ h2)
      have hs : σ.set i (some (.ref a)) = σ := by
        apply List.ext_getElem?
        intro j
        by_cases hj : i = j
        · subst hj
          rw [List.getElem?_set_self (List.getElem?_eq_some_iff.mp ha).1, ha]
        · rw [List.getElem?_set_ne hj]
      rw [hs] at en2
      exact en2
    rcases go with q | ⟨b', u, e, h1, h2, q⟩
    · exact .inl q
    · exact .inr ⟨b', u, h1, h2, q⟩
  · cases e1
theorem EnS.un {j : Nat} (en : EnS P H0 W H σ ρ) : EnS P H0 W H σ (ρ.set j .un) := by
  have back : ∀ {i : Nat} {s : Slot}, s ≠ .un → (ρ.set j .un)[i]? = some s → ρ[i]? = some s := fun hs h => by
    rcases set_cases h with ⟨_, q, _⟩ | ⟨_, h⟩
    · exact absurd q hs
    · exact h
  exact ⟨⟨by rw [List.length_set]; exact en.en.len, fun i d h => en.en.fz i d (back (fun z => nomatch z) h), fun i d h => en.en.ow i d (back (fun z => nomatch z) h), fun i i' d e a h1 h2 => en.en.ne i i' d e a (back (fun z => nomatch z) h1) (back (fun z => nomatch z) h2)⟩, fun i d a h => en.fr i d a (back (fun z => nomatch z) h)⟩
theorem s_mv (g : GX P n cal mak G X) {i j : Nat} {x y : Str} {p1 p2 pos : Pos} (h1 : G.N[i]? = some x) (g1 : G.N[j]? = some y) (h2 : locB G.sc x = true) (h3 : G.w x = true) (g2 : visB G.sc y = true) (g3 : nmOk y = true) (hi : i ≠ 0) :
    PS X (.Assign [.Name x p1] (.Name y p2) pos) (tS P Wx cal mak (.mv i j)) := by
  obtain ⟨d1, d2, _⟩ := nmOk_of g3
  refine psI (asg_of g (pe_var (i := j) (pos := p2) (by rw [g.N]; exact g1) (g.vis g2) d1 d2) h1 h2 h3 rfl) fun D σ H ⟨W0, H0, W, ρ, μ, out, x0, w, en, ee, k⟩ => ?_
  unfold ex at ee
  split at ee
  · rename_i d hd
    split at ee
    · rename_i hc
      cases ee
      obtain ⟨a, ha, o⟩ := en.en.ow j d hd
      refine ⟨.ref a, ha, ?_⟩
      refine k _ W H x0 .refl w (EnS.setO (en.un (j := j)) o (en.fr j d a hd ha) fun m e hm hme => ?_) (List.getElem?_set_ne hi)
      rcases set_cases hme with ⟨_, q, _⟩ | ⟨hj, hme⟩
      · cases q
      · exact fun q => hj (en.en.ne j m d e a hd hme ha q)
    · cases ee
  · cases ee
def gSeq (K : PySem.W.Frag) (n : Nat) (t : TGs) : TG := fun v σ H Q => gTup K n t v σ H Q ∨ gUnl K n t v σ H Q
theorem pg_seq {es : List Expr} {k : Nat} {pos : Pos} {t : TGs} {n' : Nat} (hc : X.calm = true) (h : PGs X es t) (hn : (assignEach es X.env).length = n') (hst : (assignEach es X.env).findIdx? (·.1) = none) : PG X (.Tuple es k pos) (gSeq X.K n' t) :=
  ⟨fun pins s σ H v u Q I r hw => by
    rcases hw with hw | hw
    · exact (pg_tup hc h hn hst).run pins s σ H v u Q I r hw
    · exact (pg_unl hc h hn hst).run pins s σ H v u Q I r hw⟩
theorem setAll_len : ∀ (l : List Nat) (ds : List D) (ρ ρ' : Rho), setAll ρ l ds = some ρ' → ds.length = l.length := by
  intro l
  induction l with
  | nil => intro ds ρ ρ' h; cases ds with | nil => rfl | cons _ _ => cases h
  | cons i l ih =>
    intro ds ρ ρ' h
    cases ds with
    | nil => cases h
    | cons d ds =>
      have h : (if i < ρ.length then setAll (ρ.set i (.fz d)) l ds else none) = some ρ' := h
      split at h
      · exact congrArg Nat.succ (ih ds _ _ h)
      · cases h
theorem wipe_get {i : Nat} : ∀ {l : List Nat} {σ : L2.St}, i ∉ l → (wipe σ l)[i]? = σ[i]?
  | [], _, _ => rfl
  | j :: l, σ, h => by
    show ((wipe σ l).set j none)[i]? = _
    have hj : j ≠ i := fun z => h (by rw [z]; exact List.mem_cons_self)
    rw [List.getElem?_set_ne hj, wipe_get fun z => h (List.mem_cons_of_mem _ z)]
theorem EnS.of (en : EnS P H0 W H σ ρ) {σ' : L2.St} {ρ' : Rho} (e : En P W H σ' ρ') (os : OwSame ρ σ ρ' σ') : EnS P H0 W H σ' ρ' :=
  ⟨e, fun i d a h1 h2 => by obtain ⟨h3, h4⟩ := os i d h1; exact en.fr i d a h3 (h4 ▸ h2)⟩
theorem s_setT (g : GX P n cal mak G X) {l : List Nat} {e : E} {ts : List Expr} {k' : Nat} {tp spos : Pos} {v : Expr} (hz : 0 ∉ l) (h1 : notTup v = true) (h2 : notLc v = true) (h3 : chkTs G l ts = true) (h : PE X v (tE P cal mak e)) : PS X (.Assign [.Tuple ts k' tp] v spos) (tS P Wx cal mak (.setT l e)) := by
  obtain ⟨a, b, c⟩ := pg_tgs g h3
  refine psI (ps_asg h (pg_seq g.calm a b c) (lc_swap (t := some (.Tuple ts k' tp)) (l := spos.line) (env := X.env) h2) (notTup_st h1)) fun D σ H ⟨W0, H0, W, ρ, μ, out, x0, w, en, ee, k⟩ => ?_
  unfold ex at ee
  obtain ⟨x, e1, ee⟩ := bind_some' ee
  obtain ⟨d, e2, ee⟩ := bind_some' ee
  obtain ⟨xs, e3, ee⟩ := bind_some' ee
  obtain ⟨ρ', e4, ee⟩ := bind_some' ee
  cases ee
  refine ⟨W, ρ, μ, x.1, x.2, w, en.en, e1, fun u W1 H1 x1 w1 r1 => ?_⟩
  have en1 := en.ext x1 w
  obtain ⟨b', vs, rfl, q1, l1, z1⟩ := (show RRep P W1 H1 u x.1 from .inl r1).seq w1 (show (x.1.top x.2).bind asSeq = some xs by rw [e2]; exact e3)
  have hl : vs.length = l.length := by rw [l1.len]; exact setAll_len l xs _ _ e4
  have fin := set_all l (fun _ h => h) (Q := D.nx) e4 l1 en1.en fun σ' en' wp os => k σ' W1 H1 (x0.tr x1 w) (x1.keep w) w1 (en1.of en' os) (by rw [← wipe_get hz, wp, wipe_get hz])
  rw [← g.K] at q1
  rcases q1 with q1 | q1
  · exact .inr ⟨_, _, rfl, q1, hl, fin⟩
  · exact .inl ⟨_, _, rfl, q1, hl, fin⟩
theorem zip_put {N : List Str} : ∀ {vs : List V} {x : Str} {v : V} {j : Nat}, N.Nodup → N[j]? = some x → j ≤ vs.length → putF x v (N.zip vs) = N.zip (if j < vs.length then vs.set j v else vs ++ [v]) := by
  induction N with
  | nil => intro vs x v j _ h; simp at h
  | cons m N ih =>
    intro vs x v j nd h1 h2
    cases vs with
    | nil =>
      have hj : j = 0 := by simpa using h2
      subst hj
      simp at h1
      subst h1
      simp [putF]
    | cons u vs =>
      rw [List.zip_cons_cons]
      show (if m = x then (m, v) :: N.zip vs else (m, u) :: putF x v (N.zip vs)) = _
      cases j with
      | zero =>
        simp at h1
        subst h1
        simp
      | succ j =>
        simp at h1 h2
        have hne : m ≠ x := fun z => (List.nodup_cons.mp nd).1 (z ▸ List.mem_of_getElem? h1)
        rw [if_neg hne, ih (List.nodup_cons.mp nd).2 h1 h2]
        by_cases hl : j < vs.length
        · rw [if_pos hl, if_pos (by simpa using hl)]; simp
        · rw [if_neg hl, if_neg (by simpa using hl)]; simp
/-- a field of an object is stored -/
theorem put_ok (g : GX P n cal mak G X) {c f : Nat} {xs ys : List D} {d : D} {nm : Str} {vs : List V} {v : V} (hn : P.nm f = nm) (hcs : (P.T.cls[c]?).isSome = true) (h : putD P.T c xs f d = some ys) (hl : vs.length = xs.length) (hz : vs.length ≤ (P.fld c).length) :
    ∃ (k : Cl) (vs' : List V), P.T.cls[c]? = some k ∧ f ∈ k.fields ∧ putF nm v ((P.fld c).zip vs) = (P.fld c).zip vs' ∧ vs'.length ≤ (P.fld c).length ∧ (∀ (W : Wo) (H : Hp), RepL P W H vs xs → Rep P W H v d → RepL P W H vs' ys) ∧ ((P.fld c).zip vs).length < 1000 := by
  obtain ⟨k, h1, h⟩ := bind_some' h
  have h1 := Tab.cl_is h1 hcs
  obtain ⟨j, h2, h⟩ := bind_some' h
  have nd := g.Y.nd c k h1
  have hj : k.fields[j]? = some f := by
    rw [List.idxOf?_eq_some_iff] at h2
    obtain ⟨hj, e, _⟩ := h2
    rw [List.getElem?_eq_getElem hj]
    exact congrArg some (by simpa using e)
  have hjf : (P.fld c)[j]? = some nm := by rw [P.fld_of h1, List.getElem?_map, hj, Option.map_some, hn]
  have hjl : j < (P.fld c).length := (List.getElem?_eq_some_iff.mp hjf).1
  have h1000 : ((P.fld c).zip vs).length < 1000 := by
    rw [List.length_zip]
    have := nd.2
    omega
  split at h
  · rename_i hlt
    cases h
    refine ⟨k, vs.set j v, h1, List.mem_of_getElem? hj, ?_, ?_, fun W H r q => r.set j q, h1000⟩
    · rw [zip_put nd.1 hjf (by omega), if_pos (by omega)]
    · rw [List.length_set]
      exact hz
  · split at h
    · rename_i he
      cases h
      refine ⟨k, vs ++ [v], h1, List.mem_of_getElem? hj, ?_, ?_, fun W H r q => r.append (.cons q .nil), h1000⟩
      · rw [zip_put nd.1 hjf (by omega), if_neg (by omega)]
      · rw [List.length_append, List.length_singleton]; omega
    · cases h
theorem EnS.upd {i : Nat} {a : Addr} {d e : D} {o : HO} (en : EnS P H0 W H σ ρ) (w : Wd P W H μ) (hd : ρ[i]? = some (.ow d)) (ha : σ[i]? = some (some (.ref a))) (c : Cell P W (upd H a o) a e) :
    Wd P W (upd H a o) μ ∧ EnS P H0 W (upd H a o) σ (ρ.set i (.ow e)) ∧ Keep W H W (upd H a o) ∧ (∀ {W0 : Wo}, Ext W0 H0 W H → Ext W0 H0 W (upd H a o)) := by
  obtain ⟨b, hb, ow⟩ := en.en.ow i d hd
  rw [ha] at hb
  cases hb
  obtain ⟨w2, o2, kp⟩ := ow.write w c
  have h0 := en.fr i d a hd ha
  refine ⟨w2, ?_, kp, fun x => x.updNew h0⟩
  have hs : σ.set i (some (.ref a)) = σ := by
    apply List.ext_getElem?
    intro j
    by_cases hj : i = j
    · subst hj
      rw [List.getElem?_set_self (List.getElem?_eq_some_iff.mp ha).1, ha]
    · rw [List.getElem?_set_ne hj]
  have ne : ∀ (j : Nat) (e : D), i ≠ j → ρ[j]? = some (.ow e) → σ[j]? ≠ some (some (.ref a)) := fun j e hj h1 h2 => hj (en.en.ne i j d e a hd h1 ha h2)
  refine ⟨⟨by rw [List.length_set]; exact en.en.len, fun j e h => ?_, fun j e h => ?_, fun j j' d' e' b h1 h2 h3 h4 => ?_⟩, fun j e' b h1 h2 => ?_⟩
  · rcases set_cases h with ⟨_, q, _⟩ | ⟨hj, h⟩
    · cases q
    · obtain ⟨v, q1, q2⟩ := en.en.fz j e h
      exact ⟨v, q1, q2.keep kp⟩
  · rcases set_cases h with ⟨q1, q, hl⟩ | ⟨hj, h⟩
    · cases q
      subst q1
      exact ⟨a, ha, o2⟩
    · obtain ⟨b, q1, q2⟩ := en.en.ow j e h
      have hb : b ≠ a := fun z => ne j e hj h (z ▸ q1)
      exact ⟨b, q1, q2.c.keep kp fun u hu => by rw [upd_ne hb]; exact hu, q2.nf, q2.nc⟩
  · have key : ∀ {j : Nat} {d' : D}, (ρ.set i (.ow e))[j]? = some (.ow d') → ∃ d'', ρ[j]? = some (.ow d'') := fun h => by
      rcases set_cases h with ⟨q1, q, hl⟩ | ⟨hj, h⟩
      · subst q1; exact ⟨d, hd⟩
      · exact ⟨_, h⟩
    obtain ⟨e1, h1⟩ := key h1
    obtain ⟨e2, h2⟩ := key h2
    exact en.en.ne j j' e1 e2 b h1 h2 h3 h4
  · rcases set_cases h1 with ⟨q1, q, hl⟩ | ⟨hj, h1⟩
    · subst q1
      rw [ha] at h2
      cases h2
      exact h0
    · exact en.fr j e' b h1 h2
theorem att_swap (v : Expr) {o : Expr} {f : Str} {q : Pos} {l : Nat} {env : PySem.Env} : swapsWith v (some (.Attribute o f q)) l env = pure false := by
  cases v <;> rfl
theorem s_setA (g : GX P n cal mak G X) {i f : Nat} {e : E} {x nm : Str} {p1 p2 p3 : Pos} {v : Expr} (h1 : G.N[i]? = some x) (h2 : visB G.sc x = true) (h3 : nmOk x = true) (h4 : G.T.names[f]? = some nm) (h : PE X v (tE P cal mak e)) :
    PS X (.Assign [.Attribute (.Name x p1) nm p2] v p3) (tS P Wx cal mak (.setA i f e)) := by
  obtain ⟨d1, d2, _⟩ := nmOk_of h3
  rw [g.T] at h4
  have hnm : P.nm f = nm := by unfold Pl.nm; rw [List.getD_eq_getElem?_getD, h4]; rfl
  refine psI (ps_fld (pe_var (i := i) (by rw [g.N]; exact h1) (g.vis h2) d1 d2) h (att_swap _)) fun D σ H ⟨W0, H0, W, ρ, μ, out, x0, w, en, ee, k⟩ => ?_
  unfold ex at ee
  obtain ⟨y, e1, ee⟩ := bind_some' ee
  refine ⟨W, ρ, μ, y.1, y.2, w, en.en, e1, fun v W1 H1 x1 w1 r1 => ?_⟩
  have en1 := en.ext x1 w
  have x01 := x0.tr x1 w
  have kp1 := x1.keep w
  split at ee
  · rename_i c xs hd
    obtain ⟨ys, e2, ee⟩ := bind_some' ee
    cases ee
    obtain ⟨a, ha, ow⟩ := en1.en.ow i _ hd
    cases ow.c with
    | obj hc hh z rr =>
      rename_i dx vs
      obtain ⟨kk, vs', q1, q2, q3, q4, q5, q6⟩ := put_ok g (v := v) hnm hc e2 rr.len z
      refine ⟨.ref a, ha, a, P.ca c, dx, _, rfl, hh, g.K ▸ g.Y.cl c kk q1, g.K ▸ hnm ▸ g.Y.na c kk f q1 q2, q6, ?_⟩
      rw [q3]
      have kpw : Keep W1 H1 W1 (upd H1 a (.ins (P.ca c) dx ((P.fld c).zip vs'))) := ⟨fun _ h => h, fun b u ff h => by rw [upd_ne (show b ≠ a from fun z => ow.nf (z ▸ ff))]; exact h, [], by simp⟩
      obtain ⟨w2, en2, kp2, x2⟩ := en1.upd w1 hd ha (.obj hc upd_same q4 ((q5 _ _ (rr.keep kpw) (r1.keep kpw))))
      exact k _ _ _ (x2 x01) (kp1.trans kp2) w2 en2 rfl
  · rename_i m hd
    split at ee
    · rename_i c xs hc
      obtain ⟨ys, e2, ee⟩ := bind_some' ee
      cases ee
      obtain ⟨a', ha, ra⟩ := en1.en.fz i _ hd
      cases ra with
      | @cell _ a hm =>
        cases w1.cell m a _ hm hc with
        | obj hcc hh z rr =>
          rename_i dx vs
          obtain ⟨kk, vs', q1, q2, q3, q4, q5, q6⟩ := put_ok g (v := v) hnm hcc e2 rr.len z
          refine ⟨.ref a, ha, a, P.ca c, dx, _, rfl, hh, g.K ▸ g.Y.cl c kk q1, g.K ▸ hnm ▸ g.Y.na c kk f q1 q2, q6, ?_⟩
          rw [q3]
          have nf : ¬ W1.F a := w1.nf a (List.mem_of_getElem? hm)
          have kpw : Keep W1 H1 W1 (upd H1 a (.ins (P.ca c) dx ((P.fld c).zip vs'))) := ⟨fun _ h => h, fun b u ff h => by rw [upd_ne (show b ≠ a from fun z => nf (z ▸ ff))]; exact h, [], by simp⟩
          obtain ⟨x2, w2⟩ := w1.write hm (.obj hcc upd_same q4 ((q5 _ _ (rr.keep kpw) (r1.keep kpw))))
          exact k _ _ _ (x01.tr x2 w1) (kp1.trans kpw) w2 (en1.ext x2 w1) rfl
    · cases ee
  · cases ee
theorem s_dput (g : GX P n cal mak G X) {i : Nat} {kx e : E} {x : Str} {ix v : Expr} {p0 p1 p2 : Pos} (ht : P.T.tupC = false) (h1 : G.N[i]? = some x) (h2 : visB G.sc x = true) (h3 : nmOk x = true) (h4 : notLc v = true) (he : PE X v (tE P cal mak e)) (hk : PE X ix (tE P cal mak kx)) :
    PS X (.Assign [.Subscript (.Name x p0) ix p1] v p2) (tS P Wx cal mak (.dput i kx e)) := by
  obtain ⟨d1, d2, _⟩ := nmOk_of h3
  refine psI (ps_dput (hu1 g) (pe_var (i := i) (pos := p0) (by rw [g.N]; exact h1) (g.vis h2) d1 d2) hk he (lc_swap (t := some (.Subscript (.Name x p0) ix p1)) (l := p2.line) (env := X.env) h4)) fun D σ H ⟨W0, H0, W, ρ, μ, out, x0, w, en, ee, kk⟩ => ?_
  unfold ex at ee
  obtain ⟨z, e1, ee⟩ := bind_some' ee
  obtain ⟨y, e2, ee⟩ := bind_some' ee
  obtain ⟨ky, e3, ee⟩ := bind_some' ee
  split at ee
  · rename_i t kvs hd
    split at ee
    · rename_i hc
      cases ee
      obtain ⟨a, ha, ow⟩ := en.en.ow i _ hd
      refine ⟨W, ρ, μ, z.1, z.2, w, en.en, e1, fun v1 W1 H1 x1 w1 r1 => ⟨.ref a, ha, W1, ρ, z.2, y.1, y.2, w1, (en.ext x1 w).en, e2, fun v2 W2 H2 x2 w2 r2 => ?_⟩⟩
      have ow2 := (ow.ext x1 w).ext x2 w1
      have rv := r1.ext x2 w1
      have en2 := (en.ext x1 w).ext x2 w1
      obtain ⟨o, vs, dp, dh, rr⟩ := dput_rel ht ow2.c r2 e3 hc.1 rv hc.2
      have kpw : Keep W2 H2 W2 (upd H2 a o) := ⟨fun _ h => h, fun b u ff h => by rw [upd_ne (show b ≠ a from fun z => ow2.nf (z ▸ ff))]; exact h, [], by simp⟩
      obtain ⟨w3, en3, kp3, x3⟩ := en2.upd w2 hd ha (.dct upd_same dh (rr.keep kpw))
      exact ⟨a, _, rfl, dp, kk _ _ _ (x3 ((x0.tr x1 w).tr x2 w1)) (((x1.keep w).trans (x2.keep w1)).trans kp3) w3 en3 rfl⟩
    · cases ee
  · rename_i m hd
    split at ee
    · rename_i t kvs hm
      split at ee
      · rename_i hc
        cases ee
        obtain ⟨v0, ha, ra⟩ := en.en.fz i _ hd
        cases ra with
        | @cell _ a hma =>
          refine ⟨W, ρ, μ, z.1, z.2, w, en.en, e1, fun v1 W1 H1 x1 w1 r1 => ⟨.ref a, ha, W1, ρ, z.2, y.1, y.2, w1, (en.ext x1 w).en, e2, fun v2 W2 H2 x2 w2 r2 => ?_⟩⟩
          have rv := r1.ext x2 w1
          have en2 := (en.ext x1 w).ext x2 w1
          have hm2 : W2.ι[m]? = some a := by
            obtain ⟨l1, el1⟩ := x1.pre
            obtain ⟨l2, el2⟩ := x2.pre
            have hl := (List.getElem?_eq_some_iff.mp hma).1
            rw [el2, el1, List.getElem?_append_left (by rw [List.length_append]; omega), List.getElem?_append_left hl]
            exact hma
          obtain ⟨o, vs, dp, dh, rr⟩ := dput_rel ht (w2.cell m a _ hm2 hm) r2 e3 hc.1 rv hc.2
          have nf : ¬ W2.F a := w2.nf a (List.mem_of_getElem? hm2)
          have kpw : Keep W2 H2 W2 (upd H2 a o) := ⟨fun _ h => h, fun b u ff h => by rw [upd_ne (show b ≠ a from fun z => nf (z ▸ ff))]; exact h, [], by simp⟩
          obtain ⟨x3, w3⟩ := w2.write hm2 (.dct upd_same dh (rr.keep kpw))
          exact ⟨a, _, rfl, dp, kk _ _ _ (((x0.tr x1 w).tr x2 w1).tr x3 w2) (((x1.keep w).trans (x2.keep w1)).trans kpw) w3 (en2.ext x3 w2) rfl⟩
      · cases ee
    · cases ee
  · cases ee
theorem s_setIx (g : GX P n cal mak G X) {a kx e : E} {o ix v : Expr} {p1 p2 : Pos} (h4 : notLc v = true) (hix : ixB ix = true) (he : PE X v (tE P cal mak e)) (ha : PE X o (tE P cal mak a)) (hk : PE X ix (tE P cal mak kx)) : PS X (.Assign [.Subscript o ix p1] v p2) (tS P Wx cal mak (.setIx a kx e)) := by
  refine psI (ps_asg he (pg_sub ha hk set_list (fun v => ix_asg hix)) (lc_swap (t := some (.Subscript o ix p1)) (l := p2.line) (env := X.env) h4)) fun D σ H ⟨W0, H0, W, ρ, μ, out, x0, w, en, ee, k⟩ => ?_
  unfold ex at ee
  obtain ⟨x, e1, ee⟩ := bind_some' ee
  obtain ⟨y, e2, ee⟩ := bind_some' ee
  obtain ⟨z, e3, ee⟩ := bind_some' ee
  refine ⟨W, ρ, μ, x.1, x.2, w, en.en, e1, fun v W1 H1 x1 w1 r1 => ⟨W1, ρ, x.2, y.1, y.2, w1, (en.ext x1 w).en, e2, fun u W2 H2 x2 w2 r2 => ⟨W2, ρ, y.2, z.1, z.2, w2, ((en.ext x1 w).ext x2 w1).en, e3, fun t W3 H3 x3 w3 r3 => ?_⟩⟩⟩
  have en3 := ((en.ext x1 w).ext x2 w1).ext x3 w2
  have x03 := ((x0.tr x1 w).tr x2 w1).tr x3 w2
  have kp3 := ((x1.keep w).trans (x2.keep w1)).trans (x3.keep w2)
  split at ee
  · rename_i m j hy hz
    rw [hz] at r3
    cases r3
    rw [hy] at r2
    cases r2 with
    | @cell _ b hm =>
      split at ee
      · rename_i xs hc
        obtain ⟨q, e4, ee⟩ := bind_some' ee
        cases ee
        have hm3 : W3.ι[m]? = some b := by
          obtain ⟨l, el⟩ := x3.pre
          rw [el, List.getElem?_append_left (List.getElem?_eq_some_iff.mp hm).1]
          exact hm
        cases w3.cell m b _ hm3 hc with
        | lst hh z rr =>
          rename_i vs
          refine ⟨b, vs, j, q, rfl, rfl, hh, by rw [rr.len]; exact e4, ?_⟩
          have nf : ¬ W3.F b := w3.nf b (List.mem_of_getElem? hm3)
          have kpw : Keep W3 H3 W3 (upd H3 b (.lst (vs.set q v))) := ⟨fun _ h => h, fun c u ff h => by rw [upd_ne (show c ≠ b from fun z => nf (z ▸ ff))]; exact h, [], by simp⟩
          have rv := ((r1.ext x2 w1).ext x3 w2)
          obtain ⟨x4, w4⟩ := w3.write hm3 (.lst upd_same (by rw [List.length_set]; exact z) ((rr.set q rv).keep kpw))
          exact k _ _ _ (x03.tr x4 w3) (kp3.trans kpw) w4 (en3.ext x4 w3) rfl
      · cases ee
  · cases ee
theorem s_app (g : GX P n cal mak G X) {i : Nat} {e : E} {x nm : Str} {ap cp p1 p2 : Pos} {v : Expr} (hnm : nm = "append") (h1 : G.N[i]? = some x) (h2 : visB G.sc x = true) (h3 : nmOk x = true) (hs : starB v = true) (hl : (ap.endLine == cp.line) = true) (h : PE X v (tE P cal mak e)) :
    PS X (.Expr (.Call (.Attribute (.Name x p1) nm ap) [v] [] cp) p2) (tS P Wx cal mak (.app i e)) := by
  obtain ⟨d1, d2, _⟩ := nmOk_of h3
  subst hnm
  have few : ((backTo cp (starEach [v] X.env)).all (fun x => !x.1) && (backToKw cp (keywordEach [] X.env)).all (fun x => x.1.isSome) && decide ([v].length + ([] : List Keyword).length + (if ([] : List Keyword).isEmpty then 0 else 1) < 30)) = true := by
    rw [star_cons hs]; rfl
  refine psI (ps_expr (pe_bm PySem.F.plainAttrs_list PySem.F.slot_list_append PySem.F.type_list_append mt_append (pe_var (i := i) (pos := p1) (by rw [g.N]; exact h1) (g.vis h2) d1 d2) (pa_cons h pa_nil (star_cons hs)) rfl few hl (star_cons hs) rfl)) fun D σ H ⟨W0, H0, W, ρ, μ, out, x0, w, en, ee, k⟩ => ?_
  unfold ex at ee
  obtain ⟨y, e1, ee⟩ := bind_some' ee
  split at ee
  · rename_i xs hd
    split at ee
    · rename_i hlt
      cases ee
      obtain ⟨a, ha, ow⟩ := en.en.ow i _ hd
      refine ⟨.ref a, ha, ?_, W, ρ, μ, y.1, y.2, w, en.en, e1, fun v W1 H1 x1 w1 r1 => ?_⟩
      · cases ow.c with
        | lst hh z rr => exact .inl ⟨rfl, _, .of hh⟩
      · have en1 := en.ext x1 w
        have ow1 := ow.ext x1 w
        cases ow1.c with
        | lst hh z rr =>
          rename_i vs
          have hlen := rr.len
          refine ⟨a, vs, v, rfl, rfl, hh, by rw [← lim_eq]; omega, ?_⟩
          have kpw : Keep W1 H1 W1 (upd H1 a (.lst (vs ++ [v]))) := ⟨fun _ h => h, fun b u ff h => by rw [upd_ne (show b ≠ a from fun z => ow1.nf (z ▸ ff))]; exact h, [], by simp⟩
          obtain ⟨w2, en2, kp2, x2⟩ := en1.upd w1 hd ha (.lst (ds := xs ++ [y.1]) upd_same (by rw [List.length_append]; show vs.length + 1 ≤ LIM; omega) ((rr.append (.cons r1 .nil)).keep kpw))
          exact k _ _ _ (x2 (x0.tr x1 w)) ((x1.keep w).trans kp2) w2 en2 rfl
    · cases ee
  · rename_i m hd
    split at ee
    · rename_i xs0 xs hc0 hc
      split at ee
      · rename_i hlt
        cases ee
        obtain ⟨v0, ha, ra⟩ := en.en.fz i _ hd
        have ra0 := ra
        cases ra with
        | @cell _ a hm =>
          refine ⟨.ref a, ha, ?_, W, ρ, μ, y.1, y.2, w, en.en, e1, fun v W1 H1 x1 w1 r1 => ?_⟩
          · cases w.cell m a _ hm hc0 with
            | lst hh z rr => exact .inl ⟨rfl, _, .of hh⟩
          · have ra1 := ra0.ext x1 w
            cases ra1 with
            | @cell _ a hm =>
              cases w1.cell m a _ hm hc with
              | lst hh z rr =>
                rename_i vs
                have hlen := rr.len
                refine ⟨a, vs, v, rfl, rfl, hh, by rw [← lim_eq]; omega, ?_⟩
                have nf : ¬ W1.F a := w1.nf a (List.mem_of_getElem? hm)
                have kpw : Keep W1 H1 W1 (upd H1 a (.lst (vs ++ [v]))) := ⟨fun _ h => h, fun b u ff h => by rw [upd_ne (show b ≠ a from fun z => nf (z ▸ ff))]; exact h, [], by simp⟩
                obtain ⟨x4, w4⟩ := w1.write hm (.lst (ds := xs ++ [y.1]) upd_same (by rw [List.length_append]; show vs.length + 1 ≤ LIM; omega) ((rr.append (.cons r1 .nil)).keep kpw))
                exact k _ _ _ ((x0.tr x1 w).tr x4 w1) ((x1.keep w).trans kpw) w4 ((en.ext x1 w).ext x4 w1) rfl
      · cases ee
    · cases ee
  · cases ee
theorem s_appE (g : GX P n cal mak G X) {a e : E} {o v : Expr} {nm : Str} {ap cp p2 : Pos} (hnm : nm = "append") (hp : plnB o = true) (hs : starB v = true) (hl : (ap.endLine == cp.line) = true) (ho : PE X o (tE P cal mak a)) (h : PE X v (tE P cal mak e)) :
    PS X (.Expr (.Call (.Attribute o nm ap) [v] [] cp) p2) (tS P Wx cal mak (.appE a e)) := by
  subst hnm
  have few : ((backTo cp (starEach [v] X.env)).all (fun x => !x.1) && (backToKw cp (keywordEach [] X.env)).all (fun x => x.1.isSome) && decide ([v].length + ([] : List Keyword).length + (if ([] : List Keyword).isEmpty then 0 else 1) < 30)) = true := by
    rw [star_cons hs]; rfl
  refine psI (ps_expr (pe_bm PySem.F.plainAttrs_list PySem.F.slot_list_append PySem.F.type_list_append mt_append ho (pa_cons h pa_nil (star_cons hs)) (plain_attr hp) few hl (star_cons hs) rfl)) fun D σ H ⟨W0, H0, W, ρ, μ, out, x0, w, en, ee, k⟩ => ?_
  unfold ex at ee
  obtain ⟨y, e0, ee⟩ := bind_some' ee
  split at ee
  · rename_i m hm0
    split at ee
    · rename_i xs0 hc0
      obtain ⟨x, e1, ee⟩ := bind_some' ee
      split at ee
      · rename_i xs hc
        split at ee
        · rename_i hlt
          cases ee
          refine ⟨W, ρ, μ, y.1, y.2, w, en.en, e0, fun va Wa Ha xa wa ra => ?_⟩
          rw [hm0] at ra
          have ra0 := ra
          cases ra with
          | @cell _ a hm =>
            refine ⟨?_, Wa, ρ, y.2, x.1, x.2, wa, (en.ext xa w).en, e1, fun v W1 H1 x1 w1 r1 => ?_⟩
            · cases wa.cell m a _ hm hc0 with
              | lst hh z rr => exact .inl ⟨rfl, _, .of hh⟩
            · have ra1 := ra0.ext x1 wa
              cases ra1 with
              | @cell _ a hm =>
                cases w1.cell m a _ hm hc with
                | lst hh z rr =>
                  rename_i vs
                  have hlen := rr.len
                  refine ⟨a, vs, v, rfl, rfl, hh, by rw [← lim_eq]; omega, ?_⟩
                  have nf : ¬ W1.F a := w1.nf a (List.mem_of_getElem? hm)
                  have kpw : Keep W1 H1 W1 (upd H1 a (.lst (vs ++ [v]))) := ⟨fun _ h => h, fun b u ff h => by rw [upd_ne (show b ≠ a from fun z => nf (z ▸ ff))]; exact h, [], by simp⟩
                  obtain ⟨x4, w4⟩ := w1.write hm (.lst (ds := xs ++ [x.1]) upd_same (by rw [List.length_append]; show vs.length + 1 ≤ LIM; omega) ((rr.append (.cons r1 .nil)).keep kpw))
                  exact k _ _ _ (((x0.tr xa w).tr x1 wa).tr x4 w1) (((xa.keep w).trans (x1.keep wa)).trans kpw) w4 (((en.ext xa w).ext x1 wa).ext x4 w1) rfl
        · cases ee
      · cases ee
    · cases ee
  · cases ee
theorem RepL.erase {W : Wo} {H : Hp} : ∀ (j : Nat) {vs : List V} {ds : List D}, RepL P W H vs ds → RepL P W H (vs.eraseIdx j) (ds.eraseIdx j)
  | _, _, _, .nil => .nil
  | 0, _, _, .cons _ t => t
  | j + 1, _, _, .cons r t => .cons r (RepL.erase j t)
theorem erase_mapD : ∀ (l : List Str) (j : Nat), (l.map EV.D.str).eraseIdx j = (l.eraseIdx j).map EV.D.str
  | [], j => by simp
  | a :: r, 0 => by simp
  | a :: r, j + 1 => by
    have ih := erase_mapD r j
    simp [ih]
theorem s_remE (g : GX P n cal mak G X) {a e : E} {o v : Expr} {nm : Str} {ap cp p2 : Pos} (hnm : nm = "remove") (hp : plnB o = true) (hs : starB v = true) (hl : (ap.endLine == cp.line) = true) (ho : PE X o (tE P cal mak a)) (h : PE X v (tE P cal mak e)) :
    PS X (.Expr (.Call (.Attribute o nm ap) [v] [] cp) p2) (tS P Wx cal mak (.remE a e)) := by
  subst hnm
  have few : ((backTo cp (starEach [v] X.env)).all (fun x => !x.1) && (backToKw cp (keywordEach [] X.env)).all (fun x => x.1.isSome) && decide ([v].length + ([] : List Keyword).length + (if ([] : List Keyword).isEmpty then 0 else 1) < 30)) = true := by
    rw [star_cons hs]; rfl
  refine psI (ps_expr (pe_bm PySem.F.plainAttrs_list PySem.F.slot_list_remove PySem.F.type_list_remove mt_removeS ho (pa_cons h pa_nil (star_cons hs)) (plain_attr hp) few hl (star_cons hs) rfl)) fun D σ H ⟨W0, H0, W, ρ, μ, out, x0, w, en, ee, k⟩ => ?_
  unfold ex at ee
  obtain ⟨y, e0, ee⟩ := bind_some' ee
  split at ee
  · rename_i m hm0
    split at ee
    · rename_i xs0 hc0
      obtain ⟨x, e1, ee⟩ := bind_some' ee
      split at ee
      · rename_i sx xs hx hc
        obtain ⟨ss, e2, ee⟩ := bind_some' ee
        split at ee
        · rename_i hin
          cases ee
          refine ⟨W, ρ, μ, y.1, y.2, w, en.en, e0, fun va Wa Ha xa wa ra => ?_⟩
          rw [hm0] at ra
          have ra0 := ra
          cases ra with
          | @cell _ a hm =>
            refine ⟨?_, Wa, ρ, y.2, x.1, x.2, wa, (en.ext xa w).en, e1, fun v W1 H1 x1 w1 r1 => ?_⟩
            · cases wa.cell m a _ hm hc0 with
              | lst hh z rr => exact .inl ⟨rfl, _, .of hh⟩
            · have ra1 := ra0.ext x1 wa
              rw [hx] at r1
              cases r1 with
              | str _ hk =>
                cases ra1 with
                | @cell _ a hm =>
                  cases w1.cell m a _ hm hc with
                  | lst hh z rr =>
                    rename_i vs
                    have es := rr.strs e2
                    subst es
                    obtain ⟨j, j1, j2, j3⟩ := erase_at hin
                    refine ⟨a, ss, sx, j, rfl, rfl, hh, j1, j2, ?_⟩
                    have nf : ¬ W1.F a := w1.nf a (List.mem_of_getElem? hm)
                    have kpw : Keep W1 H1 W1 (upd H1 a (.lst ((ss.map V.str).eraseIdx j))) := ⟨fun _ h => h, fun b u ff h => by rw [upd_ne (show b ≠ a from fun z => nf (z ▸ ff))]; exact h, [], by simp⟩
                    have rr2 : RepL P W1 H1 ((ss.map V.str).eraseIdx j) ((ss.erase sx).map EV.D.str) := by
                      rw [asStrs_is e2] at rr
                      rw [j3, ← erase_mapD]
                      exact RepL.erase j rr
                    obtain ⟨x4, w4⟩ := w1.write hm (.lst (ds := (ss.erase sx).map EV.D.str) upd_same (by rw [List.length_eraseIdx]; split <;> omega) (rr2.keep kpw))
                    exact k _ _ _ (((x0.tr xa w).tr x1 wa).tr x4 w1) (((xa.keep w).trans (x1.keep wa)).trans kpw) w4 (((en.ext xa w).ext x1 wa).ext x4 w1) rfl
        · cases ee
      · cases ee
    · cases ee
  · cases ee
theorem s_dputE (g : GX P n cal mak G X) {a kx e : E} {o ix v : Expr} {p1 p2 : Pos} (ht : P.T.tupC = false) (h4 : notLc v = true) (he : PE X v (tE P cal mak e)) (ho : PE X o (tE P cal mak a)) (hk : PE X ix (tE P cal mak kx)) :
    PS X (.Assign [.Subscript o ix p1] v p2) (tS P Wx cal mak (.dputE a kx e)) := by
  refine psI (ps_dput (hu1 g) ho hk he (lc_swap (t := some (.Subscript o ix p1)) (l := p2.line) (env := X.env) h4)) fun D σ H ⟨W0, H0, W, ρ, μ, out, x0, w, en, ee, kk⟩ => ?_
  unfold ex at ee
  obtain ⟨z, e1, ee⟩ := bind_some' ee
  obtain ⟨c, e0, ee⟩ := bind_some' ee
  obtain ⟨y, e2, ee⟩ := bind_some' ee
  obtain ⟨ky, e3, ee⟩ := bind_some' ee
  split at ee
  · rename_i m hd
    split at ee
    · rename_i t kvs hm
      split at ee
      · rename_i hc
        cases ee
        refine ⟨W, ρ, μ, z.1, z.2, w, en.en, e1, fun v1 W1 H1 x1 w1 r1 => ⟨W1, ρ, z.2, c.1, c.2, w1, (en.ext x1 w).en, e0, fun vc Wc Hc xc wc rc => ⟨Wc, ρ, c.2, y.1, y.2, wc, ((en.ext x1 w).ext xc w1).en, e2, fun v2 W2 H2 x2 w2 r2 => ?_⟩⟩⟩
        rw [hd] at rc
        have rc2 := rc.ext x2 wc
        cases rc2 with
        | @cell _ a hm2 =>
          have rv := (r1.ext xc w1).ext x2 wc
          have en2 := ((en.ext x1 w).ext xc w1).ext x2 wc
          obtain ⟨o, vs, dp, dh, rr⟩ := dput_rel ht (w2.cell m a _ hm2 hm) r2 e3 hc.1 rv hc.2
          have nf : ¬ W2.F a := w2.nf a (List.mem_of_getElem? hm2)
          have kpw : Keep W2 H2 W2 (upd H2 a o) := ⟨fun _ h => h, fun b u ff h => by rw [upd_ne (show b ≠ a from fun z => nf (z ▸ ff))]; exact h, [], by simp⟩
          obtain ⟨x3, w3⟩ := w2.write hm2 (.dct upd_same dh (rr.keep kpw))
          exact ⟨a, _, rfl, dp, kk _ _ _ ((((x0.tr x1 w).tr xc w1).tr x2 wc).tr x3 w2) ((((x1.keep w).trans (xc.keep w1)).trans (x2.keep wc)).trans kpw) w3 (en2.ext x3 w2) rfl⟩
      · cases ee
    · cases ee
  · cases ee
theorem s_ext (g : GX P n cal mak G X) {i : Nat} {a : R} {x nm : Str} {ap cp p1 p2 : Pos} {v : Expr} (hnm : nm = "extend") (h1 : G.N[i]? = some x) (h2 : visB G.sc x = true) (h3 : nmOk x = true) (hs : starB v = true) (hl : (ap.endLine == cp.line) = true) (h : PE X v (tR P cal mak a)) :
    PS X (.Expr (.Call (.Attribute (.Name x p1) nm ap) [v] [] cp) p2) (tS P Wx cal mak (.ext i a)) := by
  obtain ⟨d1, d2, _⟩ := nmOk_of h3
  subst hnm
  have few : ((backTo cp (starEach [v] X.env)).all (fun x => !x.1) && (backToKw cp (keywordEach [] X.env)).all (fun x => x.1.isSome) && decide ([v].length + ([] : List Keyword).length + (if ([] : List Keyword).isEmpty then 0 else 1) < 30)) = true := by
    rw [star_cons hs]; rfl
  refine psI (ps_expr (pe_bm PySem.F.plainAttrs_list PySem.F.slot_list_extend PySem.F.type_list_extend mt_extQ (pe_var (i := i) (pos := p1) (by rw [g.N]; exact h1) (g.vis h2) d1 d2) (pa_cons h pa_nil (star_cons hs)) rfl few hl (star_cons hs) rfl)) fun D σ H ⟨W0, H0, W, ρ, μ, out, x0, w, en, ee, k⟩ => ?_
  unfold ex at ee
  obtain ⟨y, e1, ee⟩ := bind_some' ee
  obtain ⟨d', e2, ee⟩ := bind_some' ee
  obtain ⟨zs, e3, ee⟩ := bind_some' ee
  split at ee
  · rename_i xs hd
    split at ee
    · rename_i hlt
      cases ee
      obtain ⟨a, ha, ow⟩ := en.en.ow i _ hd
      refine ⟨.ref a, ha, ?_, W, ρ, μ, y.1, y.2, w, en.en, e1, fun v W1 H1 x1 w1 r1 _ => ?_⟩
      · cases ow.c with
        | lst hh z rr => exact .inl ⟨rfl, _, .of hh⟩
      · have en1 := en.ext x1 w
        have ow1 := ow.ext x1 w
        obtain ⟨b, us, rfl, q1, l1, z1⟩ := r1.lst w1 (show (y.1.top y.2).bind asLst = some zs by rw [e2]; exact e3)
        cases ow1.c with
        | lst hh z rr =>
          rename_i vs
          have hlen := rr.len
          have hlen2 := l1.len
          refine ⟨a, b, vs, us, rfl, rfl, hh, g.K ▸ q1, by rw [← lim_eq]; omega, ?_⟩
          have kpw : Keep W1 H1 W1 (upd H1 a (.lst (vs ++ us))) := ⟨fun _ h => h, fun b u ff h => by rw [upd_ne (show b ≠ a from fun z => ow1.nf (z ▸ ff))]; exact h, [], by simp⟩
          obtain ⟨w2, en2, kp2, x2⟩ := en1.upd w1 hd ha (.lst (ds := xs ++ zs) upd_same (by rw [List.length_append]; omega) ((rr.append l1).keep kpw))
          exact k _ _ _ (x2 (x0.tr x1 w)) ((x1.keep w).trans kp2) w2 en2 rfl
    · cases ee
  · cases ee
theorem s_appPop (g : GX P n cal mak G X) {i j : Nat} {kc : E} {x y nm nm2 : Str} {ap cp ap2 cp2 p1 p2 p3 : Pos} {v : Expr} (hnm : nm = "append") (hnm2 : nm2 = "pop") (h1 : G.N[i]? = some x) (g1 : G.N[j]? = some y) (h2 : visB G.sc x = true) (g2 : visB G.sc y = true) (h3 : nmOk x = true) (g3 : nmOk y = true) (hs : starB v = true)
    (hl : (ap.endLine == cp.line) = true) (gl : (ap2.endLine == cp2.line) = true) (h : PE X v (tE P cal mak kc)) : PS X (.Expr (.Call (.Attribute (.Name x p1) nm ap) [.Call (.Attribute (.Name y p3) nm2 ap2) [v] [] cp2] [] cp) p2) (tS P Wx cal mak (.appPop i j kc)) := by
  obtain ⟨d1, d2, _⟩ := nmOk_of h3
  obtain ⟨f1, f2, _⟩ := nmOk_of g3
  subst hnm
  subst hnm2
  have few : ((backTo cp2 (starEach [v] X.env)).all (fun x => !x.1) && (backToKw cp2 (keywordEach [] X.env)).all (fun x => x.1.isSome) && decide ([v].length + ([] : List Keyword).length + (if ([] : List Keyword).isEmpty then 0 else 1) < 30)) = true := by
    rw [star_cons hs]; rfl
  have inner := pe_bm (apos := ap2) (cpos := cp2) PySem.F.plainAttrs_list PySem.F.slot_list_pop PySem.F.type_list_pop mt_popAt (pe_var (X := X) (i := j) (pos := p3) (by rw [g.N]; exact g1) (g.vis g2) f1 f2) (pa_cons h pa_nil (star_cons hs)) rfl few gl (star_cons hs) rfl
  refine psI (ps_expr (pe_bm PySem.F.plainAttrs_list PySem.F.slot_list_append PySem.F.type_list_append mt_append (pe_var (i := i) (pos := p1) (by rw [g.N]; exact h1) (g.vis h2) d1 d2) (pa_cons inner pa_nil rfl) rfl rfl hl rfl rfl)) fun D σ H ⟨W0, H0, W, ρ, μ, out, x0, w, en, ee, k⟩ => ?_
  unfold ex at ee
  obtain ⟨u, e1, ee⟩ := bind_some' ee
  split at ee
  · rename_i xs ys z hd hd2 hz
    split at ee
    · rename_i hc
      obtain ⟨m, e2, ee⟩ := bind_some' ee
      obtain ⟨dd, e3, ee⟩ := bind_some' ee
      cases ee
      obtain ⟨a, ha, ow⟩ := en.en.ow i _ hd
      obtain ⟨b, hb, owb⟩ := en.en.ow j _ hd2
      have hab : a ≠ b := fun q => hc.1 (en.en.ne i j _ _ a hd hd2 ha (q ▸ hb))
      refine ⟨.ref a, ha, ?_, .ref b, hb, ?_, W, ρ, μ, u.1, u.2, w, en.en, e1, fun v W1 H1 x1 w1 r1 => ?_⟩
      · cases ow.c with
        | lst hh z rr => exact .inl ⟨rfl, _, .of hh⟩
      · cases owb.c with
        | lst hh z rr => exact .inl ⟨rfl, _, .of hh⟩
      · rw [hz] at r1
        cases r1
        have en1 := en.ext x1 w
        have ow1 := ow.ext x1 w
        have owb1 := owb.ext x1 w
        cases owb1.c with
        | @lst vb _ hhb zb rrb =>
          obtain ⟨q1, q2, q3, q4⟩ := ixN_seq e2
          obtain ⟨y0, hy0, ry0⟩ := rrb.get e3
          have hlb := rrb.len
          refine ⟨b, vb, z, m, y0, rfl, rfl, hhb, hc.2.2.1, hc.2.2.2, by rw [hlb]; exact q1, hy0, ?_⟩
          have kpw : Keep W1 H1 W1 (upd H1 b (.lst (vb.eraseIdx m))) := ⟨fun _ h => h, fun c u ff h => by rw [upd_ne (show c ≠ b from fun z => owb1.nf (z ▸ ff))]; exact h, [], by simp⟩
          obtain ⟨w2, en2, kp2, x2⟩ := en1.upd w1 hd2 hb (.lst (ds := ys.eraseIdx m) upd_same (Nat.le_trans (List.length_eraseIdx_le _ _) zb) ((rrb.erase m).keep kpw))
          have hd' : (ρ.set j (.ow (.lst (ys.eraseIdx m))))[i]? = some (.ow (.lst xs)) := by rw [List.getElem?_set_ne (Ne.symm hc.1)]; exact hd
          obtain ⟨a', ha', ow2⟩ := en2.en.ow i _ hd'
          rw [ha] at ha'
          cases ha'
          cases ow2.c with
          | @lst va _ hha za rra =>
            have hla := rra.len
            refine ⟨a, va, y0, rfl, rfl, hha, by rw [← lim_eq]; omega, ?_⟩
            have kpw2 : Keep W1 (upd H1 b (.lst (vb.eraseIdx m))) W1 (upd (upd H1 b (.lst (vb.eraseIdx m))) a (.lst (va ++ [y0]))) := ⟨fun _ h => h, fun c u ff h => by rw [upd_ne (show c ≠ a from fun z => ow2.nf (z ▸ ff))]; exact h, [], by simp⟩
            obtain ⟨w3, en3, kp3, x3⟩ := en2.upd w2 hd' ha (.lst (ds := xs ++ [dd]) upd_same (by rw [List.length_append]; show va.length + 1 ≤ LIM; omega) ((rra.append (.cons (ry0.keep kpw) .nil)).keep kpw2))
            exact k _ _ _ (x3 (x2 (x0.tr x1 w))) (((x1.keep w).trans kp2).trans kp3) w3 en3 rfl
    · cases ee
  · cases ee
theorem s_whl (g : GX P n cal mak G X) {c : E} {b : Ss} {t : Expr} {body : List Stmt} {pos : Pos} (hc : PT X t (tT P cal mak c)) (hb : PSs X body (tSs P Wx cal mak b)) : PS X (.While t body [] pos) (tS P Wx cal mak (.whl c b)) := by
  have hpass : PassesOwn (model X.prog X.w) X.A X.env X.xe := g.pas
  refine psI (ps_while hpass hc hb) fun D σ H ⟨W0, H0, W, ρ, μ, out, x0, w, en, ee, k⟩ => ?_
  unfold ex at ee
  refine ⟨fun m σ2 H2 => ∃ (W2 : Wo) (ρ2 : Rho) (μ2 : Sto), Ext W0 H0 W2 H2 ∧ Keep W H W2 H2 ∧ Wd P W2 H2 μ2 ∧ EnS P H0 W2 H2 σ2 ρ2 ∧ whlL (ev P.T cal mak c) (exs P.T cal mak b) m ρ2 μ2 = some out ∧ σ2[0]? = σ[0]?, ⟨FUEL, W, ρ, μ, x0, .refl, w, en, ee, rfl⟩, ?_⟩
  rintro m σ2 H2 ⟨W2, ρ2, μ2, x2, kp2, w2, en2, hq, z2⟩
  cases m with
  | zero => cases hq
  | succ m =>
    unfold whlL at hq
    obtain ⟨⟨x, μ3⟩, e1, hq⟩ := bind_some' hq
    split at hq
    · rename_i hx
      simp only at hx hq
      subst hx
      obtain ⟨r, hr, hq⟩ := bind_some' hq
      refine ⟨W2, ρ2, μ2, true, μ3, w2, en2.en, e1, fun W3 H3 x3 w3 => iteT ?_⟩
      have kp3 := kp2.trans (x3.keep w2)
      refine ⟨fun σ4 H4 => ∃ (W4 : Wo) (ρ4 : Rho) (μ4 : Sto), Ext W0 H0 W4 H4 ∧ Keep W H W4 H4 ∧ Wd P W4 H4 μ4 ∧ EnS P H0 W4 H4 σ4 ρ4 ∧ whlL (ev P.T cal mak c) (exs P.T cal mak b) m ρ4 μ4 = some out ∧ σ4[0]? = σ[0]?,
        fun σ4 H4 hh => ⟨m, Nat.lt_succ_self _, hh⟩, ?_⟩
      refine ⟨W0, H0, W3, ρ2, μ3, r, x2.tr x3 w2, w3, en2.ext x3 w2, hr, ?_⟩
      cases r with
      | nx ρ5 μ5 => exact fun σ5 W5 H5 x5 kp5 w5 en5 z5 => ⟨W5, ρ5, μ5, x5, kp3.trans kp5, w5, en5, hq, z5.trans z2⟩
      | rt o d' μ5 =>
        cases hq
        exact k
      | xc x5 ρ5 μ5 =>
        cases hq
        exact fun σ5 W5 H5 cls d x5 kp5 w5 en5 z5 r5 => k σ5 W5 H5 cls d x5 (kp3.trans kp5) w5 en5 (z5.trans z2) r5
    · rename_i hx
      simp only at hx hq
      subst hx
      cases hq
      refine ⟨W2, ρ2, μ2, false, μ3, w2, en2.en, e1, fun W3 H3 x3 w3 => iteF ?_⟩
      exact k σ2 W3 H3 (x2.tr x3 w2) (kp2.trans (x3.keep w2)) w3 (en2.ext x3 w2) z2
    · cases hq
theorem s_for (g : GX P n cal mak G X) {tg : Tg} {it : It} {b : Ss} {t iter : Expr} {body : List Stmt} {pos : Pos} (hz : 0 ∉ tg.slots) (hp : plnB iter = true) (ho : ownI it = false) (hi : PI X t iter (tI P cal mak it)) (hg : PG X t (gTg P.K tg)) (hb : PSs X body (tSs P Wx cal mak b)) :
    PS X (.For t iter body [] pos) (tS P Wx cal mak (.for tg it b)) := by
  have hpass : PassesOwn (model X.prog X.w) X.A X.env X.xe := g.pas
  refine psI (ps_for hpass g.calm hi hg hb (plain_fold hp)) fun D σ H ⟨W0, H0, W, ρ, μ, out, x0, w, en, ee, k⟩ => ?_
  unfold ex at ee
  obtain ⟨⟨⟨xs, gd⟩, μ1⟩, e1, ee⟩ := bind_some' ee
  simp only at ee
  refine ⟨W, ρ, μ, xs, gd, μ1, w, en.en, e1, fun W1 H1 J oa x1 w1 hoa _ wk hlim => ?_⟩
  cases hoa ho
  generalize hf : (fun (d : EV.D) (ρ : Rho) (μ : Sto) => (bindTg tg d ρ).bind fun ρ' => exs P.T cal mak b ρ' μ) = f at ee
  refine ⟨fun i m σ2 H2 => m = xs.length - i ∧ i ≤ xs.length ∧ ∃ (W2 : Wo) (ρ2 : Rho) (μ2 : Sto), Ext W0 H0 W2 H2 ∧ Keep W1 H1 W2 H2 ∧ Wd P W2 H2 μ2 ∧ EnS P H0 W2 H2 σ2 ρ2 ∧ forL gd f (xs.drop i) ρ2 μ2 = some out ∧ σ2[0]? = σ[0]?,
    ⟨xs.length, by simp, Nat.zero_le _, W1, ρ, μ1, x0.tr x1 w, .refl, w1, en.ext x1 w, by simpa using ee, rfl⟩, ?_⟩
  rintro i m σ2 H2 ⟨rfl, hi1, W2, ρ2, μ2, x2, kp2, w2, en2, hq, z2⟩
  have kk : PostS P Wx W0 H0 W2 H2 σ2 D out := k.mono ((x1.keep w).trans kp2) z2
  by_cases hlt : i < xs.length
  · right
    rw [List.drop_eq_getElem_cons hlt] at hq
    unfold forL at hq
    split at hq
    · rename_i st
      obtain ⟨go, yl⟩ := (wk i W2 H2 μ2 kp2 (fun _ h => nomatch h) w2 st).1 hlt
      obtain ⟨r, hr, hq⟩ := bind_some' hq
      rw [← hf] at hr
      obtain ⟨ρ', hb1, hr⟩ := bind_some' hr
      refine ⟨go, fun σ3 H3 => ∃ (W3 : Wo) (ρ3 : Rho) (μ3 : Sto), Ext W0 H0 W3 H3 ∧ Keep W1 H1 W3 H3 ∧ Wd P W3 H3 μ3 ∧ EnS P H0 W3 H3 σ3 ρ3 ∧ forL gd f (xs.drop (i + 1)) ρ3 μ3 = some out ∧ σ3[0]? = σ[0]?,
        fun σ3 H3 ⟨W3, ρ3, μ3, y1, y2, y3, y4, y5, y6⟩ => ⟨xs.length - (i + 1), by omega, rfl, hlt, W3, ρ3, μ3, y1, y2, y3, y4, y5, y6⟩, fun x H3 hy => ?_⟩
      obtain ⟨W3, d, x3, w3, hd, rx⟩ := yl x H3 hy
      rw [List.getElem?_eq_getElem hlt] at hd
      cases hd
      have en3 := en2.ext x3 w2
      refine bind_ok hb1 rx en3.en fun σ4 en4 wp os => ?_
      have z4 : σ4[0]? = σ2[0]? := by rw [← wipe_get hz, wp, wipe_get hz]
      have en4' := en3.of en4 os
      refine ⟨W0, H0, W3, ρ', μ2, r, x2.tr x3 w2, w3, en4', hr, ?_⟩
      have kp3 := kp2.trans (x3.keep w2)
      cases r with
      | nx ρ5 μ5 => exact fun σ5 W5 H5 x5 kp5 w5 en5 z5 => ⟨W5, ρ5, μ5, x5, kp3.trans kp5, w5, en5, hq, z5.trans (z4.trans z2)⟩
      | rt o d' μ5 =>
        cases hq
        exact kk
      | xc x5 ρ5 μ5 =>
        cases hq
        exact fun σ5 W5 H5 cls d x5 kp5 w5 en5 z5 r5 => kk σ5 W5 H5 cls d x5 ((x3.keep w2).trans kp5) w5 en5 (z5.trans z4) r5
    · cases hq
  · left
    have e : i = xs.length := by omega
    subst e
    rw [List.drop_length] at hq
    unfold forL at hq
    split at hq
    · rename_i st
      cases hq
      exact ⟨(wk _ W2 H2 μ2 kp2 (fun _ h => nomatch h) w2 st).2 rfl, kk σ2 W2 H2 x2 .refl w2 en2 rfl⟩
    · cases hq
end
end EV

set_option Elab.async false
set_option linter.all false
set_option maxRecDepth 100000
set_option maxHeartbeats 4000000
namespace EV
open PySem PySem.Spec PyProof.Rows L2
section
variable {P : Pl} {Wx : WX} {n : Nat} {cal : Cal} {mak : Mak} {G : Ga} {X : Cx} {W0 W W' W'' : Wo} {H0 H H' H'' : Hp} {μ μ' : Sto} {σ : L2.St} {ρ : Rho}
/-! statements that raise -/
def tXS (P : Pl) (Wx : WX) (cal : Cal) (mak : Mak) (s : S) : TS := fun D σ H => ∃ (W0 : Wo) (H0 : Hp) (W : Wo) (ρ : Rho) (μ : Sto) (x : EV.D) (μ' : Sto), Ext W0 H0 W H ∧ Wd P W H μ ∧ EnS P H0 W H σ ρ ∧ exx P.T cal mak s ρ μ = some (x, μ') ∧ PostS P Wx W0 H0 W H σ D (.xc x ρ μ')
theorem postX_of {x : D} {D' : Ends} (x0 : Ext W0 H0 W H) (w : Wd P W H μ) (en : EnS P H0 W H σ ρ) (k : PostS P Wx W0 H0 W H σ D' (.xc x ρ μ')) : PostX P W H x μ' (WE Wx σ) := fun W1 H1 cls d x1 w1 r => k σ W1 H1 cls d (x0.tr x1 w) (x1.keep w) w1 (en.ext x1 w) rfl r
theorem s_xs {s : S} {st : Stmt} (h : PS X st (tS P Wx cal mak s)) (hx : PS X st (tXS P Wx cal mak s)) : PS X st (tS P Wx cal mak (.xs s)) := ⟨fun pins s0 σ H D I ⟨W0, H0, W, ρ, μ, out, x0, w, en, ee, k⟩ => by
  unfold ex at ee
  split at ee
  · rename_i r e1
    cases ee
    exact h.run pins s0 σ H D I ⟨W0, H0, W, ρ, μ, _, x0, w, en, e1, k⟩
  · obtain ⟨x, e1, e2⟩ := Option.map_eq_some_iff.mp ee
    subst e2
    exact hx.run pins s0 σ H D I ⟨W0, H0, W, ρ, μ, x.1, x.2, x0, w, en, e1, k⟩⟩
theorem xs_none {s : S} {st : Stmt} (h : ∀ ρ μ, exx P.T cal mak s ρ μ = none) : PS X st (tXS P Wx cal mak s) := ⟨fun pins s0 σ H D I ⟨W0, H0, W, ρ, μ, x, μ', x0, w, en, ee, k⟩ => by rw [h] at ee; cases ee⟩
theorem xs_set (g : GX P n cal mak G X) {i : Nat} {e : E} {y : Str} {py spos : Pos} {v : Expr} (h1 : G.N[i]? = some y) (h2 : locB G.sc y = true) (h3 : G.w y = true) (h4 : notLc v = true) (h : PE X v (tXE P cal mak Wx e)) : PS X (.Assign [.Name y py] v spos) (tXS P Wx cal mak (.set i e)) :=
  psI (asg_of g h h1 h2 h3 (lc_swap h4)) fun D σ H ⟨W0, H0, W, ρ, μ, x, μ', x0, w, en, ee, k⟩ => ⟨W, ρ, μ, x, μ', w, en.en, ee, postX_of x0 w en k⟩
theorem xs_setO (g : GX P n cal mak G X) {i : Nat} {o : O} {y : Str} {py spos : Pos} {v : Expr} (h1 : G.N[i]? = some y) (h2 : locB G.sc y = true) (h3 : G.w y = true) (h4 : notLc v = true) (h : PE X v (tXO P cal mak Wx o)) : PS X (.Assign [.Name y py] v spos) (tXS P Wx cal mak (.setO i o)) :=
  psI (asg_of g h h1 h2 h3 (lc_swap h4)) fun D σ H ⟨W0, H0, W, ρ, μ, x, μ', x0, w, en, ee, k⟩ => ⟨W, ρ, μ, x, μ', w, en.en, ee, postX_of x0 w en k⟩
theorem xs_setT (g : GX P n cal mak G X) {l : List Nat} {e : E} {ts : List Expr} {k' : Nat} {tp spos : Pos} {v : Expr} (h1 : notTup v = true) (h2 : notLc v = true) (h3 : chkTs G l ts = true) (h : PE X v (tXE P cal mak Wx e)) : PS X (.Assign [.Tuple ts k' tp] v spos) (tXS P Wx cal mak (.setT l e)) := by
  obtain ⟨a, b, c⟩ := pg_tgs g h3
  exact psI (ps_asg h (pg_seq g.calm a b c) (lc_swap (t := some (.Tuple ts k' tp)) (l := spos.line) (env := X.env) h2) (notTup_st h1)) fun D σ H ⟨W0, H0, W, ρ, μ, x, μ', x0, w, en, ee, k⟩ => ⟨W, ρ, μ, x, μ', w, en.en, ee, postX_of x0 w en k⟩
theorem xs_setA (g : GX P n cal mak G X) {i f : Nat} {e : E} {x nm : Str} {p1 p2 p3 : Pos} {v : Expr} (h1 : G.N[i]? = some x) (h2 : visB G.sc x = true) (h3 : nmOk x = true) (h : PE X v (tXE P cal mak Wx e)) :
    PS X (.Assign [.Attribute (.Name x p1) nm p2] v p3) (tXS P Wx cal mak (.setA i f e)) := by
  obtain ⟨d1, d2, _⟩ := nmOk_of h3
  exact psI (ps_fld (pe_var (i := i) (by rw [g.N]; exact h1) (g.vis h2) d1 d2) h (att_swap _)) fun D σ H ⟨W0, H0, W, ρ, μ, x, μ', x0, w, en, ee, k⟩ => ⟨W, ρ, μ, x, μ', w, en.en, ee, postX_of x0 w en k⟩
theorem xs_ex {e : E} {v : Expr} {pos : Pos} (h4 : notLc v = true) (h : PE X v (tXE P cal mak Wx e)) : PS X (.Expr v pos) (tXS P Wx cal mak (.ex e)) :=
  psI (ps_expr h (lc_swap h4)) fun D σ H ⟨W0, H0, W, ρ, μ, x, μ', x0, w, en, ee, k⟩ => ⟨W, ρ, μ, x, μ', w, en.en, ee, postX_of x0 w en k⟩
theorem xs_ret {e : E} {v : Expr} {pos : Pos} (h : PE X v (tXE P cal mak Wx e)) : PS X (.Return (some v) pos) (tXS P Wx cal mak (.ret e)) :=
  psI (ps_ret h) fun D σ H ⟨W0, H0, W, ρ, μ, x, μ', x0, w, en, ee, k⟩ => ⟨W, ρ, μ, x, μ', w, en.en, ee, postX_of x0 w en k⟩
theorem xs_retO {o : O} {v : Expr} {pos : Pos} (h : PE X v (tXO P cal mak Wx o)) : PS X (.Return (some v) pos) (tXS P Wx cal mak (.retO o)) :=
  psI (ps_ret h) fun D σ H ⟨W0, H0, W, ρ, μ, x, μ', x0, w, en, ee, k⟩ => ⟨W, ρ, μ, x, μ', w, en.en, ee, postX_of x0 w en k⟩
theorem xs_iff {c : E} {a b : Ss} {t : Expr} {x y : List Stmt} {tx ty : TS} {pos : Pos} (hc : PT X t (tXT P cal mak Wx c)) (ha : PSs X x tx) (hb : PSs X y ty) : PS X (.If t x y pos) (tXS P Wx cal mak (.iff c a b)) :=
  psI (ps_if hc ha hb) fun D σ H ⟨W0, H0, W, ρ, μ, x, μ', x0, w, en, ee, k⟩ => ⟨W, ρ, μ, x, μ', w, en.en, ee, postX_of x0 w en k⟩
/-- raise C(..) -/
theorem s_rse (g : GX P n cal mak G X) (tk : L2N.Takes X Wx) {c : Nat} {q : Str × List Nat} {p1 p2 pos : Pos} {t : Str} {j : Nat} (hq : P.T.xcl[c]? = some q) (hx : c ∈ P.T.xpl) (gl : Gl X q.1) (hd : (q.1 == ("__debug__" : Str)) = false) :
    PS X (.Raise (some (.Call (.Name q.1 p1) [.Constant (.str t) j p2] [] pos)) none pos2) (tS P Wx cal mak (.rse c)) := by
  obtain ⟨h1, h2, h3, h4⟩ := g.xf.ex c hx
  have r : Raises X (.ref (P.xa c)) := raises_own (by rw [g.K]; exact h3) (by rw [g.K]; exact h4)
  refine psI (L2N.ps_raise g.calm tk (L2N.pmk_own (C := P.xa c) PySem.F.excBase_ValueError (by rw [g.K]; exact h1) (g.xf.g c q hq) (by rw [g.K]; exact h2) r gl hd)) fun D σ H ⟨W0, H0, W, ρ, μ, out, x0, w, en, ee, k⟩ => ?_
  unfold ex at ee
  cases ee
  exact k σ W H _ none x0 .refl w en rfl ⟨by rw [hq]; rfl, rfl, rfl⟩
/-! except suites -/
def PostH (P : Pl) (xi : Nat) (a : Addr) (W0 : Wo) (H0 : Hp) (W : Wo) (H : Hp) (σ : L2.St) (μ : Sto) (D : Ends) : HOut → Prop
  | .nx ρ' => ∀ σ' W' H', Ext W0 H0 W' H' → Keep W H W' H' → Wd P W' H' μ → EnS P H0 W' H' σ' ρ' → σ'[xi]? = some (some (.ref a)) → σ'[0]? = σ[0]? → D.nx σ' H'
  | .rt d => ∀ v W' H', Ext W0 H0 W' H' → Wd P W' H' μ → Rep P W' H' v d → D.rt v H'
def tHS (P : Pl) (hc : Nat → D → Option D) (xi : Nat) (a : Addr) (x : D) (s : HS) : TS := fun D σ H => ∃ (W0 : Wo) (H0 : Hp) (W : Wo) (ρ : Rho) (μ : Sto) (out : HOut), Ext W0 H0 W H ∧ Wd P W H μ ∧ EnS P H0 W H σ ρ ∧ σ[xi]? = some (some (.ref a)) ∧ hex P.T hc x s ρ = some out ∧ PostH P xi a W0 H0 W H σ μ D out
def tHSs (P : Pl) (hc : Nat → D → Option D) (xi : Nat) (a : Addr) (x : D) (s : HSs) : TS := fun D σ H => ∃ (W0 : Wo) (H0 : Hp) (W : Wo) (ρ : Rho) (μ : Sto) (out : HOut), Ext W0 H0 W H ∧ Wd P W H μ ∧ EnS P H0 W H σ ρ ∧ σ[xi]? = some (some (.ref a)) ∧ hexs P.T hc x s ρ = some out ∧ PostH P xi a W0 H0 W H σ μ D out
theorem PostH.mono {xi : Nat} {a : Addr} {D' : Ends} {σ1 : L2.St} {out : HOut} (kp : Keep W H W' H') (e : σ1[0]? = σ[0]?) (k : PostH P xi a W0 H0 W H σ μ D' out) : PostH P xi a W0 H0 W' H' σ1 μ D' out := by
  cases out with
  | nx ρ' => exact fun σ' W2 H2 x kp2 w en ea e0 => k σ' W2 H2 x (kp.trans kp2) w en ea (e0.trans e)
  | rt d => exact k
variable {hc : Nat → D → Option D} {xi : Nat} {a : Addr} {x : D} {nm : Str}
mutual
theorem sndHS : ∀ (s : HS) {st : Stmt}, HX P G X xi nm a x → chkHS G nm xi s st = true → PS X st (tHS P hc xi a x s)
  | .set i e, st, g, h => by
    unfold chkHS at h
    split at h
    · obtain ⟨h0, h⟩ := ba h
      obtain ⟨h1, h⟩ := ba h
      obtain ⟨h2, h⟩ := ba h
      obtain ⟨h3, h⟩ := ba h
      obtain ⟨h4, h⟩ := ba h
      obtain ⟨h5, h6⟩ := ba h
      refine psI (ps_set (i := i) (by rw [g.N]; exact g.nd) (by rw [g.N]; exact of_decide_eq_true h2) (by rw [g.sc]; exact loc_of h3) (sndH (hc := hc) e g h6).pe (lc_swap h5) (g.st _ h4)) fun D σ H ⟨W0, H0, W, ρ, μ, out, x0, w, en, ea, ee, k⟩ => ?_
      unfold hex at ee
      obtain ⟨d, e1, ee⟩ := bind_some' ee
      split at ee
      · cases ee
        refine ⟨W, ρ, μ, d, w, ⟨en.en, ea⟩, e1, fun v W1 H1 x1 w1 r1 => ?_⟩
        exact k _ W1 H1 (x0.tr x1 w) (x1.keep w) w1 ((en.ext x1 w).setF r1) (by rw [List.getElem?_set_ne (by simpa using h1)]; exact ea) (List.getElem?_set_ne (by simpa using h0))
      · cases ee
    · cases h
  | .iff c b d, st, g, h => by
    unfold chkHS at h
    cases st <;> first | (cases h; done) | skip
    obtain ⟨h1, h⟩ := ba h
    obtain ⟨h2, h3⟩ := ba h
    refine psI (ps_if (sndH (hc := hc) c g h1).pt (sndHSs b g h2) (sndHSs d g h3)) fun D σ H ⟨W0, H0, W, ρ, μ, out, x0, w, en, ea, ee, k⟩ => ?_
    unfold hex at ee
    obtain ⟨y, e1, ee⟩ := bind_some' ee
    split at ee
    · exact ⟨W, ρ, μ, true, w, ⟨en.en, ea⟩, e1, fun W1 H1 x1 w1 => iteT ⟨W0, H0, W1, ρ, μ, out, x0.tr x1 w, w1, en.ext x1 w, ea, ee, k.mono (x1.keep w) rfl⟩⟩
    · exact ⟨W, ρ, μ, false, w, ⟨en.en, ea⟩, e1, fun W1 H1 x1 w1 => iteF ⟨W0, H0, W1, ρ, μ, out, x0.tr x1 w, w1, en.ext x1 w, ea, ee, k.mono (x1.keep w) rfl⟩⟩
    · cases ee
  | .ret e, st, g, h => by
    unfold chkHS at h
    split at h
    · refine psI (ps_ret (sndH (hc := hc) e g h).pe) fun D σ H ⟨W0, H0, W, ρ, μ, out, x0, w, en, ea, ee, k⟩ => ?_
      unfold hex at ee
      obtain ⟨d, e1, ed⟩ := Option.map_eq_some_iff.mp ee
      subst ed
      exact ⟨W, ρ, μ, d, w, ⟨en.en, ea⟩, e1, fun v W1 H1 x1 w1 r1 => k v W1 H1 (x0.tr x1 w) w1 r1⟩
    · cases h
theorem sndHSs : ∀ (s : HSs) {sts : List Stmt}, HX P G X xi nm a x → chkHSs G nm xi s sts = true → PSs X sts (tHSs P hc xi a x s)
  | .nil, sts, g, h => by
    unfold chkHSs at h
    cases sts with
    | nil =>
      refine pssI pss_nil fun D σ H ⟨W0, H0, W, ρ, μ, out, x0, w, en, ea, ee, k⟩ => ?_
      unfold hexs at ee
      cases ee
      exact k _ W H x0 .refl w en ea rfl
    | cons _ _ => cases h
  | .cons s b, sts, g, h => by
    unfold chkHSs at h
    cases sts with
    | nil => cases h
    | cons y ys =>
      obtain ⟨h1, h2⟩ := ba h
      refine pssI (pss_cons (sndHS s g h1) (sndHSs b g h2)) fun D σ H ⟨W0, H0, W, ρ, μ, out, x0, w, en, ea, ee, k⟩ => ?_
      unfold hexs at ee
      obtain ⟨o1, e1, ee⟩ := bind_some' ee
      cases o1 with
      | nx ρ' => exact ⟨W0, H0, W, ρ, μ, _, x0, w, en, ea, e1, fun σ' W1 H1 x1 kp w1 en1 ea1 e0 => ⟨W0, H0, W1, ρ', μ, out, x1, w1, en1, ea1, ee, k.mono kp e0⟩⟩
      | rt d =>
        cases ee
        exact ⟨W0, H0, W, ρ, μ, _, x0, w, en, ea, e1, k⟩
end
/-- a try's body stands where the try stands -/
theorem GX.tr (g : GX P n cal mak G X) {pn : List (Addr × Obj)} {xe : Value → Shared → Prop} (hp : PassesOwn (model X.prog X.w) X.A X.env xe) : GX P n cal mak G (X.tr pn xe) :=
  ⟨g.K, g.T, g.N, g.nd, g.sc, g.kind, g.calm, hp, g.room, g.gd, g.Y, g.tb, g.fr, g.st, g.hcal, g.hmak, g.hcalx, g.hmakx, g.xmak, g.xmakC, g.xf, g.calF, g.calL, g.makL⟩
end
end EV

set_option Elab.async false
set_option linter.all false
set_option maxRecDepth 100000
set_option maxHeartbeats 4000000
namespace EV
open PySem PySem.Spec PyProof.Rows L2
section
variable {P : Pl} {n : Nat} {cal : Cal} {mak : Mak} {G : Ga} {X : Cx} {W0 W W' W'' : Wo} {H0 H H' H'' : Hp} {μ μ' : Sto} {σ : L2.St} {ρ : Rho}
/-- a def's own level -/
structure TK (X : Cx) (Wx : WX) : Prop where
  tk : L2N.Takes X Wx
  hs : X.stack = X.env :: X.outer
  hf : X.env.frame = some X.env.locals
theorem EnS.unS {j : Nat} {v : Option V} (en : EnS P H0 W H σ ρ) : EnS P H0 W H (σ.set j v) (ρ.set j .un) := by
  have e := en.un (j := j)
  have back : ∀ {i : Nat} {s : Slot}, s ≠ .un → (ρ.set j .un)[i]? = some s → (σ.set j v)[i]? = σ[i]? := fun {i s} hs h => by
    rcases set_cases h with ⟨_, q, _⟩ | ⟨hj, _⟩
    · exact absurd q hs
    · exact List.getElem?_set_ne hj
  refine ⟨⟨by rw [List.length_set]; exact e.en.len, fun i d h => ?_, fun i d h => ?_, fun i i' d d' a h1 h2 h3 h4 => ?_⟩, fun i d a h h1 => ?_⟩
  · rw [back (s := .fz d) (fun z => nomatch z) h]; exact e.en.fz i d h
  · rw [back (s := .ow d) (fun z => nomatch z) h]; exact e.en.ow i d h
  · exact e.en.ne i i' d d' a h1 h2 (back (s := .ow d) (fun z => nomatch z) h1 ▸ h3) (back (s := .ow d') (fun z => nomatch z) h2 ▸ h4)
  · exact e.fr i d a h (back (s := .ow d) (fun z => nomatch z) h ▸ h1)
theorem names_of (g : GX P n cal mak G X) {c : Nat} {q : Str × List Nat} (hq : P.T.xcl[c]? = some q) (gl : Gl X q.1) (hd : (q.1 == ("__debug__" : Str)) = false) : Names X q.1 (.ref (P.xa c)) := ⟨gl, hd, .inl (g.xf.g c q hq)⟩
theorem isaX_xm (g : GX P n cal mak G X) {c : Nat} {q : Str × List Nat} (hq : P.T.xcl[c]? = some q) {x : D} {m : Bool} {cls : Value} {d : Option Addr} (h : isaX P.T x c = some m) (r : XR P W H x cls d) : PySem.W.exmOne X.K cls (.ref (P.xa c)) = some m ∧ ∃ k, x = .obj k [] ∧ (P.T.xcl[k]?).isSome = true ∧ cls = .ref (P.xa k) ∧ d = none := by
  unfold XR at r
  split at r
  · rename_i k
    obtain ⟨r1, r2, r3⟩ := r
    obtain ⟨q', hq'⟩ := Option.isSome_iff_exists.mp r1
    unfold isaX at h
    simp only [hq', Option.map_some, Option.some.injEq] at h
    refine ⟨?_, k, rfl, r1, r2, r3⟩
    rw [r2, ← h, g.K]
    exact (g.xf.kk k c q' q hq' hq).2
  · exact r.elim
theorem s_try (g : GX P n cal mak G X) {Wx : WX} (tk : TK X Wx) {b : Ss} {c i : Nat} {h : HSs} {q : Str × List Nat} {nm : Str} {b₀ : Stmt} {body suite : List Stmt} {np pos pos' : Pos} (hq : P.T.xcl[c]? = some q) (gl : Gl X q.1) (hd : (q.1 == ("__debug__" : Str)) = false)
    (hi0 : i ≠ 0) (hi : G.N[i]? = some nm) (hl : G.sc.names.lookup nm = some .local) (hch : chkHs G (some i) h (b₀ :: suite) = true)
    (hb : ∀ (W : WX) (pn : List (Addr × Obj)) (xe : Value → Shared → Prop), L2N.Takes (X.tr pn xe) W → PassesOwn (model X.prog X.w) X.A X.env xe → PSs (X.tr pn xe) body (tSs P W cal mak b)) :
    PS X (.Try body [.ExceptHandler (some (.Name q.1 np)) (some nm) (b₀ :: suite) pos'] [] [] pos) (tS P Wx cal mak (.try b c (some i) h)) := by
  unfold chkHs at hch
  simp only [hi] at hch
  obtain ⟨c1, hch⟩ := ba hch
  obtain ⟨c2, c3⟩ := ba hch
  have hln : X.env.kindOf nm = some .local := by
    show X.env.scope.names.lookup nm = _
    rw [g.sc]; exact hl
  have hsu : ∀ (a : Addr) (oe : Obj) (cls : Value) (d : Option Addr) (pn : List (Addr × Obj)), L2N.Zn cls d oe → (∃ vs, oe.data = .fields vs) → PSs (X.suite a ((a, oe) :: pn)) (b₀ :: suite) (fun D σ H => ∃ k, (P.T.xcl[k]?).isSome = true ∧ cls = .ref (P.xa k) ∧ d = none ∧ tHSs P (hcal P.T) i a (.obj k []) h D σ H) := fun a oe cls d pn hz hf =>
    ⟨fun pins s σ H D I ⟨k, hk, ec, ed, t⟩ => by
      subst ec ed
      have hx : HX P G (X.suite a ((a, oe) :: pn)) i nm a (.obj k []) := ⟨g.K, g.T, g.N, g.nd, g.sc, g.st, g.xf, g.fr, (show X.A.units + 64 < cLine from hu_of' g.room), hi, c1, c2, k, oe, rfl, hk, .head _, hz.zc, hf⟩
      exact (sndHSs (hc := hcal P.T) h hx c3).run pins s σ H D I t⟩
  refine psI (L2N.ps_try_as tk.hs tk.hf (by rw [g.N]; exact g.nd) (by rw [g.N]; exact hi) hln (names_of g hq gl hd) tk.tk hb hsu) fun D σ H ⟨W0, H0, W, ρ, μ, out, x0, w, en, ee, k⟩ => ?_
  unfold ex at ee
  obtain ⟨r, e1, ee⟩ := bind_some' ee
  refine ⟨W0, H0, W, ρ, μ, r, x0, w, en, e1, ?_⟩
  cases r with
  | nx ρ' μ' => cases ee; exact k
  | rt o d μ' => cases ee; exact k
  | xc x ρ' μ' =>
    obtain ⟨m, e2, ee⟩ := bind_some' ee
    intro σ' W' H' cls d x1 kp w1 en1 z1 r
    obtain ⟨hm, kx, rfl, hk, ec, ed⟩ := isaX_xm g hq e2 r
    refine ⟨m, hm, fun hm1 a ha => ?_, fun hm0 => ?_⟩
    · subst hm1
      simp only [if_true] at ee
      split at ee
      case isFalse => cases ee
      rename_i hlt
      obtain ⟨q2, e3, ee⟩ := bind_some' ee
      have en2 : EnS P H0 W' H' (σ'.set i (some (.ref a))) (ρ'.set i .un) := en1.unS
      have ia : (σ'.set i (some (V.ref a)))[i]? = some (some (.ref a)) := by
        refine List.getElem?_set_self ?_
        rw [en1.en.len]
        exact of_decide_eq_true hlt
      refine ⟨kx, hk, ec, ed, W0, H0, W', ρ'.set i .un, μ', q2, x1, w1, en2, ia, e3, ?_⟩
      cases q2 with
      | nx ρ2 =>
        cases ee
        intro σ2 W2 H2 x2 kp2 w2 en3 ea3 e0
        refine k (σ2.set i none) W2 H2 x2 (kp.trans kp2) w2 en3.unS ?_
        rw [List.getElem?_set_ne hi0, e0, List.getElem?_set_ne hi0]
        exact z1
      | rt d2 =>
        cases ee
        exact fun v W2 H2 x2 w2 r2 => k v W2 H2 x2 w2 r2
    · subst hm0
      simp only [Bool.false_eq_true, if_false] at ee
      cases ee
      exact k σ' W' H' cls d x1 kp w1 en1 z1 r
theorem const_rep0 {d : D} {k : Const} (h : constB d k = true) : ∃ v, (∀ (X : Cx) (j : Nat) (pos : Pos), PE X (.Constant k j pos) (tC v)) ∧ ∀ W H, Rep P W H v d := by
  cases d <;> cases k <;> first | (cases h; done) | skip
  · exact ⟨.non, fun _ _ _ => pe_non, fun _ _ => .non⟩
  · have e := eq_of_beq (show (_ == _) = true from h)
    subst e
    exact ⟨_, fun _ _ _ => pe_bl, fun _ _ => .bl _⟩
  · have e := eq_of_beq (show (_ == _) = true from h)
    subst e
    exact ⟨_, fun _ _ _ => pe_int, fun _ _ => .int _⟩
  · obtain ⟨h1, h2⟩ := ba h
    have e := of_decide_eq_true h1
    subst e
    exact ⟨_, fun _ _ _ => pe_str, fun _ _ => .str _ h2⟩
theorem s_try0 (g : GX P n cal mak G X) {Wx : WX} (tk : TK X Wx) {b : Ss} {c : Nat} {h : HSs} {q : Str × List Nat} {b₀ : Stmt} {body suite : List Stmt} {np pos pos' : Pos} (hq : P.T.xcl[c]? = some q) (gl : Gl X q.1) (hd : (q.1 == ("__debug__" : Str)) = false)
    (hch : chkHs G none h (b₀ :: suite) = true)
    (hb : ∀ (W : WX) (pn : List (Addr × Obj)) (xe : Value → Shared → Prop), L2N.Takes (X.tr pn xe) W → PassesOwn (model X.prog X.w) X.A X.env xe → PSs (X.tr pn xe) body (tSs P W cal mak b)) :
    PS X (.Try body [.ExceptHandler (some (.Name q.1 np)) none (b₀ :: suite) pos'] [] [] pos) (tS P Wx cal mak (.try b c none h)) := by
  unfold chkHs at hch
  simp only at hch
  split at hch
  · rename_i d0 c0 j p1 p2 e0
    have e0 := List.cons.inj e0
    obtain ⟨eb, es⟩ := e0
    subst eb es
    obtain ⟨v0, pv, rv⟩ := const_rep0 hch
    have hsu : ∀ (a : Addr) (oe : Obj) (cls : Value) (d : Option Addr) (pn : List (Addr × Obj)), L2N.Zn cls d oe → (∃ vs, oe.data = .fields vs) → PSs (X.suite a ((a, oe) :: pn)) [.Return (some (.Constant c0 j p1)) p2] (fun D σ H => D.rt v0 H) := fun a oe cls d pn hz hf => pssI (pss_one (ps_ret (pv _ j p1))) fun D σ H h => h
    refine psI (L2N.ps_try_many tk.hs tk.hf tk.tk hb (.cons (names_of g hq gl hd) hsu .nil)) fun D σ H ⟨W0, H0, W, ρ, μ, out, x0, w, en, ee, k⟩ => ?_
    unfold ex at ee
    obtain ⟨r, e1, ee⟩ := bind_some' ee
    refine ⟨W0, H0, W, ρ, μ, r, x0, w, en, e1, ?_⟩
    cases r with
    | nx ρ' μ' => cases ee; exact k
    | rt o d μ' => cases ee; exact k
    | xc x ρ' μ' =>
      obtain ⟨m, e2, ee⟩ := bind_some' ee
      intro σ' W' H' cls d x1 kp w1 en1 z1 r
      obtain ⟨hm, kx, rfl, hk, ec, ed⟩ := isaX_xm g hq e2 r
      refine ⟨m, hm, fun hm1 a ha => ?_, fun hm0 => ?_⟩
      · subst hm1
        simp only [if_true] at ee
        split at ee
        case isFalse => cases ee
        unfold hexs hex hev at ee
        simp only [Option.map_some, Option.bind_some] at ee
        cases ee
        exact k v0 W' H' x1 w1 (rv W' H')
      · subst hm0
        simp only [Bool.false_eq_true, if_false] at ee
        cases ee
        exact k σ' W' H' cls d x1 kp w1 en1 z1 r
  · cases hch
mutual
theorem sndS : ∀ (s : S) {Wx : WX} {G : Ga} {X : Cx} {st : Stmt}, GX P n cal mak G X → TK X Wx → chkS G s st = true → PS X st (tS P Wx cal mak s)
  | .set i e, Wx, G, X, st, g, tk, h => by
    unfold chkS at h
    split at h
    · obtain ⟨h0, h⟩ := ba h
      obtain ⟨h1, h⟩ := ba h
      obtain ⟨h2, h⟩ := ba h
      obtain ⟨h3, h⟩ := ba h
      obtain ⟨h4, h5⟩ := ba h
      exact s_set g (by simpa using h0) (of_decide_eq_true h1) h2 h3 h4 (sndE e g h5).pe
    · cases h
  | .setO i o, Wx, G, X, st, g, tk, h => by
    unfold chkS at h
    split at h
    · obtain ⟨h0, h⟩ := ba h
      obtain ⟨h1, h⟩ := ba h
      obtain ⟨h2, h⟩ := ba h
      obtain ⟨h3, h4⟩ := ba h
      exact s_setO g (by simpa using h0) (of_decide_eq_true h1) h2 h3 (sndO o g h4).2
    · cases h
  | .setT l e, Wx, G, X, st, g, tk, h => by
    unfold chkS at h
    split at h
    · obtain ⟨h0, h⟩ := ba h
      obtain ⟨h1, h⟩ := ba h
      obtain ⟨h2, h⟩ := ba h
      obtain ⟨h3, h4⟩ := ba h
      exact s_setT g (by simpa using h0) h1 h2 h3 (sndE e g h4).pe
    · cases h
  | .frz _, Wx, G, X, st, g, tk, h => by
    unfold chkS at h
    cases h
  | .setA i f e, Wx, G, X, st, g, tk, h => by
    unfold chkS at h
    split at h
    · obtain ⟨h1, h⟩ := ba h
      obtain ⟨h2, h⟩ := ba h
      obtain ⟨h3, h⟩ := ba h
      obtain ⟨h4, h6⟩ := ba h
      exact s_setA g (of_decide_eq_true h1) h2 h3 (of_decide_eq_true h4) (sndE e g h6).pe
    · cases h
  | .setIx a k e, Wx, G, X, st, g, tk, h => by
    unfold chkS at h
    split at h
    · obtain ⟨h1, h⟩ := ba h
      obtain ⟨h0, h⟩ := ba h
      obtain ⟨h2, h⟩ := ba h
      obtain ⟨h3, h4⟩ := ba h
      exact s_setIx g h1 h0 (sndE e g h2).pe (sndE a g h3).pe (sndE k g h4).pe
    · cases h
  | .appE a e, Wx, G, X, st, g, tk, h => by
    unfold chkS at h
    split at h
    · obtain ⟨h0, h⟩ := ba h
      obtain ⟨h1, h⟩ := ba h
      obtain ⟨h2, h⟩ := ba h
      obtain ⟨h3, h⟩ := ba h
      obtain ⟨h4, h5⟩ := ba h
      exact s_appE g (of_decide_eq_true h0) h1 h2 h3 (sndE a g h4).pe (sndE e g h5).pe
    · cases h
  | .remE a e, Wx, G, X, st, g, tk, h => by
    unfold chkS at h
    split at h
    · obtain ⟨h0, h⟩ := ba h
      obtain ⟨h1, h⟩ := ba h
      obtain ⟨h2, h⟩ := ba h
      obtain ⟨h3, h⟩ := ba h
      obtain ⟨h4, h5⟩ := ba h
      exact s_remE g (of_decide_eq_true h0) h1 h2 h3 (sndE a g h4).pe (sndE e g h5).pe
    · cases h
  | .dputE a k e, Wx, G, X, st, g, tk, h => by
    unfold chkS at h
    split at h
    · obtain ⟨h0, h⟩ := ba h
      obtain ⟨h1, h⟩ := ba h
      obtain ⟨h2, h⟩ := ba h
      obtain ⟨h3, h⟩ := ba h
      obtain ⟨h4, h5⟩ := ba h
      exact s_dputE g (tupc g h0) h1 (sndE e g h3).pe (sndE a g h4).pe (sndE k g h5).pe
    · cases h
  | .app i e, Wx, G, X, st, g, tk, h => by
    unfold chkS at h
    split at h
    · obtain ⟨h0, h⟩ := ba h
      obtain ⟨h1, h⟩ := ba h
      obtain ⟨h2, h⟩ := ba h
      obtain ⟨h3, h⟩ := ba h
      obtain ⟨h4, h⟩ := ba h
      obtain ⟨h5, h6⟩ := ba h
      exact s_app g (of_decide_eq_true h0) (of_decide_eq_true h1) h2 h3 h4 h5 (sndE e g h6).pe
    · cases h
  | .ex e, Wx, G, X, st, g, tk, h => by
    unfold chkS at h
    cases st <;> first | (cases h; done) | skip
    obtain ⟨h1, h2⟩ := ba h
    exact s_ex h1 (sndE e g h2).pe
  | .ret e, Wx, G, X, st, g, tk, h => by
    unfold chkS at h
    split at h
    · exact s_ret (sndE e g h).pe
    · cases h
  | .retO o, Wx, G, X, st, g, tk, h => by
    unfold chkS at h
    split at h
    · exact s_retO (sndO o g h).1
    · cases h
  | .retS i, Wx, G, X, st, g, tk, h => by
    unfold chkS at h
    split at h
    · obtain ⟨h1, h⟩ := ba h
      obtain ⟨h2, h3⟩ := ba h
      exact s_retS g (of_decide_eq_true h1) h2 h3
    · cases h
  | .ret0, Wx, G, X, st, g, tk, h => by
    unfold chkS at h
    split at h
    · exact s_ret0
    · cases h
  | .iff c a b, Wx, G, X, st, g, tk, h => by
    unfold chkS at h
    cases st <;> first | (cases h; done) | skip
    obtain ⟨h1, h⟩ := ba h
    obtain ⟨h2, h3⟩ := ba h
    exact s_iff (sndE c g h1).pt (sndSs a g tk h2) (sndSs b g tk h3)
  | .for tg it b, Wx, G, X, st, g, tk, h => by
    unfold chkS at h
    split at h
    · obtain ⟨h0, h⟩ := ba h
      obtain ⟨h1, h⟩ := ba h
      obtain ⟨h2, h⟩ := ba h
      obtain ⟨h3, h⟩ := ba h
      obtain ⟨h4, h5⟩ := ba h
      exact s_for g (by simpa using h0) h1 (by simpa using h2) (sndI it g (ba h3).1 (ba h3).2) (pg_tg g h4) (sndSs b g tk h5)
    · cases h
  | .ext i a, Wx, G, X, st, g, tk, h => by
    unfold chkS at h
    split at h
    · obtain ⟨h1, h⟩ := ba h
      obtain ⟨h2, h⟩ := ba h
      obtain ⟨h3, h⟩ := ba h
      obtain ⟨h4, h⟩ := ba h
      obtain ⟨h5, h⟩ := ba h
      obtain ⟨h6, h7⟩ := ba h
      exact s_ext g (of_decide_eq_true h1) (of_decide_eq_true h2) h3 h4 h5 h6 (sndR a g h7)
    · cases h
  | .appPop i j k, Wx, G, X, st, g, tk, h => by
    unfold chkS at h
    split at h
    · obtain ⟨h1, h⟩ := ba h
      obtain ⟨h2, h⟩ := ba h
      obtain ⟨h3, h⟩ := ba h
      obtain ⟨h4, h⟩ := ba h
      obtain ⟨h5, h⟩ := ba h
      obtain ⟨h6, h⟩ := ba h
      obtain ⟨h7, h⟩ := ba h
      obtain ⟨h8, h⟩ := ba h
      obtain ⟨h9, h⟩ := ba h
      obtain ⟨ha, h⟩ := ba h
      obtain ⟨hb, hc⟩ := ba h
      exact s_appPop g (of_decide_eq_true h1) (of_decide_eq_true h2) (of_decide_eq_true h3) (of_decide_eq_true h4) h5 h6 h7 h8 h9 ha hb (sndE k g hc).pe
    · cases h
  | .dput i k e, Wx, G, X, st, g, tk, h => by
    unfold chkS at h
    split at h
    · obtain ⟨h1, h⟩ := ba h
      obtain ⟨h2, h⟩ := ba h
      obtain ⟨h3, h⟩ := ba h
      obtain ⟨h4, h⟩ := ba h
      obtain ⟨h5, h⟩ := ba h
      obtain ⟨h6, h⟩ := ba h
      obtain ⟨h7, h8⟩ := ba h
      exact s_dput g (tupc g h1) (of_decide_eq_true h2) h3 h4 h5 (sndE e g h7).pe (sndE k g h8).pe
    · cases h
  | .mv i j, Wx, G, X, st, g, tk, h => by
    unfold chkS at h
    split at h
    · obtain ⟨h1, h⟩ := ba h
      obtain ⟨h2, h⟩ := ba h
      obtain ⟨h3, h⟩ := ba h
      obtain ⟨h4, h⟩ := ba h
      obtain ⟨h5, h⟩ := ba h
      obtain ⟨h6, h7⟩ := ba h
      exact s_mv g (of_decide_eq_true h2) (of_decide_eq_true h3) h4 h5 h6 h7 (by simpa using h1)
    · cases h
  | .whl c b, Wx, G, X, st, g, tk, h => by
    unfold chkS at h
    split at h
    · obtain ⟨h1, h2⟩ := ba h
      exact s_whl g (sndE c g h1).pt (sndSs b g tk h2)
    · cases h
  | .pas, Wx, G, X, st, g, tk, h => by
    unfold chkS at h
    cases st <;> first | (cases h; done) | skip
    exact s_pas
  | .bad, Wx, G, X, st, g, tk, h => s_bad
  | .xs s, Wx, G, X, st, g, tk, h => by
    unfold chkS at h
    obtain ⟨hx, h2⟩ := ba h
    clear h
    have h := h2
    clear h2
    have main := sndS s g tk h
    refine s_xs main ?_
    cases s <;> first | (cases hx; done) | skip
    case set i e =>
      unfold chkS at h
      split at h
      · obtain ⟨h0, h⟩ := ba h
        obtain ⟨h1, h⟩ := ba h
        obtain ⟨h2, h⟩ := ba h
        obtain ⟨h3, h⟩ := ba h
        obtain ⟨h4, h5⟩ := ba h
        exact xs_set g (of_decide_eq_true h1) h2 h3 h4 (sndXE tk.tk e g h5).pe
      · cases h
    case setO i o =>
      unfold chkS at h
      split at h
      · obtain ⟨h0, h⟩ := ba h
        obtain ⟨h1, h⟩ := ba h
        obtain ⟨h2, h⟩ := ba h
        obtain ⟨h3, h4⟩ := ba h
        cases o <;> first | exact xs_none (fun ρ μ => by unfold exx evxO; rfl) | skip
        all_goals
          refine xs_setO g (of_decide_eq_true h1) h2 h3 ?_ (sndXO tk.tk _ g h4)
          unfold chkO at h4
          split at h4 <;> first | rfl | cases h4
      · cases h
    case setT l e =>
      unfold chkS at h
      split at h
      · obtain ⟨h0, h⟩ := ba h
        obtain ⟨h1, h⟩ := ba h
        obtain ⟨h2, h⟩ := ba h
        obtain ⟨h3, h4⟩ := ba h
        exact xs_setT g h1 h2 h3 (sndXE tk.tk e g h4).pe
      · cases h
    case setA i f e =>
      unfold chkS at h
      split at h
      · obtain ⟨h1, h⟩ := ba h
        obtain ⟨h2, h⟩ := ba h
        obtain ⟨h3, h⟩ := ba h
        obtain ⟨h4, h6⟩ := ba h
        exact xs_setA g (of_decide_eq_true h1) h2 h3 (sndXE tk.tk e g h6).pe
      · cases h
    case ex e =>
      unfold chkS at h
      cases st <;> first | (cases h; done) | skip
      obtain ⟨h1, h2⟩ := ba h
      exact xs_ex h1 (sndXE tk.tk e g h2).pe
    case ret e =>
      unfold chkS at h
      split at h
      · exact xs_ret (sndXE tk.tk e g h).pe
      · cases h
    case retO o =>
      unfold chkS at h
      split at h
      · exact xs_retO (sndXO tk.tk o g h)
      · cases h
    case iff c a b =>
      unfold chkS at h
      cases st <;> first | (cases h; done) | skip
      obtain ⟨h1, h⟩ := ba h
      exact xs_iff (sndXE tk.tk c g h1).pt (pss_never) (pss_never)
  | .rse c, Wx, G, X, st, g, tk, h => by
    unfold chkS at h
    split at h
    · obtain ⟨h1, h⟩ := ba h
      obtain ⟨h2, h⟩ := ba h
      obtain ⟨h3, h4⟩ := ba h
      split at h2
      · rename_i q hq
        have e := of_decide_eq_true h2
        subst e
        rw [g.T] at hq h1
        exact s_rse g tk.tk hq (by simpa using h1) (g.gl h3) (nmOk_of h4).1
      · cases h2
    · cases h
  | .try b c i hh, Wx, G, X, st, g, tk, h => by
    unfold chkS at h
    split at h
    · obtain ⟨h2, h⟩ := ba h
      obtain ⟨h3, h⟩ := ba h
      obtain ⟨h4, h⟩ := ba h
      obtain ⟨h5, h⟩ := ba h
      obtain ⟨h6, h7⟩ := ba h
      split at h2
      · rename_i q hq
        have e := of_decide_eq_true h2
        subst e
        rw [g.T] at hq
        have body := fun (W : WX) (pn : List (Addr × Obj)) (xe : Value → Shared → Prop) (tk2 : L2N.Takes (X.tr pn xe) W) (hp : PassesOwn (model X.prog X.w) X.A X.env xe) => sndSs b (Wx := W) (g.tr (pn := pn) hp) ⟨tk2, tk.hs, tk.hf⟩ h5
        split at h7
        · obtain ⟨z1, h7⟩ := ba h7
          obtain ⟨z2, z3⟩ := ba h7
          exact s_try g tk hq (g.gl h3) (nmOk_of h4).1 (by simpa using z1) (of_decide_eq_true z2) (of_decide_eq_true z3) h6 body
        · exact s_try0 g tk hq (g.gl h3) (nmOk_of h4).1 h6 body
        · cases h7
      · cases h2
    · cases h
theorem sndSs : ∀ (b : Ss) {Wx : WX} {G : Ga} {X : Cx} {xs : List Stmt}, GX P n cal mak G X → TK X Wx → chkSs G b xs = true → PSs X xs (tSs P Wx cal mak b)
  | .nil, Wx, G, X, xs, g, tk, h => by
    unfold chkSs at h
    cases xs with
    | nil => exact s_nil
    | cons _ _ => cases h
  | .cons s b, Wx, G, X, xs, g, tk, h => by
    unfold chkSs at h
    split at h
    · exact s_frz (sndSs b g tk h)
    · split at h
      · obtain ⟨h1, h2⟩ := ba h
        exact s_cons (sndS s g tk h1) (sndSs b g tk h2)
      · cases h
end
end
end EV

set_option Elab.async false
set_option linter.all false
set_option maxRecDepth 100000
set_option maxHeartbeats 1000000
namespace EV
open PySem PySem.Spec PyProof.Rows L2
/-! binding -/
theorem lk_zip {α : Type} : ∀ {ps : List Str} {us : List α} {i : Nat} {n : Str} {u : α}, ps.Nodup → ps[i]? = some n → us[i]? = some u → (ps.zip us).lookup n = some u
  | [], _, _, _, _, _, h, _ => by simp at h
  | _ :: _, [], _, _, _, _, _, h => by simp at h
  | p :: ps, v :: us, 0, n, u, nd, h1, h2 => by
    simp at h1 h2; subst h1; subst h2
    simp [List.lookup]
  | p :: ps, v :: us, i + 1, n, u, nd, h1, h2 => by
    simp at h1 h2
    have hne : n ≠ p := fun z => (List.nodup_cons.mp nd).1 (z ▸ List.mem_of_getElem? h1)
    rw [List.zip_cons_cons, List.lookup_cons]
    rw [show (n == p) = false from by simpa using hne]
    exact lk_zip (List.nodup_cons.mp nd).2 h1 h2
theorem lk_mem {α : Type} {ps : List Str} {us : List α} {n : Str} (nd : ps.Nodup) (hl : us.length = ps.length) (h : n ∈ ps) : ((ps.zip us).lookup n).isSome = true := by
  obtain ⟨i, hi⟩ := List.mem_iff_getElem?.mp h
  have : i < us.length := by rw [hl]; exact (List.getElem?_eq_some_iff.mp hi).1
  rw [lk_zip nd hi (List.getElem?_eq_getElem this)]
  rfl
theorem fm_zip {α : Type} {ps : List Str} {us : List α} (nd : ps.Nodup) (hl : us.length = ps.length) : (ps.filterMap fun n => ((ps.zip us).lookup n).map (n, ·)) = ps.zip us := by
  have key : ∀ (qs : List Str) (vs : List α) (full : List (Str × α)), vs.length = qs.length → (∀ (i : Nat) (n : Str) (u : α), qs[i]? = some n → vs[i]? = some u → full.lookup n = some u) → (qs.filterMap fun n => (full.lookup n).map (n, ·)) = qs.zip vs := by
    intro qs
    induction qs with
    | nil => intro vs full _ _; rfl
    | cons q qs ih =>
      intro vs full hl h
      cases vs with
      | nil => cases hl
      | cons v vs =>
        rw [List.filterMap_cons, h 0 q v rfl rfl]
        show (q, v) :: _ = (q, v) :: _
        rw [ih vs full (by simpa using hl) fun i n u h1 h2 => h (i + 1) n u h1 h2]
        rfl
  exact key ps us _ hl fun i n u h1 h2 => lk_zip nd h1 h2
theorem bind_plain {x qual : Str} {body : List Stmt} {sc : Scope} {kV doc pm cdv ct : Value} {an : Option Addr} {args : List Arg} {kd : List (Option Expr)} {df : List Expr} {us : List Value} (nd : (args.map (·.arg)).Nodup) (hl : us.length = (args.map (·.arg)).length) :
    bindArgs (PySem.W.fnOf x qual ⟨[], args, none, [], kd, none, df⟩ body sc .none kV doc pm an cdv ct) ⟨us, []⟩ = pure ((args.map (·.arg)).zip us) := by
  unfold bindArgs PySem.W.fnOf
  simp only [List.map_nil, List.nil_append]
  generalize args.map (·.arg) = ps at nd hl ⊢
  have e1 : (ps.filter fun n => ((ps.zip us).lookup n).isNone) = [] := by
    rw [List.filter_eq_nil_iff]
    intro a ha
    have := lk_mem nd hl ha
    cases h : (ps.zip us).lookup a with
    | none => rw [h] at this; cases this
    | some _ => simp
  have e2 := fm_zip nd hl
  have e3 : notAStandIn Value.none = pure () := rfl
  simp [seqItems?, hl, e1, e2, e3]

/-! a def -/
def okFn (T : Tab) (F : Fn) : Bool :=
  decide (F.d.scope.kind = .function) && (!F.d.scope.isCoroutine && (!F.d.scope.isGenerator && (decide F.N.Nodup && (decide (F.N.take F.ps.length = F.ps) && (F.ps.all (locB F.d.scope) && (F.d.scope.names.all (fun y => decide (y.2 ≠ .free)) &&
    ((match F.d.params with
      | ⟨[], args, none, [], _, none, _⟩ => decide (args.map (·.arg) = F.ps)
      | _ => false) && chkSs ⟨T, F.N, F.d.scope, fun _ => true⟩ F.code F.d.body)))))))
structure OkFn (T : Tab) (F : Fn) : Prop where
  sc : FnScope F.N F.ps F.d.scope
  par : ∃ args kd df, F.d.params = ⟨[], args, none, [], kd, none, df⟩ ∧ args.map (·.arg) = F.ps
  body : chkSs ⟨T, F.N, F.d.scope, fun _ => true⟩ F.code F.d.body = true
theorem okFn_of {T : Tab} {F : Fn} (h : okFn T F = true) : OkFn T F := by
  unfold okFn at h
  obtain ⟨h1, h⟩ := ba h
  obtain ⟨h2, h⟩ := ba h
  obtain ⟨h3, h⟩ := ba h
  obtain ⟨h4, h⟩ := ba h
  obtain ⟨h5, h⟩ := ba h
  obtain ⟨h6, h⟩ := ba h
  obtain ⟨h7, h⟩ := ba h
  obtain ⟨h8, h9⟩ := ba h
  refine ⟨⟨of_decide_eq_true h1, by simpa using h2, by simpa using h3, of_decide_eq_true h4, of_decide_eq_true h5, fun x hx => loc_of (List.all_eq_true.mp h6 x hx), fun y hy => of_decide_eq_true (List.all_eq_true.mp h7 y hy)⟩, ?_, h9⟩
  generalize F.d.params = q at h8 ⊢
  split at h8
  · exact ⟨_, _, _, rfl, of_decide_eq_true h8⟩
  · cases h8
theorem OkFn.ndps {T : Tab} {F : Fn} (o : OkFn T F) : F.ps.Nodup := by rw [← o.sc.pre]; exact o.sc.nd.sublist (List.take_sublist _ _)
theorem OkFn.len {T : Tab} {F : Fn} (o : OkFn T F) : F.ps.length ≤ F.N.length := by have := congrArg List.length o.sc.pre; rw [List.length_take] at this; omega
section
variable {P : Pl} {Pr : Program} {w : World} {mg : Str → Option Value} {base : Heap}
theorem OkFn.binds {F : Fn} {f : Addr} {fd : FuncData} (o : OkFn P.T F) (h : FunD P.K F.d.name F.d.qual F.d.params F.d.body F.d.scope [] [] f fd) : Binds P.K fd F.ps [] := by
  obtain ⟨args, kd, df, e1, e2⟩ := o.par
  have nd := o.ndps
  refine h.bindsN fun kV doc pm an cdv ct us hl => ?_
  rw [e1, ← e2]
  rw [← e2] at nd hl
  exact bind_plain nd hl
/-- few enough defs and classes -/
def Tab.small (T : Tab) : Bool := decide (T.cls.length + T.gcl.length ≤ XOFF) && decide (T.fns.length ≤ XOFF)
theorem Tab.cl_big {T : Tab} (h : T.small = true) (k : Nat) : T.cl (XOFF + k) = none := by
  have h1 := of_decide_eq_true (ba h).1
  unfold Tab.cl
  rw [List.getElem?_eq_none (by omega)]
  exact List.getElem?_eq_none (by omega)
theorem sem_x {T : Tab} (h : T.small = true) (m k : Nat) (ds : List D) (μ : Sto) : (sem T (m + 1)).2 (XOFF + k) ds μ = mkX T (sem T m).1 (sem T m).2 (XOFF + k) ds μ := by
  show (match T.cl (XOFF + k) with | some _ => mkC T (sem T m).1 (sem T m).2 (XOFF + k) ds μ | none => mkX T (sem T m).1 (sem T m).2 (XOFF + k) ds μ) = _
  rw [Tab.cl_big h]
theorem mkX_fn {T : Tab} (h : T.small = true) {f : Nat} {F : Fn} (hF : T.fns[f]? = some F) {cal : Cal} {mak : Mak} {ds : List D} {μ : Sto} : mkX T cal mak (XOFF + f) ds μ = runX T cal mak F ds μ := by
  have h1 := of_decide_eq_true (ba h).2
  have h2 := (List.getElem?_eq_some_iff.mp hF).1
  unfold mkX
  rw [if_pos (by omega), Nat.add_sub_cancel_left, Tab.fn_of hF]
  rfl
theorem mkX_cl {T : Tab} {c : Nat} {k : Cl} {F : Fn} (hk : T.cls[c]? = some k) (hF : T.fns[k.init]? = some F) {cal : Cal} {mak : Mak} {ds : List D} {μ : Sto} : mkX T cal mak (2 * XOFF + c) ds μ = runIX T cal mak F c ds μ := by
  unfold mkX
  rw [if_neg (by omega), Nat.add_sub_cancel_left, Tab.cl_of hk]
  show (T.fn k.init).bind _ = _
  rw [Tab.fn_of hF]
  rfl
theorem sem_mk {T : Tab} {c : Nat} {k : Cl} (hk : T.cls[c]? = some k) (m : Nat) (ds : List D) (μ : Sto) : (sem T (m + 1)).2 c ds μ = mkC T (sem T m).1 (sem T m).2 c ds μ := by
  show (match T.cl c with | some _ => mkC T (sem T m).1 (sem T m).2 c ds μ | none => mkX T (sem T m).1 (sem T m).2 c ds μ) = _
  rw [Tab.cl_of hk]
theorem sem_xc {T : Tab} (h : T.small = true) (m k : Nat) (ds : List D) (μ : Sto) : (sem T (m + 1)).2 (2 * XOFF + k) ds μ = mkX T (sem T m).1 (sem T m).2 (2 * XOFF + k) ds μ := by
  have := sem_x h m (XOFF + k) ds μ
  rw [show XOFF + (XOFF + k) = 2 * XOFF + k by omega] at this
  exact this
/-- all calls of depth n are as said -/
structure Lvl (P : Pl) (Pr : Program) (w : World) (mg : Str → Option Value) (base : Heap) (m : Nat) : Prop where
  cal : ∀ (f : Nat) (F : Fn), P.T.fns[f]? = some F → ∀ fd, FunD P.K F.d.name F.d.qual F.d.params F.d.body F.d.scope [] [] (P.fa f) fd → FnG Pr w P.K mg base CX0 (2 * m) (P.fa f) fd F.ps (spF P F.ps.length (sem P.T m).1 f) ∧ Binds P.K fd F.ps []
  mak : ∀ (c : Nat) (k : Cl) (F : Fn), P.T.cls[c]? = some k → P.T.fns[k.init]? = some F → ∃ fd, FnG Pr w P.K mg base CX0 (2 * m) (P.fa k.init) fd F.ps (spM P F.ps.length (sem P.T m).2 c) ∧ Binds P.K fd F.ps []
  calx : ∀ (f : Nat) (F : Fn), P.T.fns[f]? = some F → ∀ fd, FunD P.K F.d.name F.d.qual F.d.params F.d.body F.d.scope [] [] (P.fa f) fd → FnG Pr w P.K mg base (L2N.CX Pr w) (2 * m) (P.fa f) fd F.ps (spX P F.ps.length (sem P.T m).2 f) ∧ Binds P.K fd F.ps []
  makx : ∀ (c : Nat) (k : Cl) (F : Fn), P.T.cls[c]? = some k → P.T.fns[k.init]? = some F → ∃ fd, FnG Pr w P.K mg base (L2N.CX Pr w) (2 * m) (P.fa k.init) fd F.ps (spMX P F.ps.length (sem P.T m).2 c) ∧ Binds P.K fd F.ps []
theorem calL_sem (m : Nat) (f : Nat) (F : Fn) (ds : List D) (μ : Sto) (r : (Bool × D) × Sto) (h : P.T.fns[f]? = some F) (e : (sem P.T m).1 f ds μ = some r) : ds.length = F.ps.length := by
  cases m with
  | zero => cases e
  | succ m =>
    have e : (P.T.fn f).bind (fun F => runF P.T (sem P.T m).1 (sem P.T m).2 F ds μ) = some r := e
    rw [Tab.fn_of h] at e
    have e : runF P.T (sem P.T m).1 (sem P.T m).2 F ds μ = some r := e
    unfold runF at e
    split at e
    · rename_i hc; exact hc.1
    · cases e
theorem calF_sem (m : Nat) (f : Nat) (ds : List D) (μ : Sto) (r : (Bool × D) × Sto) (e : (sem P.T m).1 f ds μ = some r) : ∃ F, P.T.fn f = some F ∧ F.ini = false := by
  cases m with
  | zero => cases e
  | succ m =>
    obtain ⟨F, h, e⟩ := bind_some' (show (P.T.fn f).bind (fun F => runF P.T (sem P.T m).1 (sem P.T m).2 F ds μ) = some r from e)
    unfold runF at e
    split at e
    · rename_i hc; exact ⟨F, h, hc.2⟩
    · cases e
theorem makL_sem (m : Nat) (c : Nat) (k : Cl) (F : Fn) (ds : List D) (μ : Sto) (r : D × Sto) (h1 : P.T.cls[c]? = some k) (h2 : P.T.fns[k.init]? = some F) (e : (sem P.T m).2 c ds μ = some r) : ds.length + 1 = F.ps.length := by
  cases m with
  | zero => cases e
  | succ m =>
    rw [sem_mk h1] at e
    unfold mkC at e
    rw [Tab.cl_of h1] at e
    have e : (P.T.fn k.init).bind (fun F => runI P.T (sem P.T m).1 (sem P.T m).2 F c ds μ) = some r := e
    rw [Tab.fn_of h2] at e
    have e : runI P.T (sem P.T m).1 (sem P.T m).2 F c ds μ = some r := e
    unfold runI at e
    split at e
    · rename_i hc; exact hc.1
    · cases e
theorem xmak_sem (sm : P.T.small = true) (m : Nat) (f : Nat) (F : Fn) (ds : List D) (μ : Sto) (r : D × Sto) (h : P.T.fns[f]? = some F) (e : (sem P.T m).2 (XOFF + f) ds μ = some r) : ds.length = F.ps.length ∧ F.ini = false := by
  cases m with
  | zero => cases e
  | succ m =>
    rw [sem_x sm, mkX_fn sm h] at e
    unfold runX at e
    split at e
    · assumption
    · cases e
theorem xmakC_sem (sm : P.T.small = true) (m : Nat) (c : Nat) (k : Cl) (F : Fn) (ds : List D) (μ : Sto) (r : D × Sto) (h1 : P.T.cls[c]? = some k) (h2 : P.T.fns[k.init]? = some F) (e : (sem P.T m).2 (2 * XOFF + c) ds μ = some r) : ds.length + 1 = F.ps.length := by
  cases m with
  | zero => cases e
  | succ m =>
    rw [sem_xc sm, mkX_cl h1 h2] at e
    unfold runIX at e
    split at e
    · rename_i hc; exact hc.1
    · cases e
theorem gx_x {m : Nat} (sm : P.T.small = true) (XX : XF P mg) (L : Lvl P Pr w mg base m) (Y : Facts P mg) (Z : TabF P w mg) (fr : ∀ x ∈ bltNames, mg x = none) {F : Fn} (o : OkFn P.T F) {f : Addr} {cdv : Value} {A : Around} {outer : List PySem.Env} {s : Shared} {H : Hp} {E : XK}
    (hc : Calm A) (hr : Room (2 * m + 1) (A.deeper (envOfC F.d.qual F.d.scope s.heap.objs.size f cdv))) :
    GX P (2 * m) (sem P.T m).1 (sem P.T m).2 ⟨P.T, F.N, F.d.scope, fun _ => true⟩ (cxOf (L2N.CX Pr w) Pr w P.K mg base F.N F.d.qual F.d.scope f cdv A outer s H E) where
  K := rfl
  T := rfl
  N := rfl
  nd := o.sc.nd
  sc := rfl
  kind := o.sc.kind
  calm := rfl
  pas := passes_of (X := cxOf (L2N.CX Pr w) Pr w P.K mg base F.N F.d.qual F.d.scope f cdv A outer s H E) rfl
  room := hr
  Y := Y
  tb := Z
  xf := XX
  fr := fr
  st := fun x _ => .inl rfl
  gd := hc
  hcal := fun f F h _ => by
    obtain ⟨fd, hf⟩ := Y.fn f F h
    exact ⟨fd, L.cal f F h fd hf⟩
  hmak := fun c k F h1 _ h2 => L.mak c k F h1 h2
  hcalx := fun f F h _ => by
    obtain ⟨fd, hf⟩ := Y.fn f F h
    exact ⟨fd, L.calx f F h fd hf⟩
  hmakx := fun c k F h1 _ h2 => L.makx c k F h1 h2
  xmak := xmak_sem sm m
  xmakC := xmakC_sem sm m
  calL := calL_sem m
  calF := calF_sem m
  makL := makL_sem m
theorem tk_x {N : List Str} {qual : Str} {scope : Scope} {K : PySem.W.Frag} {f : Addr} {cdv : Value} {A : Around} {outer : List PySem.Env} {s : Shared} {H : Hp} {E : XK} : TK (cxOf (L2N.CX Pr w) Pr w K mg base N qual scope f cdv A outer s H E) (fun cls d _ H => E cls d H) := ⟨L2N.takes_of rfl rfl rfl rfl, rfl, rfl⟩
theorem tk_0 {N : List Str} {qual : Str} {scope : Scope} {K : PySem.W.Frag} {f : Addr} {cdv : Value} {A : Around} {outer : List PySem.Env} {s : Shared} {H : Hp} {E : XK} : TK (cxOf CX0 Pr w K mg base N qual scope f cdv A outer s H E).nox (fun _ _ _ _ => False) := ⟨fun _ _ ⟨_, _, _, _, _, _, _, _, _, _, _, _, _, _, _, _, z⟩ => z.elim, rfl, rfl⟩
theorem gx_of {m : Nat} (sm : P.T.small = true) (XX : XF P mg) (L : Lvl P Pr w mg base m) (Y : Facts P mg) (Z : TabF P w mg) (fr : ∀ x ∈ bltNames, mg x = none) {F : Fn} (o : OkFn P.T F) {f : Addr} {cdv : Value} {A : Around} {outer : List PySem.Env} {s : Shared} {H : Hp} {E : XK}
    (hc : Calm A) (hr : Room (2 * m + 1) (A.deeper (envOfC F.d.qual F.d.scope s.heap.objs.size f cdv))) :
    GX P (2 * m) (sem P.T m).1 (sem P.T m).2 ⟨P.T, F.N, F.d.scope, fun _ => true⟩ (cxOf CX0 Pr w P.K mg base F.N F.d.qual F.d.scope f cdv A outer s H E).nox where
  K := rfl
  T := rfl
  N := rfl
  nd := o.sc.nd
  sc := rfl
  kind := o.sc.kind
  calm := rfl
  pas := PassesOwn.never
  room := hr
  Y := Y
  tb := Z
  xf := XX
  fr := fr
  st := fun x _ => .inl rfl
  gd := hc
  hcal := fun f F h _ => by
    obtain ⟨fd, hf⟩ := Y.fn f F h
    exact ⟨fd, L.cal f F h fd hf⟩
  hmak := fun c k F h1 _ h2 => L.mak c k F h1 h2
  hcalx := fun f F h _ => by
    obtain ⟨fd, hf⟩ := Y.fn f F h
    exact ⟨fd, L.calx f F h fd hf⟩
  hmakx := fun c k F h1 _ h2 => L.makx c k F h1 h2
  xmak := xmak_sem sm m
  xmakC := xmakC_sem sm m
  calL := calL_sem m
  calF := calF_sem m
  makL := makL_sem m
theorem en_start {W : Wo} {H : Hp} {vs : List V} {ds : List D} (r : RepL P W H vs ds) {N : List Str} (h : vs.length ≤ N.length) : En P W H (L2.start N vs) (EV.start N.length ds) := by
  have hl := r.len
  have fz : ∀ (i : Nat) (s : Slot), (EV.start N.length ds)[i]? = some s → (∃ d, s = .fz d ∧ ds[i]? = some d) ∨ s = .un := fun i s e => by
    unfold EV.start at e
    by_cases hi : i < ds.length
    · rw [List.getElem?_append_left (by simpa using hi), List.getElem?_map, List.getElem?_eq_getElem hi] at e
      cases e
      exact .inl ⟨_, rfl, List.getElem?_eq_getElem hi⟩
    · rw [List.getElem?_append_right (by simpa using hi), List.getElem?_replicate] at e
      split at e
      · cases e; exact .inr rfl
      · cases e
  refine ⟨?_, fun i d e => ?_, fun i d e => ?_, fun i j d e a h1 => ?_⟩
  · unfold L2.start EV.start
    simp [hl]
  · rcases fz i _ e with ⟨d', q, hd⟩ | q
    · cases q
      obtain ⟨v, hv, rv⟩ := r.get hd
      refine ⟨v, ?_, rv⟩
      unfold L2.start
      rw [List.getElem?_append_left (by simpa using (List.getElem?_eq_some_iff.mp hv).1), List.getElem?_map, hv]
      rfl
    · cases q
  · rcases fz i _ e with ⟨d', q, hd⟩ | q <;> cases q
  · rcases fz i _ h1 with ⟨d', q, hd⟩ | q <;> cases q
theorem level (sm : P.T.small = true) (XX : XF P mg) (Y : Facts P mg) (Z : TabF P w mg) (fr : ∀ x ∈ bltNames, mg x = none) (ok : ∀ (f : Nat) (F : Fn), P.T.fns[f]? = some F → okFn P.T F = true) : ∀ m : Nat, Lvl P Pr w mg base m
  | 0 => by
    refine ⟨fun f F hF fd h => ?_, fun c k F h1 h2 => ?_, fun f F hF fd h => ?_, fun c k F h1 h2 => ?_⟩
    rotate_left 2
    · refine ⟨⟨fun vs H Q E ⟨W, μ, ds, x, μ', hl, _⟩ => hl, fun A outer s H args us vs Q E _ _ _ _ _ ⟨W, μ, ds, x, μ', _, _, _, e, _⟩ => by cases e⟩, (okFn_of (ok f F hF)).binds h⟩
    · obtain ⟨fd, h⟩ := Y.fn _ F h2
      refine ⟨fd, ⟨fun vs H Q E ⟨W, μ, ds, d, μ', x, dx, args, H0, _, hl, _⟩ => hl, fun A outer s H args us vs Q E _ _ _ _ _ ⟨W, μ, ds, d, μ', x, dx, args, H0, _, _, _, _, _, _, _, _, e, _⟩ => by cases e⟩, (okFn_of (ok _ F h2)).binds h⟩
    · refine ⟨⟨fun vs H Q E ⟨W, μ, ds, r, hl, _⟩ => hl, fun A outer s H args us vs Q E _ _ _ _ _ ⟨W, μ, ds, r, _, _, _, e, _⟩ => by cases e⟩, (okFn_of (ok f F hF)).binds h⟩
    · obtain ⟨fd, h⟩ := Y.fn _ F h2
      refine ⟨fd, ⟨fun vs H Q E ⟨W, μ, ds, d, μ', x, dx, args, H0, _, hl, _⟩ => hl, fun A outer s H args us vs Q E _ _ _ _ _ ⟨W, μ, ds, d, μ', x, dx, args, H0, _, _, _, _, _, _, _, _, e, _⟩ => by cases e⟩, (okFn_of (ok _ F h2)).binds h⟩
  | m + 1 => by
    have L := level sm XX Y Z fr ok m
    refine ⟨fun f F hF fd h => ?_, fun c k F h1 h2 => ?_, fun f F hF fd h => ?_, fun c k F h1 h2 => ?_⟩
    rotate_left 2
    · have o := okFn_of (ok f F hF)
      refine ⟨fng_of h o.sc (fun vs H Q E ⟨W, μ, ds, x, μ', hl, _⟩ => hl) fun cdv A outer s H vs Q E hc hr hsp => ?_, o.binds h⟩
      obtain ⟨W, μ, ds, x, μ', hl, wd, rl, e, k⟩ := hsp
      have g := gx_x sm XX L Y Z fr o (f := P.fa f) (cdv := cdv) (A := A) (outer := outer) (s := s) (H := H) (E := E) hc hr
      refine ⟨_, sndSs F.code g tk_x o.body, ?_⟩
      rw [sem_x sm, mkX_fn sm hF] at e
      unfold runX at e
      split at e
      · obtain ⟨out, e1, e2⟩ := bind_some' e
        refine ⟨W, H, W, _, μ, out, .refl, wd, ⟨en_start rl (by rw [hl]; exact o.len), fun i d a h1 => ?_⟩, e1, ?_⟩
        · exfalso
          have : ∀ s ∈ EV.start F.N.length ds, s ≠ .ow d := fun s hs z => by
            subst z
            unfold EV.start at hs
            simp at hs
          exact this _ (List.mem_of_getElem? h1) rfl
        · cases out with
          | xc x' ρ' m' =>
            cases e2
            exact fun σ' W' H' cls d x1 kp w1 en1 z1 r => k W' H' cls d x1 w1 r
          | nx ρ' m' => cases e2
          | rt o d m' => cases e2
      · cases e
    · obtain ⟨fd, h⟩ := Y.fn _ F h2
      have o := okFn_of (ok _ F h2)
      refine ⟨fd, fng_of h o.sc (fun vs H Q E ⟨W, μ, ds, d, μ', x, dx, args, H0, _, hl, _⟩ => hl) fun cdv A outer s H vs Q E hc hr hsp => ?_, o.binds h⟩
      obtain ⟨W, μ, ds, d, μ', x, dx, args, H0, rfl, hl, rfl, hx, hdx, ne, wd, rl, e, kq⟩ := hsp
      have g := gx_x sm XX L Y Z fr o (f := P.fa k.init) (cdv := cdv) (A := A) (outer := outer) (s := s) (H := (upd (upd H0 dx (.own x)) x (.ins (P.ca c) dx []))) (E := E) hc hr
      refine ⟨_, sndSs F.code g tk_x o.body, ?_⟩
      rw [sem_xc sm, mkX_cl h1 h2] at e
      unfold runIX at e
      split at e
      · obtain ⟨out, e1, e2⟩ := bind_some' e
        obtain ⟨x1, w1⟩ := addO (o := .own x) wd hdx
        have hx1 : (upd H0 dx (.own x)) x = none := by rw [upd_ne (Ne.symm ne)]; exact hx
        obtain ⟨x2, w2⟩ := addO (o := .ins (P.ca c) dx []) w1 hx1
        have x3 := x1.tr x2 w1
        have rl3 := rl.keep (x3.keep wd)
        have en0 := en_start (.cons .non rl3) (N := F.N) (by rw [List.length_cons] at hl ⊢; rw [hl]; exact o.len)
        have es0 : EnS P H0 W _ _ _ := ⟨en0, fun i d a h1 => by
          exfalso
          have : ∀ s ∈ EV.start F.N.length (D.non :: ds), s ≠ .ow d := fun s hs z => by
            subst z
            unfold EV.start at hs
            simp at hs
          exact this _ (List.mem_of_getElem? h1) rfl⟩
        have own : Own P W (upd (upd H0 dx (.own x)) x (.ins (P.ca c) dx [])) x (.obj c []) := ⟨.obj (vs := []) (by rw [h1]; rfl) (by rw [upd_same, List.zip_nil_right]) (Nat.zero_le _) .nil, (wd.notp hx).1, (wd.notp hx).2⟩
        have es := es0.setO (i := 0) own hx fun j e _ hj => by
          exfalso
          have : ∀ s ∈ EV.start F.N.length (D.non :: ds), s ≠ .ow e := fun s hs z => by
            subst z
            unfold EV.start at hs
            simp at hs
          exact this _ (List.mem_of_getElem? hj) rfl
        refine ⟨W, H0, W, _, μ, out, x3, w2, es, e1, ?_⟩
        cases out with
        | xc x' ρ' m' =>
          cases e2
          exact fun σ' W' H' cls d x1 kp w1 en1 z1 r => kq W' H' cls d x1 w1 r
        | nx ρ' m' => cases e2
        | rt o d m' => cases e2
      · cases e
    · have o := okFn_of (ok f F hF)
      refine ⟨fng_of h o.sc (fun vs H Q E ⟨W, μ, ds, r, hl, _⟩ => hl) fun cdv A outer s H vs Q E hc hr hsp => ?_, o.binds h⟩
      obtain ⟨W, μ, ds, r, hl, wd, rl, e, k⟩ := hsp
      have g := gx_of sm XX L Y Z fr o (f := P.fa f) (cdv := cdv) (A := A) (outer := outer) (s := s) (H := H) (E := E) hc hr
      refine ⟨_, (sndSs F.code g tk_0 o.body).nox, ?_⟩
      have e : (P.T.fn f).bind (fun F => runF P.T (sem P.T m).1 (sem P.T m).2 F ds μ) = some r := e
      rw [Tab.fn_of hF] at e
      have e : runF P.T (sem P.T m).1 (sem P.T m).2 F ds μ = some r := e
      unfold runF at e
      split at e
      · obtain ⟨out, e1, e2⟩ := bind_some' e
        refine ⟨W, H, W, _, μ, out, .refl, wd, ⟨en_start rl (by rw [hl]; exact o.len), fun i d a h1 => ?_⟩, e1, ?_⟩
        · exfalso
          have : ∀ s ∈ EV.start F.N.length ds, s ≠ .ow d := fun s hs z => by
            subst z
            unfold EV.start at hs
            simp at hs
          exact this _ (List.mem_of_getElem? h1) rfl
        · cases out with
          | nx ρ' μ' =>
            cases e2
            exact fun σ' W' H' x kp w' en' _ => k .non W' H' x w' .non
          | rt o d μ' =>
            cases e2
            exact fun v W' H' x w' rr => k v W' H' x w' rr
          | xc x ρ' μ' => cases e2
      · cases e
    · obtain ⟨fd, h⟩ := Y.fn _ F h2
      have o := okFn_of (ok _ F h2)
      refine ⟨fd, fng_of h o.sc (fun vs H Q E ⟨W, μ, ds, d, μ', x, dx, args, H0, _, hl, _⟩ => hl) fun cdv A outer s H vs Q E hc hr hsp => ?_, o.binds h⟩
      obtain ⟨W, μ, ds, d, μ', x, dx, args, H0, rfl, hl, rfl, hx, hdx, ne, wd, rl, e, kq⟩ := hsp
      have g := gx_of sm XX L Y Z fr o (f := P.fa k.init) (cdv := cdv) (A := A) (outer := outer) (s := s) (H := (upd (upd H0 dx (.own x)) x (.ins (P.ca c) dx []))) (E := E) hc hr
      refine ⟨_, (sndSs F.code g tk_0 o.body).nox, ?_⟩
      rw [sem_mk h1] at e
      unfold mkC at e
      rw [Tab.cl_of h1] at e
      have e : (P.T.fn k.init).bind (fun F => runI P.T (sem P.T m).1 (sem P.T m).2 F c ds μ) = some (d, μ') := e
      rw [Tab.fn_of h2] at e
      have e : runI P.T (sem P.T m).1 (sem P.T m).2 F c ds μ = some (d, μ') := e
      unfold runI at e
      split at e
      · obtain ⟨out, e1, e2⟩ := bind_some' e
        obtain ⟨x1, w1⟩ := addO (o := .own x) wd hdx
        have hx1 : (upd H0 dx (.own x)) x = none := by rw [upd_ne (Ne.symm ne)]; exact hx
        obtain ⟨x2, w2⟩ := addO (o := .ins (P.ca c) dx []) w1 hx1
        have x3 := x1.tr x2 w1
        have rl3 := rl.keep (x3.keep wd)
        have en0 := en_start (.cons .non rl3) (N := F.N) (by rw [List.length_cons] at hl ⊢; rw [hl]; exact o.len)
        have es0 : EnS P H0 W _ _ _ := ⟨en0, fun i d a h1 => by
          exfalso
          have : ∀ s ∈ EV.start F.N.length (D.non :: ds), s ≠ .ow d := fun s hs z => by
            subst z
            unfold EV.start at hs
            simp at hs
          exact this _ (List.mem_of_getElem? h1) rfl⟩
        have own : Own P W (upd (upd H0 dx (.own x)) x (.ins (P.ca c) dx [])) x (.obj c []) := ⟨.obj (vs := []) (by rw [h1]; rfl) (by rw [upd_same, List.zip_nil_right]) (Nat.zero_le _) .nil, (wd.notp hx).1, (wd.notp hx).2⟩
        have es := es0.setO (i := 0) own hx fun j e _ hj => by
          exfalso
          have : ∀ s ∈ EV.start F.N.length (D.non :: ds), s ≠ .ow e := fun s hs z => by
            subst z
            unfold EV.start at hs
            simp at hs
          exact this _ (List.mem_of_getElem? hj) rfl
        refine ⟨W, H0, W, _, μ, out, x3, w2, es, e1, ?_⟩
        cases out with
        | nx ρ' μ2 =>
          intro σ' W' H' x' kp w' en' z
          have hz : σ'[0]? = some (some (.ref x)) := z
          have e2 : (match (ρ'[0]? : Option Slot) with
            | some (.ow (.obj c' xs)) => some (.obj c' xs, μ2)
            | some (.fz d) => some (d, μ2)
            | _ => none) = some (d, μ') := e2
          split at e2
          · rename_i d' hd
            cases e2
            obtain ⟨a, ha, ow⟩ := en'.en.ow 0 _ hd
            rw [hz] at ha
            cases ha
            obtain ⟨w5, r5, _⟩ := ow.freeze w' rfl
            exact kq _ _ (x'.addF hx) w5 r5
          · rename_i d' hd
            cases e2
            obtain ⟨v, hv, rv⟩ := en'.en.fz 0 _ hd
            rw [hz] at hv
            cases hv
            exact kq _ _ x' w' rv
          · cases e2
        | rt o d μ' => cases e2
        | xc x' ρ' m' => cases e2
      · cases e
end
end EV

set_option Elab.async false
set_option linter.all false
set_option maxRecDepth 100000
set_option maxHeartbeats 1000000
namespace EV
open PySem PySem.Spec PyProof.Rows L2
/-! what the head shows -/
def vOf : Value → V
  | .none => .non
  | .bool b => .bl b
  | .int i _ => .int i
  | .str s _ => .str s
  | .ref a => .ref a
  | _ => .non
def conB (K : PySem.W.Frag) : Nat → Value → D → Bool
  | 0, _, _ => false
  | n + 1, u, d => He.relB (vOf u) u && (match d with
    | .non => decide (vOf u = .non)
    | .bl b => decide (vOf u = .bl b)
    | .int i => decide (vOf u = .int i)
    | .str s => decide (vOf u = .str s) && sok s
    | .tup ds => (match vOf u with
      | .ref a => (match K.lookup a with
        | some ⟨.type c, _, .seq its _, _⟩ => decide (c = "tuple") && (decide (its.size ≤ LIM) && (decide (its.size = ds.length) && (its.toList.zip ds).all fun p => conB K n p.1 p.2))
        | _ => false)
      | _ => false)
    | .lst ds => (match vOf u with
      | .ref a => (match K.lookup a with
        | some ⟨.type c, none, .seq its _, _⟩ => decide (c = "list") && (decide (its.size ≤ LIM) && (decide (its.size = ds.length) && (its.toList.zip ds).all fun p => conB K n p.1 p.2))
        | _ => false)
      | _ => false)
    | _ => false)
section
variable {K : PySem.W.Frag}
def fnB (K : PySem.W.Frag) (F : Fn) : Bool := F.d.dfl.isEmpty && (F.d.kwd.isEmpty && (match F.d.at_.2 with
    | none => He.eqO (PySem.W.nsIn K mainGlobals F.d.at_.1) (some (some (.ref (He.fAd K F.d.at_))))
    | some _ => true))
def clB (K : PySem.W.Frag) (T : Tab) (k : Cl) : Bool := He.eqO (PySem.W.nsIn K mainGlobals k.name) (some (some (.ref (He.ga K k.name)))) && ((He.Fa.cls k.name).ok K && ((k.fields.all fun f => (He.Fa.noat k.name ((⟨K, T⟩ : Pl).nm f)).ok K) &&
    (decide (k.fields.map (⟨K, T⟩ : Pl).nm).Nodup && (decide (k.fields.length ≤ 100) && ((k.mu || (He.Fa.mkr k.name).ok K) && ((k.mu || match T.fns[k.init]? with
      | some F => decide (He.fAd K F.d.at_ = He.ma K (He.ga K k.name) "__init__")
      | none => false) &&
    (He.eqO (PySem.W.findIn K (.ref (He.ga K k.name)) "__class__") (some (some (.builtin "object.__class__"))) && (decide (PySem.W.mroIn K (He.ga K k.name) (.type "object") = some true) &&
    (He.eqO (PySem.W.specialIn K (.builtin "object.__class__") "__get__") (some (some (.builtin "getset_descriptor.__get__"))) && (decide (PySem.W.takesIn K (.builtin "object.__class__") = some true) &&
    (((T.cls.zipIdx).all fun q => decide (PySem.W.kitOne K (.ref (He.ga K k.name)) (.ref (He.ga K q.1.name)) = some (k.isa.contains q.2))) &&
    (tyNames.all fun n => decide (PySem.W.kitOne K (.type n) (.ref (He.ga K k.name)) = some false) && decide (PySem.W.kitOne K (.ref (He.ga K k.name)) (.type n) = some false)))))))))))))
def okB0 (T : Tab) (K : PySem.W.Frag) : Bool := (T.fns.all (fnB K)) && ((T.cls.all (clB K T)) &&
  ((T.con.all fun q => match PySem.W.nsIn K mainGlobals q.1 with
    | some (some u) => conB K 6 u q.2
    | _ => false) && bltNames.all fun x => He.eqO (PySem.W.nsIn K mainGlobals x) (some none)))
def mtB (K : PySem.W.Frag) (T : Tab) (q : Nat × Nat × Nat) : Bool := match T.cls[q.1]?, T.fns[q.2.2]? with
  | some k, some F => (He.Fa.meth k.name ((⟨K, T⟩ : Pl).nm q.2.1)).ok K && (decide (He.fAd K F.d.at_ = He.ma K (He.ga K k.name) ((⟨K, T⟩ : Pl).nm q.2.1)) && (!(k.fields.map (⟨K, T⟩ : Pl).nm).contains ((⟨K, T⟩ : Pl).nm q.2.1) && !F.ini))
  | _, _ => false
/-- the tables' defs -/
def tbB (K : PySem.W.Frag) (T : Tab) (q : Str × List (Str × Nat)) : Bool := He.eqO (PySem.W.nsIn K mainGlobals q.1) (some (some (.ref (He.ga K q.1)))) && q.2.all fun p => He.eqO (PySem.W.nsIn K (He.ga K q.1) p.1) (some (some (.ref ((⟨K, T⟩ : Pl).fa p.2)))) && (T.fns[p.2]?).isSome
def tsOf (T : Tab) : List He.Tab := T.tbl.map fun q => ((fun K => He.ga K q.1), q.2.map Prod.fst)
def mkB (K : PySem.W.Frag) (T : Tab) (q : Nat × Nat) : Bool := match T.cls[q.1]?, T.fns[q.2]? with
  | some k, some F => (He.Fa.mkr k.name).ok K && decide (He.fAd K F.d.at_ = He.ma K (He.ga K k.name) "__init__")
  | _, _ => false
/-- the classes of exceptions -/
def xcB (K : PySem.W.Frag) (T : Tab) (q : Str × List Nat) : Bool := He.eqO (PySem.W.nsIn K mainGlobals q.1) (some (some (.ref (He.ga K q.1)))) &&
  (He.eqO (PySem.W.findIn K (.ref (He.ga K q.1)) "__getattribute__") (some (some (.builtin "BaseException.__getattribute__"))) && (He.eqO (PySem.W.findIn K (.ref (He.ga K q.1)) "__getattr__") (some none) &&
  (decide (PySem.W.subIn K (.ref (He.ga K q.1)) (.type "BaseException") = some true) && (PySem.W.hasDictIn K (He.ga K q.1) && (He.eqO (PySem.W.findIn K (.ref (He.ga K q.1)) "__class__") (some (some (.builtin "object.__class__"))) &&
  (He.eqO (PySem.W.specialIn K (.builtin "object.__class__") "__get__") (some (some (.builtin "getset_descriptor.__get__"))) && (decide (PySem.W.takesIn K (.builtin "object.__class__") = some true) && (decide (PySem.W.mroIn K (He.ga K q.1) (.type "object") = some true) &&
  (((T.xcl.zipIdx).all fun r => decide (PySem.W.kitOne K (.ref (He.ga K q.1)) (.ref (He.ga K r.1.1)) = some (q.2.contains r.2)) && decide (PySem.W.exmOne K (.ref (He.ga K q.1)) (.ref (He.ga K r.1.1)) = some (q.2.contains r.2))) &&
  decide (PySem.W.kitOne K (.ref (He.ga K q.1)) (.type "ValueError") = some true))))))))))
def xpB (K : PySem.W.Frag) (T : Tab) (c : Nat) : Bool := match T.xcl[c]? with
  | some q => PySem.W.excIn K (He.ga K q.1) veMro "ValueError.__new__" && (PySem.W.keepIn K (.ref (He.ga K q.1)) && (decide (PySem.W.subIn K (.ref (He.ga K q.1)) (.type "BaseException") = some true) && decide (PySem.W.typeIn K (.ref (He.ga K q.1)) = some (.type "type"))))
  | none => false
def okX (T : Tab) (K : PySem.W.Frag) : Bool := T.small && (T.xcl.all (xcB K T) && T.xpl.all (xpB K T))
def okB (T : Tab) (K : PySem.W.Frag) : Bool := okX T K && ((T.tbl.all (tbB K T) && T.mkm.all (mkB K T)) && (T.mth.all (mtB K T) && okB0 T K))
theorem keys_none {w : World} {a : Addr} {es : Array DictEntry} {n : Nat} {ks : List Str} {z : Str} {oc : Value} {od : Option Addr} {sl : Array (Option Value)} (hl : K.lookup a = some ⟨oc, od, .dict es n, sl⟩) (he : es.toList.map He.keyOf = He.keysIn w.params ks) (hz : z ∉ ks) : PySem.W.nsIn K a z = some none := by
  have key : ∀ {l : List DictEntry} {ks : List Str}, l.map He.keyOf = He.keysIn w.params ks → z ∉ ks → l.find? (·.key.isStr z) = none ∧ l.any (·.refKey) = false := by
    intro l
    induction l with
    | nil => intro _ _ _; exact ⟨rfl, rfl⟩
    | cons e l ih =>
      intro ks he hz
      cases ks with
      | nil => cases he
      | cons k ks =>
        have h1 : He.keyOf e :: l.map He.keyOf = some (k, PyData.keyHash w.params k) :: He.keysIn w.params ks := he
        injection h1 with h2 h3
        obtain ⟨i1, i2⟩ := ih h3 fun h => hz (.tail _ h)
        unfold He.keyOf at h2
        split at h2
        · rename_i x t q
          have e1 : x = k := (Prod.mk.inj (Option.some.inj h2)).1
          have e2 : (e.key.isStr z) = false := by
            rw [q, e1]
            show (k == z) = false
            exact beq_eq_false_iff_ne.mpr fun h => hz (h ▸ .head _)
          refine ⟨by rw [List.find?_cons_of_neg (by rw [e2]; decide)]; exact i1, ?_⟩
          rw [List.any_cons, i2, Bool.or_false]
          unfold DictEntry.refKey
          rw [q]
        · cases h2
  obtain ⟨k1, k2⟩ := key he hz
  unfold PySem.W.nsIn
  rw [hl]
  simp only
  rw [k1]
  simp only
  rw [k2]
  rfl
theorem look_mem {kvs : List (Str × Nat)} {z : Str} {f : Nat} (h : tbLook kvs z = some f) : (z, f) ∈ kvs := by
  unfold tbLook at h
  obtain ⟨p, h1, h2⟩ := Option.map_eq_some_iff.mp h
  have h3 : p.1 = z := by have := List.find?_some h1; exact of_decide_eq_true this
  have h4 := List.mem_of_find?_eq_some h1
  rw [← h3, ← h2]
  exact h4
theorem look_none {kvs : List (Str × Nat)} {z : Str} (h : tbLook kvs z = none) : z ∉ kvs.map Prod.fst := by
  intro hz
  obtain ⟨p, h1, h2⟩ := List.mem_map.mp hz
  unfold tbLook at h
  rw [Option.map_eq_none_iff, List.find?_eq_none] at h
  exact h p h1 (decide_eq_true h2)
theorem tabs_of {T : Tab} {h : Heap} {mg : Str → Option Value} {w : World} (X : K.In h) (G : h.Ns mainGlobals mg) (c : He.SaysX [] (T.fns.map (·.d)) (tsOf T) [] (okB T) w h K) : TabF ⟨K, T⟩ w mg := by
  intro g x kvs e
  have e' : T.tbl[g]? = some (x, kvs) := e
  have m := c.more
  unfold okB at m
  have m := (ba m).2
  have q := List.all_eq_true.mp (ba (ba m).1).1 (x, kvs) (List.mem_of_getElem? e')
  unfold tbB at q
  obtain ⟨q1, q2⟩ := ba q
  have ht : (tsOf T)[g]? = some ((fun K => He.ga K x), kvs.map Prod.fst) := by unfold tsOf; rw [List.getElem?_map, e']; rfl
  obtain ⟨es, n, kd⟩ := c.t.tab g ht
  have kd : KDict K w (He.ga K x) es n := kd
  refine ⟨He.ga K x, es, n, PySem.W.mg_of X G (He.eqO_ok q1), kd, fun z => ⟨fun f hf => ?_, fun hz => ?_⟩⟩
  · obtain ⟨q3, q4⟩ := ba (List.all_eq_true.mp q2 (z, f) (look_mem hf))
    exact ⟨He.eqO_ok q3, q4⟩
  · have e2 : ((tsOf T).map fun t => He.dicW K (t.1 K))[g]? = ((tsOf T).map fun t => some (He.keysIn w.params t.2))[g]? := by rw [show ((tsOf T).map fun t => He.dicW K (t.1 K)) = ((tsOf T).map fun t => some (He.keysIn w.params t.2)) from congrArg (fun z : He.AlT => z.2) c.t]
    rw [List.getElem?_map, List.getElem?_map, ht] at e2
    have e3 : He.dicW K (He.ga K x) = some (He.keysIn w.params (kvs.map Prod.fst)) := Option.some.inj e2
    unfold He.dicW at e3
    rw [kd.at_] at e3
    simp only at e3
    split at e3
    · exact keys_none kd.at_ (Option.some.inj e3) (look_none hz)
    · cases e3
theorem conB_ok {T : Tab} : ∀ {n : Nat} {u : Value} {d : D}, (nfD d = true → T.tupC = true) → conB K n u d = true → RelV (vOf u) u ∧ ∀ W H, Rep ⟨K, T⟩ W H (vOf u) d
  | 0, _, _, _, h => by cases h
  | n + 1, u, d, ht, h => by
    unfold conB at h
    obtain ⟨h1, h2⟩ := ba h
    refine ⟨He.relB_ok h1, ?_⟩
    have many : T.tupC = true → ∀ {us : List Value} {ds : List D}, us.length = ds.length → ((us.zip ds).all fun p => conB K n p.1 p.2) = true → Vals (us.map vOf) us ∧ ∀ W H, RepL ⟨K, T⟩ W H (us.map vOf) ds := by
      intro htc us
      induction us with
      | nil => intro ds hl _; cases ds with
        | nil => exact ⟨.nil, fun W H => .nil⟩
        | cons _ _ => cases hl
      | cons v us ih => intro ds hl ha; cases ds with
        | nil => cases hl
        | cons e ds =>
          rw [List.zip_cons_cons, List.all_cons] at ha
          obtain ⟨a1, a2⟩ := ba ha
          obtain ⟨b1, b2⟩ := conB_ok (T := T) (fun _ => htc) a1
          obtain ⟨c1, c2⟩ := ih (by simpa using hl) a2
          exact ⟨.cons b1 c1, fun W H => .cons (b2 W H) (c2 W H)⟩
    split at h2
    · rw [of_decide_eq_true h2]; exact fun W H => .non
    · rw [of_decide_eq_true h2]; exact fun W H => .bl _
    · rw [of_decide_eq_true h2]; exact fun W H => .int _
    · obtain ⟨h3, h4⟩ := ba h2
      rw [of_decide_eq_true h3]; exact fun W H => .str _ h4
    · split at h2
      · rename_i a ha
        rw [ha]
        split at h2
        · rename_i c od its nn sl hk
          obtain ⟨h3, h2⟩ := ba h2
          obtain ⟨h4, h2⟩ := ba h2
          obtain ⟨h5, h2⟩ := ba h2
          obtain ⟨m1, m2⟩ := many (ht rfl) (by simpa using of_decide_eq_true h5) h2
          have sq : ∀ H, SqT K H a (its.toList.map vOf) := fun H => .inr ⟨_, its, nn, hk, by rw [of_decide_eq_true h3], rfl, by rw [← lim_eq]; exact of_decide_eq_true h4, m1⟩
          exact fun W H => .tup (sq H) (.inr ⟨ht rfl, sq⟩) (by rw [List.length_map]; exact of_decide_eq_true h4) (m2 W H)
        · cases h2
      · cases h2
    · split at h2
      · rename_i a ha
        rw [ha]
        split at h2
        · rename_i c its nn sl hk
          obtain ⟨h3, h2⟩ := ba h2
          obtain ⟨h4, h2⟩ := ba h2
          obtain ⟨h5, h2⟩ := ba h2
          obtain ⟨m1, m2⟩ := many (ht rfl) (by simpa using of_decide_eq_true h5) h2
          have sq : ∀ H, SqL K H a (its.toList.map vOf) := fun H => .inr ⟨_, its, nn, hk, by rw [of_decide_eq_true h3], rfl, rfl, by rw [← lim_eq]; exact of_decide_eq_true h4, m1⟩
          exact fun W H => .lst (sq H) (.inr sq) (by rw [List.length_map]; exact of_decide_eq_true h4) (m2 W H)
        · cases h2
      · cases h2
    · cases h2
theorem ca_of {T : Tab} {c : Nat} {k : Cl} (h : T.cls[c]? = some k) : (⟨K, T⟩ : Pl).ca c = He.ga K k.name := by unfold Pl.ca; simp only [h]
theorem fa_of {T : Tab} {f : Nat} {F : Fn} (h : T.fns[f]? = some F) : (⟨K, T⟩ : Pl).fa f = He.fAd K F.d.at_ := by unfold Pl.fa; simp only [h]
theorem fld_of {T : Tab} {c : Nat} {k : Cl} (h : T.cls[c]? = some k) : (⟨K, T⟩ : Pl).fld c = k.fields.map (⟨K, T⟩ : Pl).nm := by unfold Pl.fld; simp only [h]
theorem facts_of {T : Tab} {h : Heap} {mg : Str → Option Value} {w : World} (X : K.In h) (G : h.Ns mainGlobals mg) (c : He.SaysX [] (T.fns.map (·.d)) (tsOf T) [] (okB T) w h K) : Facts ⟨K, T⟩ mg ∧ ∀ x ∈ bltNames, mg x = none := by
  have cd : He.SaysD [] (T.fns.map (·.d)) K := congrArg (fun z : He.AlT => z.1) c.t
  have m := c.more
  unfold okB at m
  obtain ⟨_, m⟩ := ba m
  obtain ⟨mk0, m⟩ := ba m
  obtain ⟨m0, m⟩ := ba m
  unfold okB0 at m
  obtain ⟨m1, m⟩ := ba m
  obtain ⟨m2, m⟩ := ba m
  obtain ⟨m3, m4⟩ := ba m
  have fall := fun {f : Nat} {F : Fn} (e : T.fns[f]? = some F) => List.all_eq_true.mp m1 F (List.mem_of_getElem? e)
  have call := fun {f : Nat} {k : Cl} (e : T.cls[f]? = some k) => List.all_eq_true.mp m2 k (List.mem_of_getElem? e)
  refine ⟨?_, fun x hx => PySem.W.mg_none_of X G (He.eqO_ok (List.all_eq_true.mp m4 x hx))⟩
  refine ⟨fun f F e => ?_, fun f F x e ex => ?_, fun i k e => ?_, fun i k e => ?_, fun i k f e hf => ?_, fun i k e => ?_, fun c m f e hc => ?_, fun i k e hmu => ?_, fun i f k hq e => ?_, fun i k e => ?_, fun i i' k k' e e' => ?_, fun i k n e hn => ?_, fun i k n e hn => ?_, fun g x d e => ?_⟩
  · obtain ⟨q1, q⟩ := ba (fall e)
    obtain ⟨q2, q3⟩ := ba q
    obtain ⟨fd, hfd⟩ := cd.def_ f (d := F.d) (by rw [List.getElem?_map, e]; rfl)
    refine ⟨fd, ?_⟩
    have e1 : F.d.dvs K = [] := by unfold He.DefD.dvs; rw [List.isEmpty_iff.mp q1]; rfl
    have e2 : F.d.kws K = [] := by unfold He.DefD.kws; rw [List.isEmpty_iff.mp q2]; rfl
    rw [e1, e2] at hfd
    rw [fa_of e]
    exact hfd
  · obtain ⟨q1, q⟩ := ba (fall e)
    obtain ⟨q2, q3⟩ := ba q
    rw [ex] at q3
    rw [fa_of e, ex]
    exact PySem.W.mg_of X G (He.eqO_ok q3)
  · obtain ⟨q1, q⟩ := ba (call e)
    rw [ca_of e]
    exact PySem.W.mg_of X G (He.eqO_ok q1)
  · obtain ⟨q1, q⟩ := ba (call e)
    obtain ⟨q2, q⟩ := ba q
    rw [ca_of e]
    exact He.cls_ok q2
  · obtain ⟨q1, q⟩ := ba (call e)
    obtain ⟨q2, q⟩ := ba q
    obtain ⟨q3, q⟩ := ba q
    rw [ca_of e]
    exact He.noat_ok (List.all_eq_true.mp q3 f hf)
  · obtain ⟨q1, q⟩ := ba (call e)
    obtain ⟨q2, q⟩ := ba q
    obtain ⟨q3, q⟩ := ba q
    obtain ⟨q4, q⟩ := ba q
    obtain ⟨q5, q⟩ := ba q
    rw [fld_of e]
    exact ⟨of_decide_eq_true q4, by rw [List.length_map]; exact of_decide_eq_true q5⟩
  · have e2 : (T.mth.find? fun q => q.1 == c && q.2.1 == m).map (·.2.2) = some f := by
      unfold Tab.meth at e
      split at e
      · rename_i q hq; rw [hq]; exact e
      · obtain ⟨k', hk'⟩ := Option.isSome_iff_exists.mp hc
        rw [if_pos (List.getElem?_eq_some_iff.mp hk').1] at e
        cases e
    obtain ⟨q, hq, eq⟩ := Option.map_eq_some_iff.mp e2
    have hm := List.all_eq_true.mp m0 q (List.mem_of_find?_eq_some hq)
    have hp := List.find?_some hq
    simp only [Bool.and_eq_true, beq_iff_eq] at hp
    obtain ⟨a, b, f'⟩ := q
    obtain ⟨rfl, rfl⟩ := hp
    cases eq
    unfold mtB at hm
    split at hm
    · rename_i k F hk hF
      simp only at hk hF
      obtain ⟨w1, hm⟩ := ba hm
      obtain ⟨w2, hm⟩ := ba hm
      obtain ⟨w3, w4⟩ := ba hm
      refine ⟨?_, ?_, F, hF, by simpa using w4⟩
      · rw [ca_of hk, fa_of hF, of_decide_eq_true w2]
        exact He.meth_ok w1
      · rw [fld_of hk]
        simpa using w3
    · cases hm
  · obtain ⟨q1, q⟩ := ba (call e)
    obtain ⟨q2, q⟩ := ba q
    obtain ⟨q3, q⟩ := ba q
    obtain ⟨q4, q⟩ := ba q
    obtain ⟨q5, q⟩ := ba q
    obtain ⟨q6, q⟩ := ba q
    obtain ⟨q7, q⟩ := ba q
    rw [hmu, Bool.false_or] at q6 q7
    cases hF : T.fns[k.init]? with
    | none => simp only [hF] at q7; cases q7
    | some F =>
      simp only [hF] at q7
      rw [ca_of e, fa_of hF, of_decide_eq_true q7]
      exact He.mkr_ok q6
  · have q := List.all_eq_true.mp (ba mk0).2 (i, f) hq
    unfold mkB at q
    have e' : T.cls[i]? = some k := e
    simp only [e'] at q
    cases hF : T.fns[f]? with
    | none => simp only [hF] at q; cases q
    | some F =>
      simp only [hF] at q
      obtain ⟨q1, q2⟩ := ba q
      rw [ca_of e, fa_of hF, of_decide_eq_true q2]
      exact He.mkr_ok q1
  · obtain ⟨q1, q⟩ := ba (call e)
    obtain ⟨q2, q⟩ := ba q
    obtain ⟨q3, q⟩ := ba q
    obtain ⟨q4, q⟩ := ba q
    obtain ⟨q5, q⟩ := ba q
    obtain ⟨q6, q⟩ := ba q
    obtain ⟨q7, q⟩ := ba q
    obtain ⟨q8, q⟩ := ba q
    obtain ⟨q9, q⟩ := ba q
    obtain ⟨q10, q⟩ := ba q
    obtain ⟨q11, q⟩ := ba q
    rw [ca_of e]
    exact ⟨He.eqO_ok q8, of_decide_eq_true q9, He.eqO_ok q10, of_decide_eq_true q11⟩
  · obtain ⟨q1, q⟩ := ba (call e)
    obtain ⟨q2, q⟩ := ba q
    obtain ⟨q3, q⟩ := ba q
    obtain ⟨q4, q⟩ := ba q
    obtain ⟨q5, q⟩ := ba q
    obtain ⟨q6, q⟩ := ba q
    obtain ⟨q7, q⟩ := ba q
    obtain ⟨q8, q⟩ := ba q
    obtain ⟨q9, q⟩ := ba q
    obtain ⟨q10, q⟩ := ba q
    obtain ⟨q11, q⟩ := ba q
    obtain ⟨q12, q13⟩ := ba q
    rw [ca_of e, ca_of e']
    exact of_decide_eq_true (List.all_eq_true.mp q12 (k', i') (by rw [List.mem_zipIdx_iff_getElem?]; exact e'))
  · obtain ⟨q1, q⟩ := ba (call e)
    obtain ⟨q2, q⟩ := ba q
    obtain ⟨q3, q⟩ := ba q
    obtain ⟨q4, q⟩ := ba q
    obtain ⟨q5, q⟩ := ba q
    obtain ⟨q6, q⟩ := ba q
    obtain ⟨q7, q⟩ := ba q
    obtain ⟨q8, q⟩ := ba q
    obtain ⟨q9, q⟩ := ba q
    obtain ⟨q10, q⟩ := ba q
    obtain ⟨q11, q⟩ := ba q
    obtain ⟨q12, q13⟩ := ba q
    rw [ca_of e]
    exact of_decide_eq_true (ba (List.all_eq_true.mp q13 n hn)).1
  · obtain ⟨q1, q⟩ := ba (call e)
    obtain ⟨q2, q⟩ := ba q
    obtain ⟨q3, q⟩ := ba q
    obtain ⟨q4, q⟩ := ba q
    obtain ⟨q5, q⟩ := ba q
    obtain ⟨q6, q⟩ := ba q
    obtain ⟨q7, q⟩ := ba q
    obtain ⟨q8, q⟩ := ba q
    obtain ⟨q9, q⟩ := ba q
    obtain ⟨q10, q⟩ := ba q
    obtain ⟨q11, q⟩ := ba q
    obtain ⟨q12, q13⟩ := ba q
    rw [ca_of e]
    exact of_decide_eq_true (ba (List.all_eq_true.mp q13 n hn)).2
  · have q := List.all_eq_true.mp m3 (x, d) (List.mem_of_getElem? e)
    simp only at q
    split at q
    · rename_i u hu
      obtain ⟨r1, r2⟩ := conB_ok (T := T) (fun hn => List.any_eq_true.mpr ⟨(x, d), List.mem_of_getElem? e, hn⟩) q
      exact ⟨vOf u, u, PySem.W.mg_of X G hu, r1, r2⟩
    · cases q
end
theorem xf_of {K : PySem.W.Frag} {T : Tab} {h : Heap} {mg : Str → Option Value} {w : World} (X : K.In h) (G : h.Ns mainGlobals mg) (c : He.SaysX [] (T.fns.map (·.d)) (tsOf T) [] (okB T) w h K) : T.small = true ∧ XF ⟨K, T⟩ mg := by
  have m := c.more
  unfold okB at m
  have m := (ba m).1
  unfold okX at m
  obtain ⟨sm, m⟩ := ba m
  obtain ⟨m1, m2⟩ := ba m
  have xa : ∀ {c : Nat} {q : Str × List Nat}, T.xcl[c]? = some q → (⟨K, T⟩ : Pl).xa c = He.ga K q.1 := fun {c q} e => by unfold Pl.xa; simp only [e]
  have all := fun {c : Nat} {q : Str × List Nat} (e : T.xcl[c]? = some q) => List.all_eq_true.mp m1 q (List.mem_of_getElem? e)
  refine ⟨sm, ⟨fun c q e => ?_, fun c hc => ?_, fun c q e => ?_, fun c c' q q' e e' => ?_, fun c q e => ?_⟩⟩
  · have z := all e
    unfold xcB at z
    rw [xa e]
    exact PySem.W.mg_of X G (He.eqO_ok (ba z).1)
  · have z := List.all_eq_true.mp m2 c hc
    unfold xpB at z
    split at z
    · rename_i q e
      obtain ⟨z1, z⟩ := ba z
      obtain ⟨z2, z⟩ := ba z
      obtain ⟨z3, z4⟩ := ba z
      rw [xa e]
      exact ⟨z1, z2, of_decide_eq_true z3, of_decide_eq_true z4⟩
    · cases z
  · have z := all e
    unfold xcB at z
    obtain ⟨_, z⟩ := ba z
    obtain ⟨z1, z⟩ := ba z
    obtain ⟨z2, z⟩ := ba z
    obtain ⟨z3, z⟩ := ba z
    obtain ⟨z4, z⟩ := ba z
    obtain ⟨z5, z⟩ := ba z
    obtain ⟨z6, z⟩ := ba z
    obtain ⟨z7, z⟩ := ba z
    obtain ⟨z8, z⟩ := ba z
    rw [xa e]
    exact ⟨He.eqO_ok z1, He.eqO_ok z2, of_decide_eq_true z3, z4, He.eqO_ok z5, He.eqO_ok z6, of_decide_eq_true z7, of_decide_eq_true z8⟩
  · have z := all e
    unfold xcB at z
    have z := (ba (ba (ba (ba (ba (ba (ba (ba (ba z).2).2).2).2).2).2).2).2).2
    have z := List.all_eq_true.mp (ba z).1 (q', c') (by rw [List.mem_zipIdx_iff_getElem?]; exact e')
    obtain ⟨z1, z2⟩ := ba z
    rw [xa e, xa e']
    exact ⟨of_decide_eq_true z1, of_decide_eq_true z2⟩
  · have z := all e
    unfold xcB at z
    have z := (ba (ba (ba (ba (ba (ba (ba (ba (ba z).2).2).2).2).2).2).2).2).2
    rw [xa e]
    exact of_decide_eq_true (ba z).2
/-! the law's end -/
theorem law_rep {P : Pl} {H : Hp} {a : Addr} {ns : List Int} (hl : ns.length ≤ LIM) (h : SqL P.K H a (ns.map V.int)) : ∃ W : Wo, Wd P W H [] ∧ Rep P W H (.ref a) (.lst (ns.map D.int)) := by
  refine ⟨⟨fun b => b = a ∧ H a ≠ none, []⟩, ⟨rfl, .nil, fun b hb => (nomatch hb), fun b hb => by rw [hb.1]; exact hb.2, fun n b d hb => by simp at hb⟩, ?_⟩
  have rl : ∀ (W : Wo) (l : List Int), RepL P W H (l.map V.int) (l.map D.int) := fun W l => by
    induction l with
    | nil => exact .nil
    | cons i l ih => exact .cons (.int i) ih
  refine .lst h ?_ (by rw [List.length_map]; exact hl) (rl _ ns)
  rcases h with (h | ⟨o, h⟩) | h
  · exact .inl ⟨rfl, by rw [h]; exact fun z => nomatch z⟩
  · exact .inl ⟨rfl, by rw [h]; exact fun z => nomatch z⟩
  · exact .inr fun H' => .inr h
theorem law_end {l : PySem.W.OpenLaw} {T : Tab} {w : World} {mg : Str → Option Value} {fa : Addr} {h : Heap} {N li : Nat} {F : Fn} {x : Str} (Y : (He.hookX 6 [] (T.fns.map (·.d)) (tsOf T) [] (okB T)).says w h) (G : h.Ns mainGlobals mg) (hmg : mg F.d.name = some (.ref fa))
    (hF : T.fns[li]? = some F) (hat : F.d.at_ = (F.d.name, none)) (hps : F.ps = [x]) (ok : T.fns.all (okFn T) = true)
    (sem_ok : ∀ ns : List Int, ns.length ≤ 63 → ∃ (r : (Bool × D) × Sto), (sem T N).1 li [.lst (ns.map D.int)] [] = some r ∧ r.1 = (false, .bl true)) :
    ∃ (K : PySem.W.Frag) (fd : FuncData) (sp : Sp), K.In h ∧ (∀ (s : Shared) (u : Value), BindsTo s fd ⟨[u], []⟩ [(x, u)]) ∧
        (∀ (H : Hp) (a : Addr) (ns : List Int), ns.length ≤ 63 → Only H → SqL K H a (ns.map V.int) → sp [.ref a] H (fun v _ => v = .bl true) fun _ _ _ => False) ∧
        ∀ base : Heap, K.In base → base.Ns mainGlobals mg → FnG l.prog w K mg base CX0 (2 * N) fa fd [x] sp := by
  obtain ⟨K, KX, c⟩ := Y
  obtain ⟨Y, fr⟩ := facts_of KX G c
  have Z := tabs_of KX G c
  obtain ⟨sm, XX⟩ := xf_of KX G c
  have okF : ∀ (f : Nat) (F : Fn), T.fns[f]? = some F → okFn T F = true := fun f F e => List.all_eq_true.mp ok F (List.mem_of_getElem? e)
  obtain ⟨fd, hfd⟩ := Y.fn li F hF
  have e := (hmg.symm.trans (Y.fg li F _ hF hat))
  simp only [Option.some.injEq, Value.ref.injEq] at e
  have o := okFn_of (okF li F hF)
  refine ⟨K, fd, spF ⟨K, T⟩ 1 (sem T N).1 li, KX, ?_, fun H a ns hl _ hS => ?_, fun base _ _ => ?_⟩
  · obtain ⟨args, kd, df, e1, e2⟩ := o.par
    have nd := o.ndps
    intro s u
    have hb := hfd.bindsA (ps := [x]) (fun kV doc pm an cdv ct us hl => by
      rw [e1, ← hps, ← e2]
      rw [← e2] at nd
      exact bind_plain nd (by rw [hl, e2, hps])) s [u] rfl
    exact hb
  · obtain ⟨W, wd, rp⟩ := law_rep (P := ⟨K, T⟩) (Nat.le_trans hl (by decide)) hS
    obtain ⟨r, hr, hb⟩ := sem_ok ns hl
    refine ⟨W, [], _, r, rfl, wd, .cons rp .nil, hr, fun v W' H' x w' rr => ?_⟩
    rw [hb] at rr
    unfold RetRep at rr
    rw [if_neg (by decide)] at rr
    cases rr
    rfl
  · have L := level (P := ⟨K, T⟩) (Pr := l.prog) (w := w) (base := base) sm XX Y Z fr okF N
    have h1 := (L.cal li F hF fd hfd).1
    rw [hps] at h1
    rw [e]
    exact h1
end EV

set_option Elab.async false
set_option linter.all false
set_option maxRecDepth 100000
set_option maxHeartbeats 1000000
namespace EV
open PySem PySem.Spec PyProof.Rows L2
/-! what a run gives, said forwards -/
def Wp {α : Type} (x : Option α) (Q : α → Prop) : Prop := ∃ a, x = some a ∧ Q a
section
variable {α β : Type} {x : Option α} {f : α → Option β} {Q Q' : β → Prop} {R : α → Prop} {a : α} {c : Prop} [Decidable c]
theorem wp_some : Wp (some a) R = R a := propext ⟨fun ⟨_, e, h⟩ => by cases e; exact h, fun h => ⟨a, rfl, h⟩⟩
theorem wp_none : Wp (none : Option α) R = False := propext ⟨fun ⟨_, e, _⟩ => (by cases e), fun h => False.elim h⟩
theorem wp_bind : Wp (x.bind f) Q = Wp x (fun a => Wp (f a) Q) := propext ⟨fun ⟨b, e, h⟩ => by
    obtain ⟨a, e1, e2⟩ := Option.bind_eq_some_iff.mp e
    exact ⟨a, e1, b, e2, h⟩, fun ⟨a, e1, b, e2, h⟩ => ⟨b, Option.bind_eq_some_iff.mpr ⟨a, e1, e2⟩, h⟩⟩
theorem wp_if {x y : Option α} : Wp (if c then x else y) R = ((c → Wp x R) ∧ (¬ c → Wp y R)) := by
  by_cases h : c <;> simp [h]
theorem wp_ifN : Wp (if c then x else none) R = (c ∧ Wp x R) := by
  by_cases h : c <;> simp [h, wp_none]
theorem Wp.mono {R' : α → Prop} (h : Wp x R) (k : ∀ a, R a → R' a) : Wp x R' := by
  obtain ⟨a, e, q⟩ := h
  exact ⟨a, e, k a q⟩
end
section
variable (T : Tab) (cal : Cal) (mak : Mak)
theorem wp_cons {s : S} {b : Ss} {ρ : Rho} {μ : Sto} {Q : Out → Prop} : Wp (exs T cal mak (.cons s b) ρ μ) Q = Wp (ex T cal mak s ρ μ) (fun r => match r with | .nx ρ' μ' => Wp (exs T cal mak b ρ' μ') Q | .rt o d μ' => Q (.rt o d μ') | .xc x ρ' μ' => Q (.xc x ρ' μ')) := by
  rw [exs, wp_bind]
  congr 1
  funext r
  cases r <;> simp [wp_some]
theorem wp_nil {ρ : Rho} {μ : Sto} {Q : Out → Prop} : Wp (exs T cal mak .nil ρ μ) Q = Q (.nx ρ μ) := by rw [exs, wp_some]
theorem wp_iff {c : E} {a b : Ss} {ρ : Rho} {μ : Sto} {Q : Out → Prop} : Wp (ex T cal mak (.iff c a b) ρ μ) Q = Wp (ev T cal mak c ρ μ) (fun x => ∃ t, x.1 = .bl t ∧ (t = true → Wp (exs T cal mak a ρ x.2) Q) ∧ (t = false → Wp (exs T cal mak b ρ x.2) Q)) := by
  rw [ex, wp_bind]
  congr 1
  funext ⟨d, m⟩
  cases d <;> simp [wp_none]
  rename_i t
  cases t <;> simp
/-- a loop's law -/
theorem wp_for {g : Gd} {f : D → Rho → Sto → Option Out} {Q : Out → Prop} (I : List D → Rho → Sto → Prop) : ∀ (xs : List D) (ρ : Rho) (μ : Sto), g = none → I xs ρ μ →
    (∀ x xs ρ μ, I (x :: xs) ρ μ → Wp (f x ρ μ) (fun r => match r with | .nx ρ' μ' => I xs ρ' μ' | .rt o d μ' => Q (.rt o d μ') | .xc x ρ' μ' => Q (.xc x ρ' μ'))) → (∀ ρ μ, I [] ρ μ → Q (.nx ρ μ)) → Wp (forL g f xs ρ μ) Q
  | [], ρ, μ, hg, h, _, k => by
    subst hg
    unfold forL
    rw [if_pos (by rfl), wp_some]
    exact k ρ μ h
  | x :: xs, ρ, μ, hg, h, st, k => by
    subst hg
    unfold forL
    rw [if_pos (by rfl), wp_bind]
    refine (st x xs ρ μ h).mono fun r hr => ?_
    cases r with
    | nx ρ' μ' => exact wp_for I xs ρ' μ' rfl hr st k
    | rt o d μ' => rw [wp_some]; exact hr
    | xc x ρ' μ' => rw [wp_some]; exact hr
theorem lcL_pure {f : D → Sto → Option (Option D × Sto)} {h : D → Option D} : ∀ (xs : List D) (μ : Sto), (∀ x ∈ xs, f x μ = some (h x, μ)) → lcL none f xs μ = some (xs.filterMap h, μ)
  | [], μ, _ => by unfold lcL; rw [if_pos (by rfl)]; rfl
  | x :: xs, μ, e => by
    unfold lcL
    rw [if_pos (by rfl), e x List.mem_cons_self]
    show (lcL none f xs μ).bind _ = _
    rw [lcL_pure xs μ fun y hy => e y (List.mem_cons_of_mem _ hy)]
    cases hx : h x <;> simp [hx]
theorem wp_lc {f : D → Sto → Option (Option D × Sto)} {Q : List D × Sto → Prop} (I : List D → List D → Sto → Prop) : ∀ (xs acc : List D) (μ : Sto), I xs acc μ →
    (∀ x xs acc μ, I (x :: xs) acc μ → Wp (f x μ) (fun r => I xs (match r.1 with | some y => acc ++ [y] | none => acc) r.2)) → (∀ acc μ, I [] acc μ → Q (acc, μ)) → ∀ Q' : List D × Sto → Prop, (∀ ys μ, Q (acc ++ ys, μ) → Q' (ys, μ)) → Wp (lcL none f xs μ) Q'
  | [], acc, μ, h, st, k, Q', kk => by
    unfold lcL
    rw [if_pos (by rfl), wp_some]
    exact kk [] μ (by rw [List.append_nil]; exact k acc μ h)
  | x :: xs, acc, μ, h, st, k, Q', kk => by
    unfold lcL
    rw [if_pos (by rfl), wp_bind]
    refine (st x xs acc μ h).mono fun r hr => ?_
    obtain ⟨o, μ'⟩ := r
    rw [wp_bind]
    cases o with
    | none =>
      refine wp_lc I xs acc μ' hr st k _ fun ys m hq => ?_
      rw [wp_some]
      exact kk ys m hq
    | some y =>
      refine wp_lc I xs (acc ++ [y]) μ' hr st k _ fun ys m hq => ?_
      rw [wp_some]
      exact kk (y :: ys) m (by rw [List.append_assoc] at hq; exact hq)
end
/-! data -/
section
variable {α : Type} {i j : Int} {μ : Sto}
theorem bAdd : binD .Add (.int i) (.int j) = some (.int (i + j)) := rfl
theorem bSub : binD .Sub (.int i) (.int j) = some (.int (i - j)) := rfl
theorem bMul : binD .Mult (.int i) (.int j) = if (-18446744073709551616 < i ∧ i < 18446744073709551616) ∨ (-18446744073709551616 < j ∧ j < 18446744073709551616) then some (.int (i * j)) else none := rfl
theorem bDiv : binD .FloorDiv (.int i) (.int j) = if 0 < j ∧ j < 18446744073709551616 then some (.int (i / j)) else none := rfl
theorem bMod : binD .Mod (.int i) (.int j) = if 0 < j then some (.int (i % j)) else none := rfl
theorem bPow : binD .Pow (.int i) (.int j) = if 0 ≤ j ∧ j ≤ 1000000 ∧ i.natAbs < 18446744073709551616 then some (.int (i ^ j.toNat)) else none := rfl
theorem bShl : binD .LShift (.int i) (.int j) = if 0 ≤ j ∧ j ≤ 1000000 ∧ i.natAbs < 18446744073709551616 then some (.int (i * 2 ^ j.toNat)) else none := rfl
theorem cLt : cmpD .Lt (.int i) (.int j) μ = some (decide (i < j)) := rfl
theorem cLe : cmpD .LtE (.int i) (.int j) μ = some (decide (i ≤ j)) := rfl
theorem cGt : cmpD .Gt (.int i) (.int j) μ = some (decide (j < i)) := rfl
theorem cGe : cmpD .GtE (.int i) (.int j) μ = some (decide (j ≤ i)) := rfl
theorem eqv_int : PyData.eqv (.int i) (.int j) = decide (i = j) := by
  unfold PyData.eqv
  first | rfl | simp
theorem cEqI : cmpD .Eq (.int i) (.int j) μ = some (decide (i = j)) := by
  simp [cmpD, D.top, eqD, D.dat, D.py, eqv_int, PyData.depth]
theorem cNeI : cmpD .NotEq (.int i) (.int j) μ = some (decide (i ≠ j)) := by
  simp [cmpD, D.top, eqD, D.dat, D.py, eqv_int, PyData.depth]
theorem cEqB {a b : Bool} : cmpD .Eq (.bl a) (.bl b) μ = some (decide (a = b)) := by
  cases a <;> cases b <;> simp [cmpD, D.top, eqD, D.dat, D.py, PyData.eqv, PyData.depth] <;> rfl
theorem cNeB {a b : Bool} : cmpD .NotEq (.bl a) (.bl b) μ = some (decide (a ≠ b)) := by
  cases a <;> cases b <;> simp [cmpD, D.top, eqD, D.dat, D.py, PyData.eqv, PyData.depth] <;> rfl
theorem cIs {x : D} : cmpD .Is x .non μ = some (match x with | .non => true | _ => false) := by cases x <;> rfl
theorem cIsNot {x : D} : cmpD .IsNot x .non μ = some (match x with | .non => false | _ => true) := by cases x <;> rfl
end
end EV

set_option Elab.async false
set_option linter.all false
set_option maxRecDepth 100000
set_option maxHeartbeats 1000000
namespace EV
open PySem PySem.Spec PyProof.Rows L2
/-! nodes -/
structure Nd (c Q : Prop) : Prop where
  c : c
  q : Q
structure If (d : D) (A B : Prop) : Prop where
  h : (d = .bl true ∧ A) ∨ (d = .bl false ∧ B)
structure Ow {α : Type} (x : Option α) (Q : α → Prop) : Prop where
  h : ∃ a, x = some a ∧ Q a
structure Cw (c : Cal) (f : Nat) (ds : List D) (μ : Sto) (Q : Bool → D → Sto → Prop) : Prop where
  h : ∃ o d μ', c f ds μ = some ((o, d), μ') ∧ Q o d μ'
structure Mw (c : Mak) (k : Nat) (ds : List D) (μ : Sto) (Q : D → Sto → Prop) : Prop where
  h : ∃ d μ', c k ds μ = some (d, μ') ∧ Q d μ'
def Wv {α : Type} (x : Option (α × Sto)) (Q : α → Sto → Prop) : Prop := ∃ a m, x = some (a, m) ∧ Q a m
def Ws (x : Option Out) (N : Rho → Sto → Prop) (R : Bool → D → Sto → Prop) : Prop := (∃ ρ μ, x = some (.nx ρ μ) ∧ N ρ μ) ∨ ∃ o d μ, x = some (.rt o d μ) ∧ R o d μ
structure Fw (g : Gd) (f : D → Rho → Sto → Option Out) (xs : List D) (ρ : Rho) (μ : Sto) (N : Rho → Sto → Prop) (R : Bool → D → Sto → Prop) : Prop where
  h : Ws (forL g f xs ρ μ) N R
structure Lw (g : Gd) (f : D → Sto → Option (Option D × Sto)) (xs : List D) (μ : Sto) (Q : List D → Sto → Prop) : Prop where
  h : Wv (lcL g f xs μ) Q
/-- a method, by the class of what it is called of -/
structure Dw (T : Tab) (m : Nat) (x : D) (Q : Nat → Prop) : Prop where
  h : ∃ c ds f, x = .obj c ds ∧ T.meth c m = some f ∧ Q f
structure Hw (c : Rho → Sto → Option (D × Sto)) (b : Rho → Sto → Option Out) (ρ : Rho) (μ : Sto) (N : Rho → Sto → Prop) (R : Bool → D → Sto → Prop) : Prop where
  h : Ws (whlL c b FUEL ρ μ) N R
def vBin (op : Operator) (x y : D) (Q : D → Prop) : Prop := match x, y with
  | .int i, .int j => (match op with
    | .Add => Q (.int (i + j))
    | .Sub => Q (.int (i - j))
    | .Mult => Nd ((-18446744073709551616 < i ∧ i < 18446744073709551616) ∨ (-18446744073709551616 < j ∧ j < 18446744073709551616)) (Q (.int (i * j)))
    | .FloorDiv => Nd (0 < j ∧ j < 18446744073709551616) (Q (.int (i / j)))
    | .Mod => Nd (0 < j) (Q (.int (i % j)))
    | op => Ow (binD op (.int i) (.int j)) Q)
  | x, y => Ow (binD op x y) Q
def vCmp0 (op : CmpOp) (x y : D) (μ : Sto) (Q : Bool → Prop) : Prop := match x, y with
  | .int i, .int j => (match op with
    | .Eq => Q (decide (i = j))
    | .NotEq => Q (decide (i ≠ j))
    | .Lt => Q (decide (i < j))
    | .LtE => Q (decide (i ≤ j))
    | .Gt => Q (decide (j < i))
    | .GtE => Q (decide (j ≤ i))
    | op => Ow (cmpD op (.int i) (.int j) μ) Q)
  | .bl i, .bl j => (match op with
    | .Eq => Q (decide (i = j))
    | .NotEq => Q (decide (i ≠ j))
    | op => Ow (cmpD op (.bl i) (.bl j) μ) Q)
  | x, .non => (match op with
    | .Is => (match x with | .non => Q true | .int _ => Q false | x => Ow (cmpD .Is x .non μ) Q)
    | .IsNot => (match x with | .non => Q false | .int _ => Q true | x => Ow (cmpD .IsNot x .non μ) Q)
    | op => Ow (cmpD op x .non μ) Q)
  | x, y => Ow (cmpD op x y μ) Q
def vCmp (op : CmpOp) (x y : D) (μ : Sto) (Q : Bool → Prop) : Prop := match op with
  | .In => Ow (cmpD .In x y μ) Q
  | .NotIn => Ow (cmpD .NotIn x y μ) Q
  | op => vCmp0 op x y μ Q
def vSub (x y : D) (μ : Sto) (Q : D → Prop) : Prop := match x, y with
  | .lst xs, .int i => Ow (atI xs i) Q
  | .tup xs, .int i => Ow (atI xs i) Q
  | .cell n, .int i => Ow μ[n]? (fun d => Ow (asSeq d) (fun xs => Ow (atI xs i) Q))
  | x, y => Ow (subD x y μ) Q
def vBi (b : Bi) (x : D) (μ : Sto) (Q : D → Prop) : Prop := match b, x with
  | .len, .lst xs => Q (.int xs.length)
  | .len, .tup xs => Q (.int xs.length)
  | .int, .bl b => Q (.int (if b then 1 else 0))
  | .int, .int i => Q (.int i)
  | .int, .str s => Ow (PySem.intText? s) fun n => Nd (s.length ≤ 640) (Q (.int n))
  | b, x => Ow (biD b x μ) Q
def vFld (T : Tab) (x : D) (f : Nat) (μ : Sto) (Q : D → Prop) : Prop := Ow (fieldD T x f μ) Q
section
variable (T : Tab) (cal : Cal) (mak : Mak)
noncomputable def bodF (tg : Tg) (b : Ss) : D → Rho → Sto → Option Out := fun d ρ μ => (bindTg tg d ρ).bind fun ρ' => exs T cal mak b ρ' μ
noncomputable def bodL (el : E) (tg : Tg) (c : Eo) (ρ : Rho) : D → Sto → Option (Option D × Sto) := fun d μ => (bindTg tg d (wipeR ρ tg.slots)).bind fun ρ' => (evC T cal mak c ρ' μ).bind fun b =>
      if b.1 = true then (ev T cal mak el ρ' b.2).bind fun y => some (some y.1, y.2) else some (none, b.2)
mutual
def vE : E → Rho → Sto → (D → Sto → Prop) → Prop
  | .k d, _, μ, Q => Q d μ
  | .gl g, _, μ, Q => (match T.con[g]? with | some q => Q q.2 μ | none => False)
  | .v i, ρ, μ, Q => (match ρ[i]? with | some (.fz d) => Q d μ | _ => False)
  | .bin op a b, ρ, μ, Q => vE a ρ μ fun x μ => vE b ρ μ fun y μ => vBin op x y fun z => Q z μ
  | .neg a, ρ, μ, Q => vE a ρ μ fun x μ => (match x with | .int i => Q (.int (-i)) μ | _ => False)
  | .not a, ρ, μ, Q => vE a ρ μ fun x μ => (match x with | .bl b => Q (.bl (!b)) μ | _ => False)
  | .cmp op a b, ρ, μ, Q => vR a ρ μ fun x μ => vR b ρ μ fun y μ => vCmp op x y μ fun z => Q (.bl z) μ
  | .chn o1 o2 a b c, ρ, μ, Q => vE a ρ μ fun x μ => vE b ρ μ fun y μ => vCmp o1 x y μ fun z => If (.bl z) (vE c ρ μ fun w μ => vCmp o2 y w μ fun z => Q (.bl z) μ) (Q (.bl false) μ)
  | .and a b, ρ, μ, Q => vE a ρ μ fun x μ => If x (vE b ρ μ Q) (Q (.bl false) μ)
  | .or a b, ρ, μ, Q => vE a ρ μ fun x μ => If x (Q (.bl true) μ) (vE b ρ μ Q)
  | .tup es, ρ, μ, Q => vA es ρ μ fun xs μ => Q (.tup xs) μ
  | .frz o, ρ, μ, Q => vO o ρ μ Q
  | .box o, ρ, μ, Q => vO o ρ μ fun d μ => Q (.cell μ.length) (μ ++ [d])
  | .sub a i, ρ, μ, Q => vR a ρ μ fun x μ => vE i ρ μ fun y μ => vSub x y μ fun z => Q z μ
  | .attr a f, ρ, μ, Q => vE a ρ μ fun x μ => vFld T x f μ fun z => Q z μ
  | .call f es, ρ, μ, Q => vA es ρ μ fun xs μ => Cw cal f xs μ fun _ d μ => Q d μ
  | .make c es, ρ, μ, Q => vA es ρ μ fun xs μ => Mw mak c xs μ Q
  | .join s a, ρ, μ, Q => vE s ρ μ fun x μ => vR a ρ μ fun y μ => (match x with
    | .str z => Ow (y.top μ) fun d => Ow (asSeq d) fun xs => Ow (asStrs xs) fun ys => Nd ((ys.map (·.length)).sum + ys.length * z.length ≤ LIM ∧ sok (Txt.join z ys) = true) (Q (.str (Txt.join z ys)) μ)
    | _ => False)
  | .str1 a, ρ, μ, Q => vE a ρ μ fun x μ => (match x with
    | .int i => Nd (i.natAbs.log2 < 1920 ∧ sok (Str.ofString (toString i)) = true) (Q (.str (Str.ofString (toString i))) μ)
    | .str s => Q (.str s) μ
    | .tup ds => Nd ((D.tup ds).shw = true) (Q (.str (D.tup ds).py.shown) μ)
    | _ => False)
  | .tslc a lo hi, ρ, μ, Q => vE a ρ μ fun x μ => vX lo ρ μ fun l μ => vX hi ρ μ fun h μ => (match x with | .tup xs => Q (.tup (cutD xs l h)) μ | _ => False)
  | .sslc a lo hi, ρ, μ, Q => vE a ρ μ fun x μ => vX lo ρ μ fun l μ => vX hi ρ μ fun h μ => (match x with | .str s => Q (.str (cutS s l h)) μ | _ => False)
  | .fnv f, _, μ, Q => Q (.fn f) μ
  | .callv i es, ρ, μ, Q => vA es ρ μ fun xs μ => (match ρ[i]? with | some (.fz (.fn f)) => Cw cal f xs μ fun _ d μ => Q d μ | _ => False)
  | .tupl a, ρ, μ, Q => vR a ρ μ fun x μ => (match x with | .lst xs => Q (.tup xs) μ | .tup xs => Q (.tup xs) μ | x => Ow (x.top μ) fun d => Ow (asSeq d) fun xs => Q (.tup xs) μ)
  | .meth m o es, ρ, μ, Q => vE o ρ μ fun x μ => Dw T m x fun f => vA es ρ μ fun xs μ => Cw cal f (x :: xs) μ fun _ d μ => Q d μ
  | .lenset a, ρ, μ, Q => vR a ρ μ fun x μ => Ow (x.top μ) fun d => Ow (asLst d) fun xs => Ow (asStrs xs) fun ss => Nd (ss.length < 4000) (Q (.int ((nub ss).length : Nat)) μ)
  | .mind a e, ρ, μ, Q => vR a ρ μ fun x μ => vE e ρ μ fun y μ => Ow (x.top μ) fun v => Ow (asLst v) fun xs => Ow (asInts xs) fun ns => Q (match minDf ns with | none => y | some n => .int n) μ
  | .maxd a e, ρ, μ, Q => vR a ρ μ fun x μ => vE e ρ μ fun y μ => (match y with
    | .int d => Ow (x.top μ) fun v => Ow (asLst v) fun xs => Ow (asInts xs) fun ns => Q (.int (maxDf d ns)) μ
    | _ => False)
  | .idx a e, ρ, μ, Q => vR a ρ μ fun x μ => Ow (x.top μ) fun v => Ow (asLst v) fun _ => vE e ρ μ fun y μ => Ow (x.top μ) fun v => Ow (asLst v) fun xs => Ow (idxF y xs) fun j => Q (.int (j : Nat)) μ
  | .dget a k, ρ, μ, Q => vR a ρ μ fun x μ => vE k ρ μ fun y μ => Ow (x.top μ) fun d => Ow (asDct d) fun p => Ow (keyD y) fun kk => Nd (kk.isT = p.1) (Ow (lookD kk p.2) fun v => Q v μ)
  | .din neg k a, ρ, μ, Q => vE k ρ μ fun y μ => vR a ρ μ fun x μ => Ow (x.top μ) fun d => Ow (asDct d) fun p => Ow (keyD y) fun kk => Nd (kk.isT = p.1) (Q (.bl (if neg = true then !(lookD kk p.2).isSome else (lookD kk p.2).isSome)) μ)
  | .dgd a k e, ρ, μ, Q => vR a ρ μ fun x μ => Ow (x.top μ) fun d0 => Ow (asDct d0) fun _ => vE k ρ μ fun y μ => vE e ρ μ fun z μ => Ow (x.top μ) fun d => Ow (asDct d) fun p => Ow (keyD y) fun kk => Nd (kk.isT = p.1) (Q ((lookD kk p.2).getD z) μ)
  | .dne a, ρ, μ, Q => vR a ρ μ fun x μ => Ow (x.top μ) fun d => Ow (asDct d) fun p => Q (.bl (!p.2.isEmpty)) μ
  | .tget g k, ρ, μ, Q => vE k ρ μ fun y μ => Ow (T.tbF g y) fun o => Ow o fun f => Q (.fn f) μ
  | .tin neg k g, ρ, μ, Q => vE k ρ μ fun y μ => Ow (T.tbF g y) fun o => Q (.bl (if neg = true then !o.isSome else o.isSome)) μ
  | .mxv i, ρ, μ, Q => (match ρ[i]? with
    | some (.ow (.dct false kvs)) => Ow (asInts (kvs.map Prod.snd)) fun ns => (match ns with | [] => False | n :: r => Q (.int (maxI r n)) μ)
    | _ => False)
  | .cnt a e, ρ, μ, Q => vR a ρ μ fun x μ => Ow (x.top μ) fun v => Ow (asLst v) fun _ => vE e ρ μ fun y μ => Ow (x.top μ) fun v => Ow (asLst v) fun xs => Ow (asInts xs) fun ns => (match y with | .int k => Q (.int (ns.count k : Nat)) μ | _ => False)
  | .cntS a e, ρ, μ, Q => vR a ρ μ fun x μ => Ow (x.top μ) fun v => Ow (asLst v) fun _ => vE e ρ μ fun y μ => Ow (x.top μ) fun v => Ow (asLst v) fun xs => Ow (asStrs xs) fun ns => (match y with | .str k => Q (.int (ns.count k : Nat)) μ | _ => False)
  | .methC m o es, ρ, μ, Q => vE o ρ μ fun x μ => (match x with
    | .cell n => Ow μ[n]? fun d => Dw T m d fun f => vA es ρ μ fun xs μ => Cw cal f (.cell n :: xs) μ fun _ d μ => Q d μ
    | _ => False)
  | .mkM c f es, ρ, μ, Q => vA es ρ μ fun xs μ => Cw cal f (.cell μ.length :: xs) (μ ++ [.obj c []]) fun o d m => o = false ∧ d = .non ∧ Q (.cell μ.length) m
  | .bi b a, ρ, μ, Q => vR a ρ μ fun x μ => vBi b x μ fun z => Q z μ
  | .b2 b x y, ρ, μ, Q => vE x ρ μ fun x μ => vE y ρ μ fun y μ => Ow (b2D b x y) fun z => Q z μ
  | .isi a t, ρ, μ, Q => vE a ρ μ fun x μ => Ow (tyD T x t μ) fun b => Q (.bl b) μ
def vR : R → Rho → Sto → (D → Sto → Prop) → Prop
  | .e a, ρ, μ, Q => vE a ρ μ Q
  | .own i, ρ, μ, Q => (match ρ[i]? with | some (.ow d) => Q d μ | _ => False)
def vO : O → Rho → Sto → (D → Sto → Prop) → Prop
  | .lst es, ρ, μ, Q => vA es ρ μ fun xs μ => Q (.lst xs) μ
  | .lc el tg it c, ρ, μ, Q => vI it ρ μ fun xs g μ => Lw g (bodL T cal mak el tg c ρ) xs μ fun ys μ => Q (.lst ys) μ
  | .cat a b, ρ, μ, Q => vR a ρ μ fun x μ => vR b ρ μ fun y μ => Ow (x.top μ) fun x => Ow (y.top μ) fun y => Ow (asLst x) fun xs => Ow (asLst y) fun ys => Nd (xs.length + ys.length ≤ LIM) (Q (.lst (xs ++ ys)) μ)
  | .call f es, ρ, μ, Q => vA es ρ μ fun xs μ => Cw cal f xs μ fun o d μ => Nd (o = true) (Q d μ)
  | .slc a lo hi, ρ, μ, Q => vR a ρ μ fun x μ => vX lo ρ μ fun l μ => vX hi ρ μ fun h μ => (match x with | .lst xs => Q (.lst (cutD xs l h)) μ | x => Ow (x.top μ) fun d => Ow (asLst d) fun xs => Q (.lst (cutD xs l h)) μ)
  | .lst1 a, ρ, μ, Q => vR a ρ μ fun x μ => (match x with | .lst xs => Q (.lst xs) μ | .tup xs => Q (.lst xs) μ | x => Ow (x.top μ) fun d => Ow (asSeq d) fun xs => Q (.lst xs) μ)
  | .rev a, ρ, μ, Q => vR a ρ μ fun x μ => (match x with | .lst xs => Q (.lst xs.reverse) μ | x => Ow (x.top μ) fun d => Ow (asLst d) fun xs => Q (.lst xs.reverse) μ)
  | .split s t, ρ, μ, Q => vE s ρ μ fun x μ => vE t ρ μ fun y μ => (match x, y with
    | .str a, .str b => Nd ((b.length == 0) = false ∧ a.length + 2 ≤ LIM ∧ (Txt.split a b).all sok = true ∧ (Txt.split a b).length ≤ LIM) (Q (.lst ((Txt.split a b).map D.str)) μ)
    | _, _ => False)
  | .rep i k, ρ, μ, Q => vE k ρ μ fun y μ => (match ρ[i]?, y with
    | some (.ow (.lst xs)), .int k => Nd (-(2 ^ 63) ≤ k ∧ k < 2 ^ 63 ∧ xs.length * k.toNat ≤ LIM) (Q (.lst (List.replicate k.toNat xs).flatten) μ)
    | _, _ => False)
  | .repR a k, ρ, μ, Q => vR a ρ μ fun x μ => vE k ρ μ fun y μ => Ow (x.top μ) fun d => Ow (asLst d) fun xs => (match y with
    | .int k => Nd (-(2 ^ 63) ≤ k ∧ k < 2 ^ 63 ∧ xs.length * k.toNat ≤ LIM) (Q (.lst (List.replicate k.toNat xs).flatten) μ)
    | _ => False)
  | .srtg a, ρ, μ, Q => vR a ρ μ fun x μ => Ow (x.top μ) fun d => Ow (asLst d) fun xs => Nd (srtOk xs = true) (Q (.lst (xs.mergeSort leD)) μ)
  | .srt a, ρ, μ, Q => vR a ρ μ fun x μ => Ow (x.top μ) fun d => Ow (asSeq d) fun xs => Ow (srtD xs) fun ys => (match d with
    | .tup _ => Ow (asStrs xs) fun _ => Q (.lst ys) μ
    | _ => Q (.lst ys) μ)
  | .dct0 t, _, μ, Q => Q (.dct t []) μ
  | .dct1 k v, ρ, μ, Q => vE k ρ μ fun y μ => vE v ρ μ fun z μ => Ow (keyD y) fun kk => Nd (kk.isT = true) (Q (.dct true [(kk, z)]) μ)
  | .dctS k v, ρ, μ, Q => vE k ρ μ fun y μ => vE v ρ μ fun z μ => Ow (keyD y) fun kk => Nd (kk.isT = false) (Q (.dct false [(kk, z)]) μ)
  | .dctL a, ρ, μ, Q => vR a ρ μ fun x μ => Ow (x.top μ) fun d => Ow (asLst d) fun xs => Ow (pairsD xs) fun kvs => Nd ((kvs.map (·.1)).Nodup ∧ kvs.all (fun p => !p.1.isT) = true) (Q (.dct false kvs) μ)
  | .dcp a, ρ, μ, Q => vR a ρ μ fun x μ => Ow (x.top μ) fun d => Ow (asDct d) fun p => Nd (p.1 = false) (Q (.dct false p.2) μ)
  | .dctC ks es, ρ, μ, Q => vA es ρ μ fun xs μ => Nd (xs.length = ks.length ∧ ks.Nodup) (Q (.dct false ((ks.map DKey.s).zip xs)) μ)
  | .srtsetI a, ρ, μ, Q => vR a ρ μ fun x μ => Ow (x.top μ) fun d => Ow (asLst d) fun xs => Ow (asInts xs) fun ns => Nd (ns.length < 4000 ∧ (nubI ns).length < 64) (Q (.lst ((srtB ltI (nubI ns)).map D.int)) μ)
  | .srtk a, ρ, μ, Q => vR a ρ μ fun x μ => Ow (x.top μ) fun d => Ow (asDct d) fun p => Ow (keyStrs (p.2.map (·.1))) fun ss => Nd (p.1 = false ∧ ss.length < 64) (Q (.lst ((srtB ltS ss).map D.str)) μ)
  | .srtset a, ρ, μ, Q => vR a ρ μ fun x μ => Ow (x.top μ) fun d => Ow (asLst d) fun xs => Ow (asStrs xs) fun ss => Nd (ss.length < 4000 ∧ (nub ss).length < 64) (Q (.lst ((srtB ltS (nub ss)).map D.str)) μ)
def vX : Eo → Rho → Sto → (Option Int → Sto → Prop) → Prop
  | .no, _, μ, Q => Q none μ
  | .so e, ρ, μ, Q => vE e ρ μ fun x μ => (match x with | .int i => Q (some i) μ | _ => False)
def vA : Es → Rho → Sto → (List D → Sto → Prop) → Prop
  | .nil, _, μ, Q => Q [] μ
  | .cons e es, ρ, μ, Q => vE e ρ μ fun x μ => vA es ρ μ fun xs μ => Q (x :: xs) μ
def vI : It → Rho → Sto → (List D → Gd → Sto → Prop) → Prop
  | .lst a, ρ, μ, Q => vR a ρ μ fun x μ => (match x with | .lst xs => Q xs none μ | x => Ow (x.top μ) fun d => Ow (asLst d) fun xs => Q xs (seqGd x μ) μ)
  | .tup a, ρ, μ, Q => vE a ρ μ fun x μ => (match x with | .tup xs => Q xs none μ | _ => False)
  | .str a, ρ, μ, Q => vE a ρ μ fun x μ => (match x with | .str s => Q (s.cps.toList.map fun c => D.str ⟨#[c]⟩) none μ | _ => False)
  | .enumT a, ρ, μ, Q => vE a ρ μ fun x μ => (match x with | .tup xs => Q (xs.zipIdx.map fun p => D.tup [.int (p.2 : Nat), p.1]) none μ | _ => False)
  | .enum a, ρ, μ, Q => vE a ρ μ fun x μ => (match x with | .lst xs => Q (xs.zipIdx.map fun p => D.tup [.int (p.2 : Nat), p.1]) none μ | x => Ow (x.top μ) fun d => Ow (asLst d) fun xs => Q (xs.zipIdx.map fun p => D.tup [.int (p.2 : Nat), p.1]) (seqGd x μ) μ)
  | .zip a b, ρ, μ, Q => vE a ρ μ fun x μ => vE b ρ μ fun y μ => (match x, y with
    | .lst xs, .lst ys => Q ((xs.zip ys).map fun p => D.tup [p.1, p.2]) none μ
    | x, .lst ys => Ow (x.top μ) fun d => Ow (asLst d) fun xs => Q ((xs.zip ys).map fun p => D.tup [p.1, p.2]) (seqGd x μ) μ
    | .lst xs, .tup ys => Q ((xs.zip ys).map fun p => D.tup [p.1, p.2]) none μ
    | x, .tup ys => Ow (x.top μ) fun d => Ow (asLst d) fun xs => Q ((xs.zip ys).map fun p => D.tup [p.1, p.2]) (seqGd x μ) μ
    | _, _ => False)
  | .items a, ρ, μ, Q => vE a ρ μ fun x μ => (match x with | .dct _ kvs => Nd (kvs.length ≤ LIM) (Q (kvs.map fun p => D.tup [p.1.d, p.2]) none μ) | _ => False)
  | .itemsO o, ρ, μ, Q => vO o ρ μ fun x μ => (match x with | .dct _ kvs => Nd (kvs.length ≤ LIM) (Q (kvs.map fun p => D.tup [p.1.d, p.2]) none μ) | _ => False)
  | .keys a, ρ, μ, Q => vE a ρ μ fun x μ => (match x with | .dct _ kvs => Nd (kvs.length ≤ LIM) (Q (kvs.map fun p => p.1.d) none μ) | _ => False)
  | .rng a, ρ, μ, Q => vE a ρ μ fun x μ => (match x with | .int n => Nd (-1000000000 ≤ n ∧ n ≤ 16777216) (Q ((List.range n.toNat).map fun (i : Nat) => D.int i) none μ) | _ => False)
end
def vC : Eo → Rho → Sto → (Bool → Sto → Prop) → Prop
  | .no, _, μ, Q => Q true μ
  | .so e, ρ, μ, Q => vE T cal mak e ρ μ fun x μ => (match x with | .bl b => Q b μ | _ => False)
mutual
def vS : S → Rho → Sto → (Rho → Sto → Prop) → (Bool → D → Sto → Prop) → Prop
  | .set i e, ρ, μ, N, _ => vE T cal mak e ρ μ fun x μ => (match Nat.blt i ρ.length with | true => N (ρ.set i (.fz x)) μ | false => False)
  | .setO i o, ρ, μ, N, _ => vO T cal mak o ρ μ fun x μ => (match Nat.blt i ρ.length with | true => N (ρ.set i (.ow x)) μ | false => False)
  | .setT l e, ρ, μ, N, _ => vE T cal mak e ρ μ fun x μ => (match x with
    | .tup xs => Ow (setAll ρ l xs) fun ρ => N ρ μ
    | .lst xs => Ow (setAll ρ l xs) fun ρ => N ρ μ
    | x => Ow (x.top μ) fun d => Ow (asSeq d) fun xs => Ow (setAll ρ l xs) fun ρ => N ρ μ)
  | .frz i, ρ, μ, N, _ => (match ρ[i]? with | some (.ow d) => N (ρ.set i (.fz d)) μ | _ => False)
  | .setA i f e, ρ, μ, N, _ => vE T cal mak e ρ μ fun x μ => (match ρ[i]? with
    | some (.ow (.obj c xs)) => Ow (putD T c xs f x) fun ys => N (ρ.set i (.ow (.obj c ys))) μ
    | some (.fz (.cell n)) => Ow μ[n]? fun d => ∃ c xs, d = .obj c xs ∧ Ow (putD T c xs f x) fun ys => N ρ (μ.set n (.obj c ys))
    | _ => False)
  | .setIx a k e, ρ, μ, N, _ => vE T cal mak e ρ μ fun x μ => vE T cal mak a ρ μ fun y μ => vE T cal mak k ρ μ fun z μ => (match y, z with
    | .cell n, .int i => Ow μ[n]? fun d => Ow (asLst d) fun xs => Ow (ixN xs.length i) fun j => N ρ (μ.set n (.lst (xs.set j x)))
    | _, _ => False)
  | .app i e, ρ, μ0, N, _ => vE T cal mak e ρ μ0 fun x μ => (match ρ[i]? with
    | some (.ow (.lst xs)) => Nd (xs.length < LIM) (N (ρ.set i (.ow (.lst (xs ++ [x])))) μ)
    | some (.fz (.cell n)) => Ow μ0[n]? fun d0 => Ow (asLst d0) fun _ => Ow μ[n]? fun d => Ow (asLst d) fun xs => Nd (xs.length < LIM) (N ρ (μ.set n (.lst (xs ++ [x]))))
    | _ => False)
  | .ext i a, ρ, μ, N, _ => vR T cal mak a ρ μ fun x μ => Ow (x.top μ) fun d => Ow (asLst d) fun zs => (match ρ[i]? with
    | some (.ow (.lst xs)) => Nd (xs.length + zs.length ≤ LIM) (N (ρ.set i (.ow (.lst (xs ++ zs)))) μ)
    | _ => False)
  | .appE a e, ρ, μ, N, _ => vE T cal mak a ρ μ fun y μ => (match y with
    | .cell n => Ow μ[n]? fun d0 => Ow (asLst d0) fun _ => vE T cal mak e ρ μ fun x μ => Ow μ[n]? fun d => Ow (asLst d) fun xs => Nd (xs.length < LIM) (N ρ (μ.set n (.lst (xs ++ [x]))))
    | _ => False)
  | .remE a e, ρ, μ, N, _ => vE T cal mak a ρ μ fun y μ => (match y with
    | .cell n => Ow μ[n]? fun d0 => Ow (asLst d0) fun _ => vE T cal mak e ρ μ fun x μ => (match x with
      | .str s => Ow μ[n]? fun d => Ow (asLst d) fun xs => Ow (asStrs xs) fun ss => Nd (s ∈ ss) (N ρ (μ.set n (.lst ((ss.erase s).map D.str))))
      | _ => False)
    | _ => False)
  | .dputE a k e, ρ, μ, N, _ => vE T cal mak e ρ μ fun z μ => vE T cal mak a ρ μ fun c μ => vE T cal mak k ρ μ fun y μ => Ow (keyD y) fun kk => (match c with
    | .cell n => Ow (μ[n]?) fun d => Ow (asDct d) fun p => Nd (kk.isT = p.1 ∧ p.2.length < LIM) (N ρ (μ.set n (.dct p.1 (putDk p.2 kk z))))
    | _ => False)
  | .dput i k e, ρ, μ, N, _ => vE T cal mak e ρ μ fun z μ => vE T cal mak k ρ μ fun y μ => Ow (keyD y) fun kk => (match ρ[i]? with
    | some (.ow (.dct t kvs)) => Nd (kk.isT = t ∧ kvs.length < LIM) (N (ρ.set i (.ow (.dct t (putDk kvs kk z)))) μ)
    | some (.fz (.cell n)) => Ow (μ[n]?) fun d => Ow (asDct d) fun p => Nd (kk.isT = p.1 ∧ p.2.length < LIM) (N ρ (μ.set n (.dct p.1 (putDk p.2 kk z))))
    | _ => False)
  | .mv i j, ρ, μ, N, _ => (match ρ[j]? with | some (.ow d) => Nd (i < ρ.length ∧ i ≠ j) (N ((ρ.set j .un).set i (.ow d)) μ) | _ => False)
  | .appPop i j k, ρ, μ, N, _ => vE T cal mak k ρ μ fun x μ => (match ρ[i]?, ρ[j]?, x with
    | some (.ow (.lst xs)), some (.ow (.lst ys)), .int z => Nd (i ≠ j ∧ xs.length < LIM ∧ -(2 ^ 63) ≤ z ∧ z < 2 ^ 63) (Ow (ixN ys.length z) fun m => Ow ys[m]? fun d => N ((ρ.set j (.ow (.lst (ys.eraseIdx m)))).set i (.ow (.lst (xs ++ [d])))) μ)
    | _, _, _ => False)
  | .whl c b, ρ, μ, N, R => Hw (ev T cal mak c) (exs T cal mak b) ρ μ N R
  | .ex e, ρ, μ, N, _ => vE T cal mak e ρ μ fun _ μ => N ρ μ
  | .ret e, ρ, μ, _, R => vE T cal mak e ρ μ fun x μ => R false x μ
  | .retO o, ρ, μ, _, R => vO T cal mak o ρ μ fun x μ => R true x μ
  | .retS i, ρ, μ, _, R => (match ρ[i]? with | some (.ow d) => R true d μ | _ => False)
  | .ret0, _, μ, _, R => R false .non μ
  | .iff c a b, ρ, μ, N, R => vE T cal mak c ρ μ fun x μ => If x (vSs a ρ μ N R) (vSs b ρ μ N R)
  | .for tg it b, ρ, μ, N, R => vI T cal mak it ρ μ fun xs g μ => Fw g (bodF T cal mak tg b) xs ρ μ N R
  | .pas, ρ, μ, N, _ => N ρ μ
  | .bad, _, _, _, _ => False
  | .xs s, ρ, μ, N, R => vS s ρ μ N R
  | .rse _, _, _, _, _ => False
  | .try b _ _ _, ρ, μ, N, R => vSs b ρ μ N R
def vSs : Ss → Rho → Sto → (Rho → Sto → Prop) → (Bool → D → Sto → Prop) → Prop
  | .nil, ρ, μ, N, _ => N ρ μ
  | .cons s b, ρ, μ, N, R => vS s ρ μ (fun ρ μ => vSs b ρ μ N R) R
end
end
/-! they say true -/
theorem wv_bind {α β : Type} {x : Option (α × Sto)} {f : α × Sto → Option (β × Sto)} {Q : β → Sto → Prop} (h : Wv x fun a m => Wv (f (a, m)) Q) : Wv (x.bind f) Q := by
  obtain ⟨a, m, e, b, m', e2, q⟩ := h
  exact ⟨b, m', by rw [e]; exact e2, q⟩
theorem wv_some {α : Type} {a : α} {m : Sto} {Q : α → Sto → Prop} (h : Q a m) : Wv (some (a, m)) Q := ⟨a, m, rfl, h⟩
theorem wv_ow {α β : Type} {x : Option α} {f : α → Option (β × Sto)} {Q : β → Sto → Prop} (h : Ow x fun a => Wv (f a) Q) : Wv (x.bind f) Q := by
  obtain ⟨a, e, b, m', e2, q⟩ := h
  exact ⟨b, m', by rw [e]; exact e2, q⟩
theorem ow_mono {α : Type} {x : Option α} {Q R : α → Prop} (h : Ow x Q) (k : ∀ a, Q a → R a) : Ow x R := by
  obtain ⟨a, e, q⟩ := h
  exact ⟨a, e, k a q⟩
theorem wv_mono {α : Type} {x : Option (α × Sto)} {Q R : α → Sto → Prop} (h : Wv x Q) (k : ∀ a m, Q a m → R a m) : Wv x R := by
  obtain ⟨a, m, e, q⟩ := h
  exact ⟨a, m, e, k a m q⟩
theorem ow_if {α : Type} {c : Prop} [Decidable c] {x : α} {Q : α → Prop} (h : Nd c (Q x)) : Ow (if c then some x else none) Q := ⟨⟨x, if_pos h.c, h.q⟩⟩
theorem vBin_ok {op : Operator} {x y : D} {Q : D → Prop} (h : vBin op x y Q) : Ow (binD op x y) Q := by
  unfold vBin at h
  split at h
  · split at h
    · exact ⟨⟨_, rfl, h⟩⟩
    · exact ⟨⟨_, rfl, h⟩⟩
    · exact ow_if h
    · exact ow_if h
    · exact ow_if h
    · exact h
  · exact h
theorem vCmp0_ok {op : CmpOp} {x y : D} {μ : Sto} {Q : Bool → Prop} (h : vCmp0 op x y μ Q) : Ow (cmpD op x y μ) Q := by
  unfold vCmp0 at h
  split at h
  · split at h
    · exact ⟨⟨_, cEqI, h⟩⟩
    · exact ⟨⟨_, cNeI, h⟩⟩
    · exact ⟨⟨_, rfl, h⟩⟩
    · exact ⟨⟨_, rfl, h⟩⟩
    · exact ⟨⟨_, rfl, h⟩⟩
    · exact ⟨⟨_, rfl, h⟩⟩
    · exact h
  · split at h
    · exact ⟨⟨_, cEqB, h⟩⟩
    · exact ⟨⟨_, cNeB, h⟩⟩
    · exact h
  · split at h
    · split at h
      · exact ⟨⟨_, rfl, h⟩⟩
      · exact ⟨⟨_, rfl, h⟩⟩
      · exact h
    · split at h
      · exact ⟨⟨_, rfl, h⟩⟩
      · exact ⟨⟨_, rfl, h⟩⟩
      · exact h
    · exact h
  · exact h
theorem vCmp_ok {op : CmpOp} {x y : D} {μ : Sto} {Q : Bool → Prop} (h : vCmp op x y μ Q) : Ow (cmpD op x y μ) Q := by
  unfold vCmp at h
  split at h
  · exact h
  · exact h
  · exact vCmp0_ok h
theorem ow_bind {α β : Type} {x : Option α} {f : α → Option β} {Q : β → Prop} (h : Ow x fun a => Ow (f a) Q) : Ow (x.bind f) Q := by
  obtain ⟨a, e, b, e2, q⟩ := h
  exact ⟨b, by rw [e]; exact e2, q⟩
theorem vSub_ok {x y : D} {μ : Sto} {Q : D → Prop} (h : vSub x y μ Q) : Ow (subD x y μ) Q := by
  unfold vSub at h
  split at h
  · exact h
  · exact h
  · exact ow_bind (ow_mono h fun d hd => ow_bind hd)
  · exact h
theorem vBi_ok {b : Bi} {x : D} {μ : Sto} {Q : D → Prop} (h : vBi b x μ Q) : Ow (biD b x μ) Q := by
  unfold vBi at h
  split at h
  · exact ⟨⟨_, rfl, h⟩⟩
  · exact ⟨⟨_, rfl, h⟩⟩
  · exact ⟨⟨_, rfl, h⟩⟩
  · exact ⟨⟨_, rfl, h⟩⟩
  · exact ow_bind (ow_mono h fun n h => ow_if h)
  · exact h
section
variable (T : Tab) (cal : Cal) (mak : Mak)
mutual
theorem vE_ok : ∀ (e : E) {ρ : Rho} {μ : Sto} {Q : D → Sto → Prop}, vE T cal mak e ρ μ Q → Wv (ev T cal mak e ρ μ) Q
  | .k d, ρ, μ, Q, h => by unfold vE at h; unfold ev; exact wv_some h
  | .gl g, ρ, μ, Q, h => by
    unfold vE at h; unfold ev
    split at h
    · rename_i q hq; first | exact wv_some h | (rw [hq]; exact wv_some h)
    · exact False.elim h
  | .v i, ρ, μ, Q, h => by
    unfold vE at h; unfold ev
    split at h
    · rename_i q hq; first | exact wv_some h | (rw [hq]; exact wv_some h)
    · exact False.elim h
  | .bin op a b, ρ, μ, Q, h => by
    unfold vE at h; unfold ev
    exact wv_bind (wv_mono (vE_ok a h) fun x m h => wv_bind (wv_mono (vE_ok b h) fun y m h => wv_ow (ow_mono (vBin_ok h) fun z h => wv_some h)))
  | .neg a, ρ, μ, Q, h => by
    unfold vE at h; unfold ev
    refine wv_bind (wv_mono (vE_ok a h) fun x m h => ?_)
    split at h
    · exact wv_some h
    · exact False.elim h
  | .not a, ρ, μ, Q, h => by
    unfold vE at h; unfold ev
    refine wv_bind (wv_mono (vE_ok a h) fun x m h => ?_)
    split at h
    · exact wv_some h
    · exact False.elim h
  | .cmp op a b, ρ, μ, Q, h => by
    unfold vE at h; unfold ev
    exact wv_bind (wv_mono (vR_ok a h) fun x m h => wv_bind (wv_mono (vR_ok b h) fun y m h => wv_ow (ow_mono (vCmp_ok h) fun z h => wv_some h)))
  | .chn o1 o2 a b c, ρ, μ, Q, h => by
    unfold vE at h; unfold ev
    refine wv_bind (wv_mono (vE_ok a h) fun x m h => wv_bind (wv_mono (vE_ok b h) fun y m h => wv_ow (ow_mono (vCmp_ok h) fun z h => ?_)))
    rcases h.h with ⟨e, k⟩ | ⟨e, k⟩
    · cases e
      exact wv_bind (wv_mono (vE_ok c k) fun w m h => wv_ow (ow_mono (vCmp_ok h) fun z h => wv_some h))
    · cases e
      exact wv_some k
  | .and a b, ρ, μ, Q, h => by
    unfold vE at h; unfold ev
    refine wv_bind (wv_mono (vE_ok a h) fun x m h => ?_)
    rcases h.h with ⟨e, k⟩ | ⟨e, k⟩
    · subst e; exact vE_ok b k
    · subst e; exact wv_some k
  | .or a b, ρ, μ, Q, h => by
    unfold vE at h; unfold ev
    refine wv_bind (wv_mono (vE_ok a h) fun x m h => ?_)
    rcases h.h with ⟨e, k⟩ | ⟨e, k⟩
    · subst e; exact wv_some k
    · subst e; exact vE_ok b k
  | .tup es, ρ, μ, Q, h => by
    unfold vE at h; unfold ev
    exact wv_bind (wv_mono (vA_ok es h) fun x m h => wv_some h)
  | .frz o, ρ, μ, Q, h => by
    unfold vE at h; unfold ev
    exact vO_ok o h
  | .box o, ρ, μ, Q, h => by
    unfold vE at h; unfold ev
    exact wv_bind (wv_mono (vO_ok o h) fun x m h => wv_some h)
  | .sub a i, ρ, μ, Q, h => by
    unfold vE at h; unfold ev
    exact wv_bind (wv_mono (vR_ok a h) fun x m h => wv_bind (wv_mono (vE_ok i h) fun y m h => wv_ow (ow_mono (vSub_ok h) fun z h => wv_some h)))
  | .attr a f, ρ, μ, Q, h => by
    unfold vE at h; unfold ev
    exact wv_bind (wv_mono (vE_ok a h) fun x m h => wv_ow (ow_mono h fun z h => wv_some h))
  | .call f es, ρ, μ, Q, h => by
    unfold vE at h; unfold ev
    refine wv_bind (wv_mono (vA_ok es h) fun x m h => ?_)
    obtain ⟨o, d, m', e, q⟩ := h
    exact wv_ow ⟨⟨_, e, wv_some q⟩⟩
  | .make c es, ρ, μ, Q, h => by
    unfold vE at h; unfold ev
    refine wv_bind (wv_mono (vA_ok es h) fun x m h => ?_)
    obtain ⟨d, m', e, q⟩ := h
    exact ⟨d, m', e, q⟩
  | .meth m o es, ρ, μ, Q, h => by
    unfold vE at h; unfold ev
    refine wv_bind (wv_mono (vE_ok o h) fun x md h => ?_)
    obtain ⟨c, ds, f, hx, hf, h⟩ := h
    subst hx
    refine wv_ow ⟨⟨f, hf, wv_bind (wv_mono (vA_ok es h) fun xs md h => ?_)⟩⟩
    obtain ⟨o, d, m', e, q⟩ := h
    exact wv_ow ⟨⟨_, e, wv_some q⟩⟩
  | .join s a, ρ, μ, Q, h => by
    unfold vE at h; unfold ev
    refine wv_bind (wv_mono (vE_ok s h) fun x m h => wv_bind (wv_mono (vR_ok a h) fun y m h => ?_))
    split at h
    · refine wv_ow (ow_mono h fun d h => wv_ow (ow_mono h fun xs h => wv_ow (ow_mono h fun ys h => ?_)))
      simp only
      rw [if_pos h.c]
      exact wv_some h.q
    · exact False.elim h
  | .str1 a, ρ, μ, Q, h => by
    unfold vE at h; unfold ev
    refine wv_bind (wv_mono (vE_ok a h) fun x m h => ?_)
    split at h
    · simp only
      rw [if_pos h.c]
      exact wv_some h.q
    · exact wv_some h
    · simp only
      rw [if_pos h.c]
      exact wv_some h.q
    · exact False.elim h
  | .tslc a lo hi, ρ, μ, Q, h => by
    unfold vE at h; unfold ev
    refine wv_bind (wv_mono (vE_ok a h) fun x m h => wv_bind (wv_mono (vX_ok lo h) fun l m h => wv_bind (wv_mono (vX_ok hi h) fun hh m h => ?_)))
    split at h
    · exact wv_some h
    · exact False.elim h
  | .sslc a lo hi, ρ, μ, Q, h => by
    unfold vE at h; unfold ev
    refine wv_bind (wv_mono (vE_ok a h) fun x m h => wv_bind (wv_mono (vX_ok lo h) fun l m h => wv_bind (wv_mono (vX_ok hi h) fun hh m h => ?_)))
    split at h
    · exact wv_some h
    · exact False.elim h
  | .fnv f, ρ, μ, Q, h => by unfold vE at h; unfold ev; exact wv_some h
  | .callv i es, ρ, μ, Q, h => by
    unfold vE at h; unfold ev
    refine wv_bind (wv_mono (vA_ok es h) fun x m h => ?_)
    split at h
    · rename_i f hf
      try simp only [hf]
      obtain ⟨o, d, m', e, q⟩ := h
      exact wv_ow ⟨⟨_, e, wv_some q⟩⟩
    · exact False.elim h
  | .tupl a, ρ, μ, Q, h => by
    unfold vE at h; unfold ev
    refine wv_bind (wv_mono (vR_ok a h) fun x m h => ?_)
    split at h
    · exact wv_ow ⟨⟨_, rfl, wv_ow ⟨⟨_, rfl, wv_some h⟩⟩⟩⟩
    · exact wv_ow ⟨⟨_, rfl, wv_ow ⟨⟨_, rfl, wv_some h⟩⟩⟩⟩
    · exact wv_ow (ow_mono h fun d h => wv_ow (ow_mono h fun xs h => wv_some h))
  | .lenset a, ρ, μ, Q, h => by
    unfold vE at h; unfold ev
    refine wv_bind (wv_mono (vR_ok a h) fun x m h => wv_ow (ow_mono h fun d h => wv_ow (ow_mono h fun xs h => wv_ow (ow_mono h fun ss h => ?_))))
    simp only
    rw [if_pos h.c]
    exact wv_some h.q
  | .mind a e, ρ, μ, Q, h => by
    unfold vE at h; unfold ev
    exact wv_bind (wv_mono (vR_ok a h) fun x m h => wv_bind (wv_mono (vE_ok e h) fun y m h => wv_ow (ow_mono h fun d h => wv_ow (ow_mono h fun xs h => wv_ow (ow_mono h fun ss h => wv_some h)))))
  | .maxd a e, ρ, μ, Q, h => by
    unfold vE at h; unfold ev
    refine wv_bind (wv_mono (vR_ok a h) fun x m h => wv_bind (wv_mono (vE_ok e h) fun y m h => ?_))
    split at h
    · exact wv_ow (ow_mono h fun d h => wv_ow (ow_mono h fun xs h => wv_ow (ow_mono h fun ss h => wv_some h)))
    · exact False.elim h
  | .idx a e, ρ, μ, Q, h => by
    unfold vE at h; unfold ev
    exact wv_bind (wv_mono (vR_ok a h) fun x m h => wv_ow (ow_mono h fun _ h => wv_ow (ow_mono h fun _ h => wv_bind (wv_mono (vE_ok e h) fun y m h => wv_ow (ow_mono h fun d h => wv_ow (ow_mono h fun xs h => wv_ow (ow_mono h fun j h => wv_some h)))))))
  | .dget a k, ρ, μ, Q, h => by
    unfold vE at h; unfold ev
    refine wv_bind (wv_mono (vR_ok a h) fun x m h => wv_bind (wv_mono (vE_ok k h) fun y m h => wv_ow (ow_mono h fun d h => wv_ow (ow_mono h fun p h => wv_ow (ow_mono h fun kk h => ?_)))))
    simp only
    rw [if_pos h.c]
    exact wv_ow (ow_mono h.q fun v h => wv_some h)
  | .din neg k a, ρ, μ, Q, h => by
    unfold vE at h; unfold ev
    refine wv_bind (wv_mono (vE_ok k h) fun y m h => wv_bind (wv_mono (vR_ok a h) fun x m h => wv_ow (ow_mono h fun d h => wv_ow (ow_mono h fun p h => wv_ow (ow_mono h fun kk h => ?_)))))
    simp only
    rw [if_pos h.c]
    exact wv_some h.q
  | .dgd a k e, ρ, μ, Q, h => by
    unfold vE at h; unfold ev
    refine wv_bind (wv_mono (vR_ok a h) fun x m h => wv_ow (ow_mono h fun _ h => wv_ow (ow_mono h fun _ h => wv_bind (wv_mono (vE_ok k h) fun y m h => wv_bind (wv_mono (vE_ok e h) fun z m h => wv_ow (ow_mono h fun d h => wv_ow (ow_mono h fun p h => wv_ow (ow_mono h fun kk h => ?_))))))))
    simp only
    rw [if_pos h.c]
    exact wv_some h.q
  | .tget g k, ρ, μ, Q, h => by
    unfold vE at h; unfold ev
    exact wv_bind (wv_mono (vE_ok k h) fun y m h => wv_ow (ow_mono h fun o h => wv_ow (ow_mono h fun f h => wv_some h)))
  | .tin neg k g, ρ, μ, Q, h => by
    unfold vE at h; unfold ev
    exact wv_bind (wv_mono (vE_ok k h) fun y m h => wv_ow (ow_mono h fun o h => wv_some h))
  | .mxv i, ρ, μ, Q, h => by
    unfold vE at h; unfold ev
    split at h
    · rename_i kvs hk
      try rw [hk]
      refine wv_ow (ow_mono h fun ns h => ?_)
      split at h
      · exact False.elim h
      · exact wv_some h
    · exact False.elim h
  | .cnt a e, ρ, μ, Q, h => by
    unfold vE at h; unfold ev
    refine wv_bind (wv_mono (vR_ok a h) fun x m h => wv_ow (ow_mono h fun _ h => wv_ow (ow_mono h fun _ h => wv_bind (wv_mono (vE_ok e h) fun y m h => wv_ow (ow_mono h fun d h => wv_ow (ow_mono h fun xs h => wv_ow (ow_mono h fun ns h => ?_)))))))
    split at h
    · exact wv_some h
    · exact False.elim h
  | .cntS a e, ρ, μ, Q, h => by
    unfold vE at h; unfold ev
    refine wv_bind (wv_mono (vR_ok a h) fun x m h => wv_ow (ow_mono h fun _ h => wv_ow (ow_mono h fun _ h => wv_bind (wv_mono (vE_ok e h) fun y m h => wv_ow (ow_mono h fun d h => wv_ow (ow_mono h fun xs h => wv_ow (ow_mono h fun ns h => ?_)))))))
    split at h
    · exact wv_some h
    · exact False.elim h
  | .methC m o es, ρ, μ, Q, h => by
    unfold vE at h; unfold ev
    refine wv_bind (wv_mono (vE_ok o h) fun x md h => ?_)
    split at h
    · obtain ⟨d0, e0, c, ds, f, hx, hf, h⟩ := h
      subst hx
      try simp only [e0]
      refine wv_ow ⟨⟨f, hf, wv_bind (wv_mono (vA_ok es h) fun xs md h => ?_)⟩⟩
      obtain ⟨o, d, m', e, q⟩ := h
      exact wv_ow ⟨⟨_, e, wv_some q⟩⟩
    · exact False.elim h
  | .mkM c f es, ρ, μ, Q, h => by
    unfold vE at h; unfold ev
    refine wv_bind (wv_mono (vA_ok es h) fun xs m h => ?_)
    obtain ⟨o, d, m2, e, q1, q2, q3⟩ := h
    subst q1 q2
    simp only
    rw [e]
    exact wv_some q3
  | .dne a, ρ, μ, Q, h => by
    unfold vE at h; unfold ev
    exact wv_bind (wv_mono (vR_ok a h) fun x m h => wv_ow (ow_mono h fun d h => wv_ow (ow_mono h fun p h => wv_some h)))
  | .bi b a, ρ, μ, Q, h => by
    unfold vE at h; unfold ev
    exact wv_bind (wv_mono (vR_ok a h) fun x m h => wv_ow (ow_mono (vBi_ok h) fun z h => wv_some h))
  | .b2 b x y, ρ, μ, Q, h => by
    unfold vE at h; unfold ev
    exact wv_bind (wv_mono (vE_ok x h) fun x m h => wv_bind (wv_mono (vE_ok y h) fun y m h => wv_ow (ow_mono h fun z h => wv_some h)))
  | .isi a t, ρ, μ, Q, h => by
    unfold vE at h; unfold ev
    exact wv_bind (wv_mono (vE_ok a h) fun x m h => wv_ow (ow_mono h fun z h => wv_some h))
theorem vR_ok : ∀ (e : R) {ρ : Rho} {μ : Sto} {Q : D → Sto → Prop}, vR T cal mak e ρ μ Q → Wv (evR T cal mak e ρ μ) Q
  | .e a, ρ, μ, Q, h => by unfold vR at h; unfold evR; exact vE_ok a h
  | .own i, ρ, μ, Q, h => by
    unfold vR at h; unfold evR
    split at h
    · rename_i q hq; first | exact wv_some h | (rw [hq]; exact wv_some h)
    · exact False.elim h
theorem vO_ok : ∀ (e : O) {ρ : Rho} {μ : Sto} {Q : D → Sto → Prop}, vO T cal mak e ρ μ Q → Wv (evO T cal mak e ρ μ) Q
  | .lst es, ρ, μ, Q, h => by
    unfold vO at h; unfold evO
    exact wv_bind (wv_mono (vA_ok es h) fun x m h => wv_some h)
  | .lc el tg it c, ρ, μ, Q, h => by
    unfold vO at h; unfold evO
    refine wv_bind ?_
    obtain ⟨a, m, e, h⟩ := vI_ok it h
    exact ⟨a, m, e, wv_bind (wv_mono h.h fun x m h => wv_some h)⟩
  | .cat a b, ρ, μ, Q, h => by
    unfold vO at h; unfold evO
    refine wv_bind (wv_mono (vR_ok a h) fun x m h => wv_bind (wv_mono (vR_ok b h) fun y m h => wv_ow (ow_mono h fun x h => wv_ow (ow_mono h fun y h => wv_ow (ow_mono h fun xs h => wv_ow (ow_mono h fun ys h => ?_))))))
    simp only
    rw [if_pos h.c]
    exact wv_some h.q
  | .call f es, ρ, μ, Q, h => by
    unfold vO at h; unfold evO
    refine wv_bind (wv_mono (vA_ok es h) fun x m h => ?_)
    obtain ⟨o, d, m', e, q⟩ := h
    refine wv_ow ⟨⟨_, e, ?_⟩⟩
    simp only
    rw [if_pos q.c]
    exact wv_some q.q
  | .slc a lo hi, ρ, μ, Q, h => by
    unfold vO at h; unfold evO
    refine wv_bind (wv_mono (vR_ok a h) fun x m h => wv_bind (wv_mono (vX_ok lo h) fun l m h => wv_bind (wv_mono (vX_ok hi h) fun u m h => ?_)))
    split at h
    · exact wv_ow ⟨⟨_, rfl, wv_ow ⟨⟨_, rfl, wv_some h⟩⟩⟩⟩
    · exact wv_ow (ow_mono h fun d h => wv_ow (ow_mono h fun xs h => wv_some h))
  | .lst1 a, ρ, μ, Q, h => by
    unfold vO at h; unfold evO
    refine wv_bind (wv_mono (vR_ok a h) fun x m h => ?_)
    split at h
    · exact wv_ow ⟨⟨_, rfl, wv_ow ⟨⟨_, rfl, wv_some h⟩⟩⟩⟩
    · exact wv_ow ⟨⟨_, rfl, wv_ow ⟨⟨_, rfl, wv_some h⟩⟩⟩⟩
    · exact wv_ow (ow_mono h fun d h => wv_ow (ow_mono h fun xs h => wv_some h))
  | .rev a, ρ, μ, Q, h => by
    unfold vO at h; unfold evO
    refine wv_bind (wv_mono (vR_ok a h) fun x m h => ?_)
    split at h
    · exact wv_ow ⟨⟨_, rfl, wv_ow ⟨⟨_, rfl, wv_some h⟩⟩⟩⟩
    · exact wv_ow (ow_mono h fun d h => wv_ow (ow_mono h fun xs h => wv_some h))
  | .split s t, ρ, μ, Q, h => by
    unfold vO at h; unfold evO
    refine wv_bind (wv_mono (vE_ok s h) fun x m h => wv_bind (wv_mono (vE_ok t h) fun y m h => ?_))
    split at h
    · simp only
      rw [if_pos h.c]
      exact wv_some h.q
    · exact False.elim h
  | .repR a k, ρ, μ, Q, h => by
    unfold vO at h; unfold evO
    refine wv_bind (wv_mono (vR_ok a h) fun x m h => wv_bind (wv_mono (vE_ok k h) fun y m h => wv_ow (ow_mono h fun d h => wv_ow (ow_mono h fun xs h => ?_))))
    cases y <;> first | exact h.elim | skip
    simp only
    rw [if_pos h.c]
    exact wv_some h.q
  | .rep i k, ρ, μ, Q, h => by
    unfold vO at h; unfold evO
    refine wv_bind (wv_mono (vE_ok k h) fun y m h => ?_)
    split at h
    · rename_i h1
      simp only [h1]
      rw [if_pos h.c]
      exact wv_some h.q
    · exact False.elim h
  | .srtg a, ρ, μ, Q, h => by
    unfold vO at h; unfold evO
    refine wv_bind (wv_mono (vR_ok a h) fun x m h => wv_ow (ow_mono h fun d h => wv_ow (ow_mono h fun xs h => ?_)))
    simp only
    rw [if_pos h.c]
    exact wv_some h.q
  | .srt a, ρ, μ, Q, h => by
    unfold vO at h; unfold evO
    refine wv_bind (wv_mono (vR_ok a h) fun x m h => wv_ow (ow_mono h fun d h => wv_ow (ow_mono h fun xs h => wv_ow (ow_mono h fun ys h => ?_))))
    split at h
    · exact wv_ow (ow_mono h fun _ h => wv_some h)
    · rename_i hn
      first
        | exact wv_some h
        | (split <;> first | exact wv_some h | exact absurd rfl (hn _))
  | .dct0 t, ρ, μ, Q, h => by
    unfold vO at h; unfold evO
    exact wv_some h
  | .dct1 k v, ρ, μ, Q, h => by
    unfold vO at h; unfold evO
    refine wv_bind (wv_mono (vE_ok k h) fun y m h => wv_bind (wv_mono (vE_ok v h) fun z m h => wv_ow (ow_mono h fun kk h => ?_)))
    simp only
    rw [if_pos h.c]
    exact wv_some h.q
  | .dctS k v, ρ, μ, Q, h => by
    unfold vO at h; unfold evO
    refine wv_bind (wv_mono (vE_ok k h) fun y m h => wv_bind (wv_mono (vE_ok v h) fun z m h => wv_ow (ow_mono h fun kk h => ?_)))
    simp only
    rw [if_pos h.c]
    exact wv_some h.q
  | .dctL a, ρ, μ, Q, h => by
    unfold vO at h; unfold evO
    refine wv_bind (wv_mono (vR_ok a h) fun x m h => wv_ow (ow_mono h fun d h => wv_ow (ow_mono h fun xs h => wv_ow (ow_mono h fun kvs h => ?_))))
    simp only
    rw [if_pos h.c]
    exact wv_some h.q
  | .dcp a, ρ, μ, Q, h => by
    unfold vO at h; unfold evO
    refine wv_bind (wv_mono (vR_ok a h) fun x m h => wv_ow (ow_mono h fun d h => wv_ow (ow_mono h fun p h => ?_)))
    simp only
    rw [if_pos h.c]
    exact wv_some h.q
  | .dctC ks es, ρ, μ, Q, h => by
    unfold vO at h; unfold evO
    refine wv_bind (wv_mono (vA_ok es h) fun xs m h => ?_)
    simp only
    rw [if_pos h.c]
    exact wv_some h.q
  | .srtsetI a, ρ, μ, Q, h => by
    unfold vO at h; unfold evO
    refine wv_bind (wv_mono (vR_ok a h) fun x m h => wv_ow (ow_mono h fun d h => wv_ow (ow_mono h fun xs h => wv_ow (ow_mono h fun ns h => ?_))))
    simp only
    rw [if_pos h.c]
    exact wv_some h.q
  | .srtk a, ρ, μ, Q, h => by
    unfold vO at h; unfold evO
    refine wv_bind (wv_mono (vR_ok a h) fun x m h => wv_ow (ow_mono h fun d h => wv_ow (ow_mono h fun p h => wv_ow (ow_mono h fun ss h => ?_))))
    simp only
    rw [if_pos h.c]
    exact wv_some h.q
  | .srtset a, ρ, μ, Q, h => by
    unfold vO at h; unfold evO
    refine wv_bind (wv_mono (vR_ok a h) fun x m h => wv_ow (ow_mono h fun d h => wv_ow (ow_mono h fun xs h => wv_ow (ow_mono h fun ss h => ?_))))
    simp only
    rw [if_pos h.c]
    exact wv_some h.q
theorem vX_ok : ∀ (e : Eo) {ρ : Rho} {μ : Sto} {Q : Option Int → Sto → Prop}, vX T cal mak e ρ μ Q → Wv (evX T cal mak e ρ μ) Q
  | .no, ρ, μ, Q, h => by unfold vX at h; unfold evX; exact wv_some h
  | .so e, ρ, μ, Q, h => by
    unfold vX at h; unfold evX
    refine wv_bind (wv_mono (vE_ok e h) fun x m h => ?_)
    split at h
    · exact wv_some h
    · exact False.elim h
theorem vA_ok : ∀ (e : Es) {ρ : Rho} {μ : Sto} {Q : List D → Sto → Prop}, vA T cal mak e ρ μ Q → Wv (evs T cal mak e ρ μ) Q
  | .nil, ρ, μ, Q, h => by unfold vA at h; unfold evs; exact wv_some h
  | .cons e es, ρ, μ, Q, h => by
    unfold vA at h; unfold evs
    exact wv_bind (wv_mono (vE_ok e h) fun x m h => wv_bind (wv_mono (vA_ok es h) fun y m h => wv_some h))
theorem vI_ok : ∀ (e : It) {ρ : Rho} {μ : Sto} {Q : List D → Gd → Sto → Prop}, vI T cal mak e ρ μ Q → Wv (evI T cal mak e ρ μ) (fun a => Q a.1 a.2)
  | .lst a, ρ, μ, Q, h => by
    unfold vI at h; unfold evI
    refine wv_bind (wv_mono (vR_ok a h) fun x m h => ?_)
    split at h
    · exact wv_ow ⟨⟨_, rfl, wv_ow ⟨⟨_, rfl, wv_some h⟩⟩⟩⟩
    · exact wv_ow (ow_mono h fun d h => wv_ow (ow_mono h fun xs h => wv_some h))
  | .tup a, ρ, μ, Q, h => by
    unfold vI at h; unfold evI
    refine wv_bind (wv_mono (vE_ok a h) fun x m h => ?_)
    split at h
    · exact wv_some h
    · exact False.elim h
  | .str a, ρ, μ, Q, h => by
    unfold vI at h; unfold evI
    refine wv_bind (wv_mono (vE_ok a h) fun x m h => ?_)
    split at h
    · exact wv_some h
    · exact False.elim h
  | .enumT a, ρ, μ, Q, h => by
    unfold vI at h; unfold evI
    refine wv_bind (wv_mono (vE_ok a h) fun x m h => ?_)
    split at h
    · exact wv_some h
    · exact False.elim h
  | .enum a, ρ, μ, Q, h => by
    unfold vI at h; unfold evI
    refine wv_bind (wv_mono (vE_ok a h) fun x m h => ?_)
    split at h
    · exact wv_ow ⟨⟨_, rfl, wv_ow ⟨⟨_, rfl, wv_some h⟩⟩⟩⟩
    · exact wv_ow (ow_mono h fun d h => wv_ow (ow_mono h fun xs h => wv_some h))
  | .zip a b, ρ, μ, Q, h => by
    unfold vI at h; unfold evI
    refine wv_bind (wv_mono (vE_ok a h) fun x m h => wv_bind (wv_mono (vE_ok b h) fun y m h => ?_))
    split at h
    · exact wv_ow ⟨⟨_, rfl, wv_ow ⟨⟨_, rfl, wv_some h⟩⟩⟩⟩
    · exact wv_ow (ow_mono h fun d h => wv_ow (ow_mono h fun xs h => wv_some h))
    · exact wv_ow ⟨⟨_, rfl, wv_ow ⟨⟨_, rfl, wv_some h⟩⟩⟩⟩
    · exact wv_ow (ow_mono h fun d h => wv_ow (ow_mono h fun xs h => wv_some h))
    · exact False.elim h
  | .keys a, ρ, μ, Q, h => by
    unfold vI at h; unfold evI
    refine wv_bind (wv_mono (vE_ok a h) fun x m h => ?_)
    split at h
    · simp only
      rw [if_pos h.c]
      exact wv_some h.q
    · exact False.elim h
  | .items a, ρ, μ, Q, h => by
    unfold vI at h; unfold evI
    refine wv_bind (wv_mono (vE_ok a h) fun x m h => ?_)
    split at h
    · simp only
      rw [if_pos h.c]
      exact wv_some h.q
    · exact False.elim h
  | .itemsO o, ρ, μ, Q, h => by
    unfold vI at h; unfold evI
    refine wv_bind (wv_mono (vO_ok o h) fun x m h => ?_)
    split at h
    · simp only
      rw [if_pos h.c]
      exact wv_some h.q
    · exact False.elim h
  | .rng a, ρ, μ, Q, h => by
    unfold vI at h; unfold evI
    refine wv_bind (wv_mono (vE_ok a h) fun x m h => ?_)
    split at h
    · simp only
      rw [if_pos h.c]
      exact wv_some h.q
    · exact False.elim h
end
theorem vC_ok (e : Eo) {ρ : Rho} {μ : Sto} {Q : Bool → Sto → Prop} (h : vC T cal mak e ρ μ Q) : Wv (evC T cal mak e ρ μ) Q := by
  cases e with
  | no => unfold evC; exact wv_some h
  | so e =>
    unfold evC
    unfold vC at h
    refine wv_bind (wv_mono (vE_ok T cal mak e h) fun x m h => ?_)
    split at h
    · exact wv_some h
    · exact False.elim h
theorem ws_nx {ρ : Rho} {μ : Sto} {N : Rho → Sto → Prop} {R : Bool → D → Sto → Prop} (h : N ρ μ) : Ws (some (.nx ρ μ)) N R := .inl ⟨ρ, μ, rfl, h⟩
theorem ws_rt {o : Bool} {d : D} {μ : Sto} {N : Rho → Sto → Prop} {R : Bool → D → Sto → Prop} (h : R o d μ) : Ws (some (.rt o d μ)) N R := .inr ⟨o, d, μ, rfl, h⟩
theorem ws_v {α : Type} {x : Option (α × Sto)} {f : α × Sto → Option Out} {N : Rho → Sto → Prop} {R : Bool → D → Sto → Prop} (h : Wv x fun a m => Ws (f (a, m)) N R) : Ws (x.bind f) N R := by
  obtain ⟨a, m, e, q⟩ := h
  rw [e]
  exact q
theorem ws_ow {α : Type} {x : Option α} {f : α → Option Out} {N : Rho → Sto → Prop} {R : Bool → D → Sto → Prop} (h : Ow x fun a => Ws (f a) N R) : Ws (x.bind f) N R := by
  obtain ⟨a, e, q⟩ := h
  rw [e]
  exact q
theorem blt_of {i n : Nat} (h : Nat.blt i n = true) : i < n := by simpa [Nat.blt_eq] using h
mutual
theorem vS_ok : ∀ (s : S) {ρ : Rho} {μ : Sto} {N : Rho → Sto → Prop} {R : Bool → D → Sto → Prop}, vS T cal mak s ρ μ N R → Ws (ex T cal mak s ρ μ) N R
  | .set i e, ρ, μ, N, R, h => by
    unfold vS at h; unfold ex
    refine ws_v (wv_mono (vE_ok T cal mak e h) fun x m h => ?_)
    split at h
    · rename_i hb
      simp only
      rw [if_pos (blt_of hb)]
      exact ws_nx h
    · exact False.elim h
  | .setO i e, ρ, μ, N, R, h => by
    unfold vS at h; unfold ex
    refine ws_v (wv_mono (vO_ok T cal mak e h) fun x m h => ?_)
    split at h
    · rename_i hb
      simp only
      rw [if_pos (blt_of hb)]
      exact ws_nx h
    · exact False.elim h
  | .setT l e, ρ, μ, N, R, h => by
    unfold vS at h; unfold ex
    refine ws_v (wv_mono (vE_ok T cal mak e h) fun x m h => ?_)
    split at h
    · exact ws_ow ⟨⟨_, rfl, ws_ow ⟨⟨_, rfl, ws_ow (ow_mono h fun ρ h => ws_nx h)⟩⟩⟩⟩
    · exact ws_ow ⟨⟨_, rfl, ws_ow ⟨⟨_, rfl, ws_ow (ow_mono h fun ρ h => ws_nx h)⟩⟩⟩⟩
    · exact ws_ow (ow_mono h fun d h => ws_ow (ow_mono h fun xs h => ws_ow (ow_mono h fun ρ h => ws_nx h)))
  | .frz i, ρ, μ, N, R, h => by
    unfold vS at h; unfold ex
    split at h
    · rename_i hb
      first | exact ws_nx h | (rw [hb]; exact ws_nx h)
    · exact False.elim h
  | .setA i f e, ρ, μ, N, R, h => by
    unfold vS at h; unfold ex
    refine ws_v (wv_mono (vE_ok T cal mak e h) fun x m h => ?_)
    split at h
    · rename_i hb
      try simp only [hb]
      exact ws_ow (ow_mono h fun ys h => ws_nx h)
    · rename_i hb
      try simp only [hb]
      obtain ⟨d, e1, c, xs, e2, h⟩ := h
      subst e2
      rw [e1]
      exact ws_ow (ow_mono h fun ys h => ws_nx h)
    · exact False.elim h
  | .setIx a k e, ρ, μ, N, R, h => by
    unfold vS at h; unfold ex
    refine ws_v (wv_mono (vE_ok T cal mak e h) fun x m h => ws_v (wv_mono (vE_ok T cal mak a h) fun y m h => ws_v (wv_mono (vE_ok T cal mak k h) fun z m h => ?_)))
    split at h
    · obtain ⟨d, e1, xs, e2, h⟩ := h
      try simp only [e1]
      cases d <;> first | (cases e2; done) | skip
      cases e2
      exact ws_ow (ow_mono h fun ys h => ws_nx h)
    · exact False.elim h
  | .app i e, ρ, μ, N, R, h => by
    unfold vS at h; unfold ex
    refine ws_v (wv_mono (vE_ok T cal mak e h) fun x m h => ?_)
    split at h
    · rename_i hb
      try simp only [hb]
      rw [if_pos h.c]
      exact ws_nx h.q
    · rename_i hb
      try simp only [hb]
      obtain ⟨d0, e1, ys, e2, d, e3, xs, e4, h⟩ := h
      cases d0 <;> first | (cases e2; done) | skip
      cases d <;> first | (cases e4; done) | skip
      cases e2
      cases e4
      try simp only [e1, e3]
      rw [if_pos h.c]
      exact ws_nx h.q
    · exact False.elim h
  | .ext i a, ρ, μ, N, R, h => by
    unfold vS at h; unfold ex
    refine ws_v (wv_mono (vR_ok T cal mak a h) fun x m h => ws_ow (ow_mono h fun d h => ws_ow (ow_mono h fun zs h => ?_)))
    split at h
    · rename_i hb
      try simp only [hb]
      rw [if_pos h.c]
      exact ws_nx h.q
    · exact False.elim h
  | .appE a e, ρ, μ, N, R, h => by
    unfold vS at h; unfold ex
    refine ws_v (wv_mono (vE_ok T cal mak a h) fun y m h => ?_)
    split at h
    · obtain ⟨d0, e1, ys, e2, h⟩ := h
      cases d0 <;> first | (cases e2; done) | skip
      cases e2
      try simp only [e1]
      refine ws_v (wv_mono (vE_ok T cal mak e h) fun x m2 h => ?_)
      obtain ⟨d, e3, xs, e4, h⟩ := h
      cases d <;> first | (cases e4; done) | skip
      cases e4
      try simp only [e3]
      rw [if_pos h.c]
      exact ws_nx h.q
    · exact False.elim h
  | .remE a e, ρ, μ, N, R, h => by
    unfold vS at h; unfold ex
    refine ws_v (wv_mono (vE_ok T cal mak a h) fun y m h => ?_)
    split at h
    · obtain ⟨d0, e1, ys, e2, h⟩ := h
      cases d0 <;> first | (cases e2; done) | skip
      cases e2
      try simp only [e1]
      refine ws_v (wv_mono (vE_ok T cal mak e h) fun x m2 h => ?_)
      split at h
      · obtain ⟨d, e3, xs, e4, ss, e5, h⟩ := h
        cases d <;> first | (cases e4; done) | skip
        cases e4
        try simp only [e3]
        rw [e5]
        show Ws (if _ then _ else none) N R
        rw [if_pos h.c]
        exact ws_nx h.q
      · exact False.elim h
    · exact False.elim h
  | .dputE a k e, ρ, μ, N, R, h => by
    unfold vS at h; unfold ex
    refine ws_v (wv_mono (vE_ok T cal mak e h) fun z m h => ws_v (wv_mono (vE_ok T cal mak a h) fun c m h => ws_v (wv_mono (vE_ok T cal mak k h) fun y m h => ws_ow (ow_mono h fun kk h => ?_))))
    split at h
    · obtain ⟨d, e1, p, e2, h⟩ := h
      cases d <;> first | (cases e2; done) | skip
      cases e2
      try simp only [e1]
      rw [if_pos h.c]
      exact ws_nx h.q
    · exact False.elim h
  | .dput i k e, ρ, μ, N, R, h => by
    unfold vS at h; unfold ex
    refine ws_v (wv_mono (vE_ok T cal mak e h) fun z m h => ws_v (wv_mono (vE_ok T cal mak k h) fun y m h => ws_ow (ow_mono h fun kk h => ?_)))
    split at h
    · rename_i hb
      try simp only [hb]
      rw [if_pos h.c]
      exact ws_nx h.q
    · rename_i hb
      try simp only [hb]
      obtain ⟨d, e1, p, e2, h⟩ := h
      cases d <;> first | (cases e2; done) | skip
      cases e2
      try simp only [e1]
      rw [if_pos h.c]
      exact ws_nx h.q
    · exact False.elim h
  | .mv i j, ρ, μ, N, R, h => by
    unfold vS at h; unfold ex
    split at h
    · rename_i hb
      try simp only [hb]
      rw [if_pos h.c]
      exact ws_nx h.q
    · exact False.elim h
  | .appPop i j k, ρ, μ, N, R, h => by
    unfold vS at h; unfold ex
    refine ws_v (wv_mono (vE_ok T cal mak k h) fun x m h => ?_)
    split at h
    · rename_i hb1 hb2
      try simp only [hb1, hb2]
      rw [if_pos h.c]
      exact ws_ow (ow_mono h.q fun z h => ws_ow (ow_mono h fun d h => ws_nx h))
    · exact False.elim h
  | .whl c b, ρ, μ, N, R, h => by
    unfold vS at h; unfold ex
    exact h.h
  | .ex e, ρ, μ, N, R, h => by
    unfold vS at h; unfold ex
    exact ws_v (wv_mono (vE_ok T cal mak e h) fun x m h => ws_nx h)
  | .ret e, ρ, μ, N, R, h => by
    unfold vS at h; unfold ex
    exact ws_v (wv_mono (vE_ok T cal mak e h) fun x m h => ws_rt h)
  | .retO e, ρ, μ, N, R, h => by
    unfold vS at h; unfold ex
    exact ws_v (wv_mono (vO_ok T cal mak e h) fun x m h => ws_rt h)
  | .retS i, ρ, μ, N, R, h => by
    unfold vS at h; unfold ex
    split at h
    · rename_i hb
      first | exact ws_rt h | (rw [hb]; exact ws_rt h)
    · exact False.elim h
  | .ret0, ρ, μ, N, R, h => by
    unfold vS at h; unfold ex
    exact ws_rt h
  | .iff c a b, ρ, μ, N, R, h => by
    unfold vS at h; unfold ex
    refine ws_v (wv_mono (vE_ok T cal mak c h) fun x m h => ?_)
    rcases h.h with ⟨e, k⟩ | ⟨e, k⟩
    · subst e; exact vSs_ok a k
    · subst e; exact vSs_ok b k
  | .for tg it b, ρ, μ, N, R, h => by
    unfold vS at h; unfold ex
    obtain ⟨a, m, e, h⟩ := vI_ok T cal mak it h
    exact ws_v ⟨a, m, e, h.h⟩
  | .pas, ρ, μ, N, R, h => by
    unfold vS at h; unfold ex
    exact ws_nx h
  | .bad, ρ, μ, N, R, h => by
    unfold vS at h
    exact False.elim h
  | .xs s, ρ, μ, N, R, h => by
    unfold vS at h; unfold ex
    rcases vS_ok s h with ⟨ρ', μ', e, h⟩ | ⟨o, d, μ', e, h⟩
    · rw [e]; exact ws_nx h
    · rw [e]; exact ws_rt h
  | .rse _, ρ, μ, N, R, h => by
    unfold vS at h
    exact False.elim h
  | .try b c i hh, ρ, μ, N, R, h => by
    unfold vS at h; unfold ex
    rcases vSs_ok b h with ⟨ρ', μ', e, h⟩ | ⟨o, d, μ', e, h⟩
    · rw [e]; exact ws_nx h
    · rw [e]; exact ws_rt h
theorem vSs_ok : ∀ (s : Ss) {ρ : Rho} {μ : Sto} {N : Rho → Sto → Prop} {R : Bool → D → Sto → Prop}, vSs T cal mak s ρ μ N R → Ws (exs T cal mak s ρ μ) N R
  | .nil, ρ, μ, N, R, h => by unfold vSs at h; unfold exs; exact ws_nx h
  | .cons s b, ρ, μ, N, R, h => by
    unfold vSs at h; unfold exs
    rcases vS_ok s h with ⟨ρ', μ', e, h⟩ | ⟨o, d, μ', e, h⟩
    · rw [e]; exact vSs_ok b h
    · rw [e]; exact ws_rt h
end
end
end EV

set_option Elab.async false
set_option linter.all false
set_option maxRecDepth 100000
set_option maxHeartbeats 1000000
namespace EV
open PySem PySem.Spec PyProof.Rows L2
/-! rules -/
theorem v_fn {T : Tab} {n f : Nat} {F : Fn} {ds : List D} {μ : Sto} {Q : Bool → D → Sto → Prop} (hF : T.fn f = some F) (h : ds.length = F.ps.length) (hi : F.ini = false)
    (k : vSs T (sem T n).1 (sem T n).2 F.code (start F.N.length ds) μ (fun _ μ => Q false .non μ) Q) : Cw (sem T (n + 1)).1 f ds μ Q := by
  have e : (sem T (n + 1)).1 f ds μ = runF T (sem T n).1 (sem T n).2 F ds μ := by
    show (T.fn f).bind _ = _
    rw [hF]; rfl
  constructor
  rw [e]
  unfold runF
  rw [if_pos ⟨h, hi⟩]
  rcases vSs_ok T _ _ F.code k with ⟨ρ', μ', e, h⟩ | ⟨o, d, μ', e, h⟩
  · rw [e]; exact ⟨_, _, _, rfl, h⟩
  · rw [e]; exact ⟨_, _, _, rfl, h⟩
theorem v_mk {T : Tab} {n c : Nat} {kk : Cl} {F : Fn} {ds : List D} {μ : Sto} {Q : D → Sto → Prop} (hk : T.cl c = some kk) (hF : T.fn kk.init = some F) (h : ds.length + 1 = F.ps.length) (hi : F.ini = true)
    (k : vSs T (sem T n).1 (sem T n).2 F.code ((start F.N.length (.non :: ds)).set 0 (.ow (.obj c []))) μ (fun ρ μ => match (ρ[0]? : Option Slot) with | some (.ow (.obj c' xs)) => Q (.obj c' xs) μ | some (.fz d) => Q d μ | _ => False) (fun _ _ _ => False)) : Mw (sem T (n + 1)).2 c ds μ Q := by
  have e : (sem T (n + 1)).2 c ds μ = runI T (sem T n).1 (sem T n).2 F c ds μ := by
    show (match T.cl c with | some _ => mkC T (sem T n).1 (sem T n).2 c ds μ | none => mkX T (sem T n).1 (sem T n).2 c ds μ) = _
    rw [hk]
    simp only
    unfold mkC
    rw [hk]
    show (T.fn kk.init).bind _ = _
    rw [hF]; rfl
  constructor
  rw [e]
  unfold runI
  rw [if_pos ⟨h, hi⟩]
  rcases vSs_ok T _ _ F.code k with ⟨ρ', μ', e, h⟩ | ⟨o, d, μ', e, h⟩
  · rw [e]
    have h : (match (ρ'[0]? : Option Slot) with | some (.ow (.obj c' xs)) => Q (.obj c' xs) μ' | some (.fz d) => Q d μ' | _ => False) := h
    split at h
    · rename_i hd
      exact ⟨_, _, by simp only [Option.bind_some, hd], h⟩
    · rename_i hd
      exact ⟨_, _, by simp only [Option.bind_some, hd], h⟩
    · exact False.elim h
  · exact False.elim h
theorem cw_mono {c : Cal} {f : Nat} {ds : List D} {μ : Sto} {Q R : Bool → D → Sto → Prop} (h : Cw c f ds μ Q) (k : ∀ o d m, Q o d m → R o d m) : Cw c f ds μ R := by
  obtain ⟨o, d, m, e, q⟩ := h
  exact ⟨⟨o, d, m, e, k o d m q⟩⟩
theorem if_t {p : Prop} [Decidable p] {A B : Prop} (h : p) (a : A) : If (.bl (decide p)) A B := ⟨.inl ⟨by rw [decide_eq_true h], a⟩⟩
theorem if_f {p : Prop} [Decidable p] {A B : Prop} (h : ¬ p) (a : B) : If (.bl (decide p)) A B := ⟨.inr ⟨by rw [decide_eq_false h], a⟩⟩
theorem if_of {p : Prop} [Decidable p] {A B : Prop} (h1 : p → A) (h2 : ¬ p → B) : If (.bl (decide p)) A B := by
  by_cases h : p
  · exact if_t h (h1 h)
  · exact if_f h (h2 h)
theorem if_b {b : Bool} {A B : Prop} (h1 : b = true → A) (h2 : b = false → B) : If (.bl b) A B := by
  cases b
  · exact ⟨.inr ⟨rfl, h2 rfl⟩⟩
  · exact ⟨.inl ⟨rfl, h1 rfl⟩⟩
theorem if_T {A B : Prop} (h : A) : If (.bl true) A B := ⟨.inl ⟨rfl, h⟩⟩
theorem if_F {A B : Prop} (h : B) : If (.bl false) A B := ⟨.inr ⟨rfl, h⟩⟩
theorem if_nt {p : Prop} [Decidable p] {A B : Prop} (h : ¬ p) (a : A) : If (.bl (!decide p)) A B := ⟨.inl ⟨by rw [decide_eq_false h]; rfl, a⟩⟩
theorem if_nf {p : Prop} [Decidable p] {A B : Prop} (h : p) (a : B) : If (.bl (!decide p)) A B := ⟨.inr ⟨by rw [decide_eq_true h]; rfl, a⟩⟩
theorem if_n {p : Prop} [Decidable p] {A B : Prop} (h1 : ¬ p → A) (h2 : p → B) : If (.bl (!decide p)) A B := by
  by_cases h : p
  · exact if_nf h (h2 h)
  · exact if_nt h (h1 h)
theorem if_dT {b : Bool} {A B : Prop} (e : b = true) (h : A) : If (.bl b) A B := ⟨.inl ⟨by rw [e], h⟩⟩
theorem if_dF {b : Bool} {A B : Prop} (e : b = false) (h : B) : If (.bl b) A B := ⟨.inr ⟨by rw [e], h⟩⟩
theorem ow_r {α : Type} {x : Option α} {a : α} {Q : α → Prop} (e : x = some a) (h : Q a) : Ow x Q := ⟨⟨a, e, h⟩⟩
/-- a loop's law: what stands is I, told of the items that are left -/
theorem f_inv {f : D → Rho → Sto → Option Out} {N : Rho → Sto → Prop} {R : Bool → D → Sto → Prop} (I : List D → Rho → Sto → Prop) : ∀ {xs : List D} {ρ : Rho} {μ : Sto}, I xs ρ μ →
    (∀ x xs ρ μ, I (x :: xs) ρ μ → Ws (f x ρ μ) (fun ρ μ => I xs ρ μ) R) → (∀ ρ μ, I [] ρ μ → N ρ μ) → Fw none f xs ρ μ N R
  | [], ρ, μ, h, _, k => by
    constructor
    unfold forL
    rw [if_pos (by rfl)]
    exact ws_nx (k ρ μ h)
  | x :: xs, ρ, μ, h, st, k => by
    constructor
    unfold forL
    rw [if_pos (by rfl)]
    rcases st x xs ρ μ h with ⟨ρ', μ', e, h⟩ | ⟨o, d, μ', e, h⟩
    · rw [e]; exact (f_inv I h st k).h
    · rw [e]; exact ws_rt h
theorem f_nil {f : D → Rho → Sto → Option Out} {N : Rho → Sto → Prop} {R : Bool → D → Sto → Prop} {ρ : Rho} {μ : Sto} (h : N ρ μ) : Fw none f [] ρ μ N R := by
  constructor
  unfold forL
  rw [if_pos (by rfl)]
  exact ws_nx h
theorem f_cons {f : D → Rho → Sto → Option Out} {N : Rho → Sto → Prop} {R : Bool → D → Sto → Prop} {ρ : Rho} {μ : Sto} {x : D} {xs : List D} (h : Ws (f x ρ μ) (fun ρ μ => Fw none f xs ρ μ N R) R) : Fw none f (x :: xs) ρ μ N R := by
  constructor
  unfold forL
  rw [if_pos (by rfl)]
  rcases h with ⟨ρ', μ', e, h⟩ | ⟨o, d, μ', e, h⟩
  · rw [e]; exact h.h
  · rw [e]; exact ws_rt h
/-- the body of a loop over one name -/
theorem bod1 {T : Tab} {cal : Cal} {mak : Mak} {i : Nat} {b : Ss} {x : D} {ρ : Rho} {μ : Sto} {N : Rho → Sto → Prop} {R : Bool → D → Sto → Prop} (hi : Nat.blt i ρ.length = true) (h : vSs T cal mak b (ρ.set i (.fz x)) μ N R) : Ws (bodF T cal mak (.v i) b x ρ μ) N R := by
  unfold bodF
  have e : bindTg (.v i) x ρ = some (ρ.set i (.fz x)) := by
    show (if i < ρ.length then some (ρ.set i (.fz x)) else none) = _
    rw [if_pos (blt_of hi)]
  rw [e]
  exact vSs_ok T cal mak b h
theorem bodn {T : Tab} {cal : Cal} {mak : Mak} {l : List Nat} {b : Ss} {xs : List D} {ρ ρ' : Rho} {μ : Sto} {N : Rho → Sto → Prop} {R : Bool → D → Sto → Prop} (e : setAll ρ l xs = some ρ') (h : vSs T cal mak b ρ' μ N R) : Ws (bodF T cal mak (.tup l) b (.tup xs) ρ μ) N R := by
  unfold bodF
  have e : bindTg (.tup l) (.tup xs) ρ = some ρ' := e
  rw [e]
  exact vSs_ok T cal mak b h
/-- a comprehension's law -/
theorem l_inv {f : D → Sto → Option (Option D × Sto)} (I : List D → List D → Sto → Prop) : ∀ {xs acc : List D} {μ : Sto} {Q : List D → Sto → Prop}, I xs acc μ →
    (∀ x xs acc μ, I (x :: xs) acc μ → Wv (f x μ) (fun r μ => I xs (match r with | some y => acc ++ [y] | none => acc) μ)) → (∀ ys μ, I [] (acc ++ ys) μ → Q ys μ) → Lw none f xs μ Q
  | [], acc, μ, Q, h, st, k => by
    constructor
    unfold lcL
    rw [if_pos (by rfl)]
    exact wv_some (k [] μ (by rw [List.append_nil]; exact h))
  | x :: xs, acc, μ, Q, h, st, k => by
    constructor
    unfold lcL
    rw [if_pos (by rfl)]
    obtain ⟨r, m, e, h⟩ := st x xs acc μ h
    rw [e]
    cases r with
    | none =>
      show Wv ((lcL none f xs m).bind _) Q
      exact wv_bind (wv_mono (l_inv I h st k).h fun ys m q => wv_some q)
    | some y =>
      show Wv ((lcL none f xs m).bind _) Q
      exact wv_bind (wv_mono (l_inv (Q := fun ys m => Q (y :: ys) m) I h st fun ys m q => k (y :: ys) m (by rw [List.append_assoc] at q; exact q)).h fun ys m q => wv_some q)
theorem l_pure {f : D → Sto → Option (Option D × Sto)} {xs : List D} {μ : Sto} {Q : List D → Sto → Prop} (g : D → Option D) (h : ∀ x ∈ xs, Wv (f x μ) (fun r m => r = g x ∧ m = μ)) (k : Q (xs.filterMap g) μ) : Lw none f xs μ Q := by
  constructor
  rw [lcL_pure (h := g) xs μ fun x hx => by
    obtain ⟨r, m, e, q1, q2⟩ := h x hx
    rw [e, q1, q2]]
  exact wv_some k
theorem bodl1 {T : Tab} {cal : Cal} {mak : Mak} {i : Nat} {el : E} {x : D} {ρ : Rho} {μ : Sto} {Q : Option D → Sto → Prop} (hi : Nat.blt i (wipeR ρ [i]).length = true) (h : vE T cal mak el ((wipeR ρ [i]).set i (.fz x)) μ (fun y μ => Q (some y) μ)) : Wv (bodL T cal mak el (.v i) .no ρ x μ) Q := by
  unfold bodL
  have e : bindTg (.v i) x (wipeR ρ [i]) = some ((wipeR ρ [i]).set i (.fz x)) := by
    show (if i < (wipeR ρ [i]).length then some ((wipeR ρ [i]).set i (.fz x)) else none) = _
    rw [if_pos (blt_of hi)]
  show Wv ((bindTg (.v i) x (wipeR ρ [i])).bind _) Q
  rw [e]
  unfold evC
  show Wv ((ev T cal mak el ((wipeR ρ [i]).set i (.fz x)) μ).bind fun y => some (some y.1, y.2)) Q
  exact wv_bind (wv_mono (vE_ok T cal mak el h) fun y m h => wv_some h)
theorem bodl {T : Tab} {cal : Cal} {mak : Mak} {tg : Tg} {el : E} {c : Eo} {x : D} {ρ ρ' : Rho} {μ : Sto} {Q : Option D → Sto → Prop} (hi : bindTg tg x (wipeR ρ tg.slots) = some ρ')
    (h : vC T cal mak c ρ' μ (fun b μ => If (.bl b) (vE T cal mak el ρ' μ (fun y μ => Q (some y) μ)) (Q none μ))) : Wv (bodL T cal mak el tg c ρ x μ) Q := by
  unfold bodL
  rw [hi]
  refine wv_bind (wv_mono (vC_ok T cal mak c h) fun b m h => ?_)
  rcases h.h with ⟨e, k⟩ | ⟨e, k⟩
  · cases e
    exact wv_bind (wv_mono (vE_ok T cal mak el k) fun y m h => wv_some h)
  · cases e
    exact wv_some k
/-- a while's law: I, with the turns that are left at most -/
theorem w_inv {T : Tab} {cal : Cal} {mak : Mak} {c : E} {b : Ss} {ρ : Rho} {μ : Sto} {N : Rho → Sto → Prop} {R : Bool → D → Sto → Prop} (I : Nat → Rho → Sto → Prop) (m : Nat) (hm : m < 65536) (h : I m ρ μ)
    (st : ∀ m ρ μ, I m ρ μ → vE T cal mak c ρ μ fun x μ => If x (∃ m', m = m' + 1 ∧ vSs T cal mak b ρ μ (fun ρ μ => I m' ρ μ) R) (N ρ μ)) : Hw (ev T cal mak c) (exs T cal mak b) ρ μ N R := by
  have key : ∀ (f m : Nat) (ρ : Rho) (μ : Sto), m < f → I m ρ μ → Ws (whlL (ev T cal mak c) (exs T cal mak b) f ρ μ) N R := by
    intro f
    induction f with
    | zero => intro m ρ μ h; omega
    | succ f ih =>
      intro m ρ μ hf h
      unfold whlL
      refine ws_v (wv_mono (vE_ok T cal mak c (st m ρ μ h)) fun x μ h => ?_)
      rcases h.h with ⟨e, m', e2, k⟩ | ⟨e, k⟩
      · subst e
        simp only
        rcases vSs_ok T cal mak b k with ⟨ρ', μ', e, h⟩ | ⟨o, d, μ', e, h⟩
        · rw [e]; exact ih m' ρ' μ' (by omega) h
        · rw [e]; exact ws_rt h
      · subst e
        exact ws_nx k
  exact ⟨key FUEL m ρ μ hm h⟩
end EV

set_option Elab.async false
set_option linter.all false
set_option maxRecDepth 100000
set_option maxHeartbeats 1000000
namespace EV
open PySem PySem.Spec PyProof.Rows L2
/-! what may raise, forwards -/
/-- a call: Q of what it gives, X of what it raises -/
structure Cz (c : Cal) (m : Mak) (f : Nat) (ds : List D) (μ : Sto) (Q : Bool → D → Sto → Prop) (X : D → Sto → Prop) : Prop where
  h : (∃ o d μ', c f ds μ = some ((o, d), μ') ∧ Q o d μ') ∨ (c f ds μ = none ∧ ∃ x μ', m (XOFF + f) ds μ = some (x, μ') ∧ X x μ')
structure Mz (m : Mak) (k : Nat) (ds : List D) (μ : Sto) (Q : D → Sto → Prop) (X : D → Sto → Prop) : Prop where
  h : (∃ d μ', m k ds μ = some (d, μ') ∧ Q d μ') ∨ (m k ds μ = none ∧ ∃ x μ', m (2 * XOFF + k) ds μ = some (x, μ') ∧ X x μ')
def Wz {α : Type} (x : Option (α × Sto)) (y : Option (D × Sto)) (Q : α → Sto → Prop) (X : D → Sto → Prop) : Prop := Wv x Q ∨ (x = none ∧ Wv y X)
def Zs (x : Option Out) (N : Rho → Sto → Prop) (R : Bool → D → Sto → Prop) (X : D → Rho → Sto → Prop) : Prop := Ws x N R ∨ ∃ d ρ μ, x = some (.xc d ρ μ) ∧ X d ρ μ
structure Fz (g : Gd) (f : D → Rho → Sto → Option Out) (xs : List D) (ρ : Rho) (μ : Sto) (N : Rho → Sto → Prop) (R : Bool → D → Sto → Prop) (X : D → Rho → Sto → Prop) : Prop where
  h : Zs (forL g f xs ρ μ) N R X
structure Hz (c : Rho → Sto → Option (D × Sto)) (b : Rho → Sto → Option Out) (ρ : Rho) (μ : Sto) (N : Rho → Sto → Prop) (R : Bool → D → Sto → Prop) (X : D → Rho → Sto → Prop) : Prop where
  h : Zs (whlL c b FUEL ρ μ) N R X
section
variable (T : Tab) (cal : Cal) (mak : Mak)
mutual
def zE : E → Rho → Sto → (D → Sto → Prop) → (D → Sto → Prop) → Prop
  | .tup es, ρ, μ, Q, X => zA es ρ μ (fun xs μ => Q (.tup xs) μ) X
  | .frz o, ρ, μ, Q, X => zO o ρ μ Q X
  | .box o, ρ, μ, Q, X => zO o ρ μ (fun d μ => Q (.cell μ.length) (μ ++ [d])) X
  | .not a, ρ, μ, Q, X => zE a ρ μ (fun x μ => match x with | .bl b => Q (.bl (!b)) μ | _ => False) X
  | .and a b, ρ, μ, Q, X => zE a ρ μ (fun x μ => If x (zE b ρ μ Q X) (Q (.bl false) μ)) X
  | .or a b, ρ, μ, Q, X => zE a ρ μ (fun x μ => If x (Q (.bl true) μ) (zE b ρ μ Q X)) X
  | .cmp op a b, ρ, μ, Q, X => zR a ρ μ (fun x μ => zR b ρ μ (fun y μ => vCmp op x y μ fun z => Q (.bl z) μ) X) X
  | .sub a i, ρ, μ, Q, X => zR a ρ μ (fun x μ => zE i ρ μ (fun y μ => vSub x y μ fun z => Q z μ) X) X
  | .attr a f, ρ, μ, Q, X => zE a ρ μ (fun x μ => vFld T x f μ fun z => Q z μ) X
  | .bi b a, ρ, μ, Q, X => zR a ρ μ (fun x μ => vBi b x μ fun z => Q z μ) X
  | .call f es, ρ, μ, Q, X => zA es ρ μ (fun xs μ => Cz cal mak f xs μ (fun _ d μ => Q d μ) X) X
  | .make c es, ρ, μ, Q, X => zA es ρ μ (fun xs μ => Mz mak c xs μ Q X) X
  | .meth m o es, ρ, μ, Q, X => zE o ρ μ (fun x μ => Dw T m x fun f => zA es ρ μ (fun xs μ => Cz cal mak f (x :: xs) μ (fun _ d μ => Q d μ) X) X) X
  | .methC m o es, ρ, μ, Q, X => zE o ρ μ (fun x μ => match x with
    | .cell n => Ow μ[n]? fun d => Dw T m d fun f => zA es ρ μ (fun xs μ => Cz cal mak f (.cell n :: xs) μ (fun _ d μ => Q d μ) X) X
    | _ => False) X
  | .mkM c f es, ρ, μ, Q, X => zA es ρ μ (fun xs μ => Cz cal mak f (.cell μ.length :: xs) (μ ++ [.obj c []]) (fun o d m => o = false ∧ d = .non ∧ Q (.cell μ.length) m) X) X
  | .str1 a, ρ, μ, Q, X => zE a ρ μ (fun x μ => match x with
    | .int i => Nd (i.natAbs.log2 < 1920 ∧ sok (Str.ofString (toString i)) = true) (Q (.str (Str.ofString (toString i))) μ)
    | .str s => Q (.str s) μ
    | _ => False) X
  | e, ρ, μ, Q, _ => vE T cal mak e ρ μ Q
def zR : R → Rho → Sto → (D → Sto → Prop) → (D → Sto → Prop) → Prop
  | .e a, ρ, μ, Q, X => zE a ρ μ Q X
  | .own i, ρ, μ, Q, _ => vR T cal mak (.own i) ρ μ Q
def zO : O → Rho → Sto → (D → Sto → Prop) → (D → Sto → Prop) → Prop
  | .lst es, ρ, μ, Q, X => zA es ρ μ (fun xs μ => Q (.lst xs) μ) X
  | .call f es, ρ, μ, Q, X => zA es ρ μ (fun xs μ => Cz cal mak f xs μ (fun o d μ => Nd (o = true) (Q d μ)) X) X
  | o, ρ, μ, Q, _ => vO T cal mak o ρ μ Q
def zA : Es → Rho → Sto → (List D → Sto → Prop) → (D → Sto → Prop) → Prop
  | .nil, _, μ, Q, _ => Q [] μ
  | .cons e es, ρ, μ, Q, X => zE e ρ μ (fun x μ => zA es ρ μ (fun xs μ => Q (x :: xs) μ) X) X
end
mutual
def zX : S → Rho → Sto → (Rho → Sto → Prop) → (Bool → D → Sto → Prop) → (D → Rho → Sto → Prop) → Prop
  | .set i e, ρ, μ, N, _, X => zE T cal mak e ρ μ (fun x μ => match Nat.blt i ρ.length with | true => N (ρ.set i (.fz x)) μ | false => False) (fun x μ => X x ρ μ)
  | .setO i o, ρ, μ, N, _, X => zO T cal mak o ρ μ (fun x μ => match Nat.blt i ρ.length with | true => N (ρ.set i (.ow x)) μ | false => False) (fun x μ => X x ρ μ)
  | .setT l e, ρ, μ, N, _, X => zE T cal mak e ρ μ (fun x μ => match x with
    | .tup xs => Ow (setAll ρ l xs) fun ρ => N ρ μ
    | .lst xs => Ow (setAll ρ l xs) fun ρ => N ρ μ
    | x => Ow (x.top μ) fun d => Ow (asSeq d) fun xs => Ow (setAll ρ l xs) fun ρ => N ρ μ) (fun x μ => X x ρ μ)
  | .setA i f e, ρ, μ, N, _, X => zE T cal mak e ρ μ (fun x μ => match ρ[i]? with
    | some (.ow (.obj c xs)) => Ow (putD T c xs f x) fun ys => N (ρ.set i (.ow (.obj c ys))) μ
    | some (.fz (.cell n)) => Ow μ[n]? fun d => ∃ c xs, d = .obj c xs ∧ Ow (putD T c xs f x) fun ys => N ρ (μ.set n (.obj c ys))
    | _ => False) (fun x μ => X x ρ μ)
  | .ex e, ρ, μ, N, _, X => zE T cal mak e ρ μ (fun _ μ => N ρ μ) (fun x μ => X x ρ μ)
  | .ret e, ρ, μ, _, R, X => zE T cal mak e ρ μ (fun x μ => R false x μ) (fun x μ => X x ρ μ)
  | .retO o, ρ, μ, _, R, X => zO T cal mak o ρ μ (fun x μ => R true x μ) (fun x μ => X x ρ μ)
  | .iff c a b, ρ, μ, N, R, X => zE T cal mak c ρ μ (fun x μ => If x (zSs a ρ μ N R X) (zSs b ρ μ N R X)) (fun x μ => X x ρ μ)
  | s, ρ, μ, N, R, _ => vS T cal mak s ρ μ N R
def zS : S → Rho → Sto → (Rho → Sto → Prop) → (Bool → D → Sto → Prop) → (D → Rho → Sto → Prop) → Prop
  | .xs s, ρ, μ, N, R, X => zX s ρ μ N R X
  | .rse c, ρ, μ, _, _, X => X (.obj c []) ρ μ
  | .try b c i h, ρ, μ, N, R, X => zSs b ρ μ N R (fun x ρ' μ' => Ow (isaX T x c) fun m => match m with
    | true => Nd (unL i ρ' = true) (Ow (hexs T (hcal T) x h (unS i ρ')) fun q => match q with
      | .nx ρ2 => N (unS i ρ2) μ'
      | .rt d => R false d μ')
    | false => X x ρ' μ')
  | .iff c a b, ρ, μ, N, R, X => vE T cal mak c ρ μ fun x μ => If x (zSs a ρ μ N R X) (zSs b ρ μ N R X)
  | .for tg it b, ρ, μ, N, R, X => vI T cal mak it ρ μ fun xs g μ => Fz g (bodF T cal mak tg b) xs ρ μ N R X
  | .whl c b, ρ, μ, N, R, X => Hz (ev T cal mak c) (exs T cal mak b) ρ μ N R X
  | s, ρ, μ, N, R, _ => vS T cal mak s ρ μ N R
def zSs : Ss → Rho → Sto → (Rho → Sto → Prop) → (Bool → D → Sto → Prop) → (D → Rho → Sto → Prop) → Prop
  | .nil, ρ, μ, N, _, _ => N ρ μ
  | .cons s b, ρ, μ, N, R, X => zS s ρ μ (fun ρ μ => zSs b ρ μ N R X) R X
end
end
theorem wz_v {α : Type} {x : Option (α × Sto)} {y : Option (D × Sto)} {Q : α → Sto → Prop} {X : D → Sto → Prop} (h : Wv x Q) : Wz x y Q X := .inl h
section
variable (T : Tab) (cal : Cal) (mak : Mak)
mutual
theorem zE_ok : ∀ (e : E) {ρ : Rho} {μ : Sto} {Q X : D → Sto → Prop}, zE T cal mak e ρ μ Q X → Wz (ev T cal mak e ρ μ) (evx T cal mak e ρ μ) Q X
  | .tup es, ρ, μ, Q, X, h => by
    unfold zE at h; unfold ev evx
    rcases zA_ok es h with ⟨xs, m, e, q⟩ | ⟨e, x⟩
    · rw [e]; exact .inl (wv_some q)
    · rw [e]; exact .inr ⟨rfl, x⟩
  | .frz o, ρ, μ, Q, X, h => by
    unfold zE at h; unfold ev evx
    exact zO_ok o h
  | .box o, ρ, μ, Q, X, h => by
    unfold zE at h; unfold ev evx
    rcases zO_ok o h with ⟨xs, m, e, q⟩ | ⟨e, x⟩
    · rw [e]; exact .inl (wv_some q)
    · rw [e]; exact .inr ⟨rfl, x⟩
  | .not a, ρ, μ, Q, X, h => by
    unfold zE at h; unfold ev evx
    rcases zE_ok a h with ⟨d, m, e, q⟩ | ⟨e, x⟩
    · rw [e]
      cases d <;> first | exact q.elim | exact .inl (wv_some q)
    · rw [e]; exact .inr ⟨rfl, x⟩
  | .and a b, ρ, μ, Q, X, h => by
    unfold zE at h; unfold ev evx
    rcases zE_ok a h with ⟨d, m, e, q⟩ | ⟨e, x⟩
    · rw [e]
      obtain ⟨q⟩ := q
      rcases q with ⟨e0, q⟩ | ⟨e0, q⟩
      · subst e0; exact zE_ok b q
      · subst e0; exact .inl (wv_some q)
    · rw [e]; exact .inr ⟨rfl, x⟩
  | .or a b, ρ, μ, Q, X, h => by
    unfold zE at h; unfold ev evx
    rcases zE_ok a h with ⟨d, m, e, q⟩ | ⟨e, x⟩
    · rw [e]
      obtain ⟨q⟩ := q
      rcases q with ⟨e0, q⟩ | ⟨e0, q⟩
      · subst e0; exact .inl (wv_some q)
      · subst e0; exact zE_ok b q
    · rw [e]; exact .inr ⟨rfl, x⟩
  | .cmp op a b, ρ, μ, Q, X, h => by
    unfold zE at h; unfold ev evx
    rcases zR_ok a h with ⟨d, m, e, q⟩ | ⟨e, x⟩
    · rw [e]
      rcases zR_ok b q with ⟨d2, m2, e2, q⟩ | ⟨e2, x⟩
      · refine .inl ?_
        show Wv ((evR T cal mak b ρ m).bind _) Q
        rw [e2]
        show Wv ((cmpD op d d2 m2).bind _) Q
        exact wv_ow (ow_mono (vCmp_ok q) fun z h => wv_some h)
      · refine .inr ⟨?_, x⟩
        show (evR T cal mak b ρ m).bind _ = none
        rw [e2]; rfl
    · rw [e]; exact .inr ⟨rfl, x⟩
  | .sub a i, ρ, μ, Q, X, h => by
    unfold zE at h; unfold ev evx
    rcases zR_ok a h with ⟨d, m, e, q⟩ | ⟨e, x⟩
    · rw [e]
      rcases zE_ok i q with ⟨d2, m2, e2, q⟩ | ⟨e2, x⟩
      · refine .inl ?_
        show Wv ((ev T cal mak i ρ m).bind _) Q
        rw [e2]
        show Wv ((subD d d2 m2).bind _) Q
        exact wv_ow (ow_mono (vSub_ok q) fun z h => wv_some h)
      · refine .inr ⟨?_, x⟩
        show (ev T cal mak i ρ m).bind _ = none
        rw [e2]; rfl
    · rw [e]; exact .inr ⟨rfl, x⟩
  | .attr a f, ρ, μ, Q, X, h => by
    unfold zE at h; unfold ev evx
    rcases zE_ok a h with ⟨d, m, e, q⟩ | ⟨e, x⟩
    · rw [e]
      refine .inl ?_
      show Wv ((fieldD T d f m).bind _) Q
      exact wv_ow (ow_mono q fun z h => wv_some h)
    · rw [e]; exact .inr ⟨rfl, x⟩
  | .bi b a, ρ, μ, Q, X, h => by
    unfold zE at h; unfold ev evx
    rcases zR_ok a h with ⟨d, m, e, q⟩ | ⟨e, x⟩
    · rw [e]
      refine .inl ?_
      show Wv ((biD b d m).bind _) Q
      exact wv_ow (ow_mono (vBi_ok q) fun z h => wv_some h)
    · rw [e]; exact .inr ⟨rfl, x⟩
  | .call f es, ρ, μ, Q, X, h => by
    unfold zE at h; unfold ev evx
    rcases zA_ok es h with ⟨xs, m, e, q⟩ | ⟨e, x⟩
    · rw [e]
      rcases q.h with ⟨o, d, m2, e2, q⟩ | ⟨e2, d, m2, e3, q⟩
      · refine .inl ?_
        show Wv ((cal f xs m).bind _) Q
        rw [e2]; exact wv_some q
      · refine .inr ⟨?_, d, m2, e3, q⟩
        show (cal f xs m).bind _ = none
        rw [e2]; rfl
    · rw [e]; exact .inr ⟨rfl, x⟩
  | .make c es, ρ, μ, Q, X, h => by
    unfold zE at h; unfold ev evx
    rcases zA_ok es h with ⟨xs, m, e, q⟩ | ⟨e, x⟩
    · rw [e]
      rcases q.h with ⟨d, m2, e2, q⟩ | ⟨e2, d, m2, e3, q⟩
      · exact .inl ⟨d, m2, e2, q⟩
      · exact .inr ⟨e2, d, m2, e3, q⟩
    · rw [e]; exact .inr ⟨rfl, x⟩
  | .meth m o es, ρ, μ, Q, X, h => by
    unfold zE at h; unfold ev evx
    rcases zE_ok o h with ⟨d, m1, e, q⟩ | ⟨e, x⟩
    · rw [e]
      obtain ⟨c, ds, f, rfl, hf, q⟩ := q
      show Wz ((T.meth c m).bind _) ((T.meth c m).bind _) Q X
      rw [hf]
      rcases zA_ok es q with ⟨xs, m2, e2, q⟩ | ⟨e2, x⟩
      · show Wz ((evs T cal mak es ρ m1).bind _) _ Q X
        simp only [Option.bind_some, e2]
        rcases q.h with ⟨o, d, m2, e2, q⟩ | ⟨e2, d, m2, e3, q⟩
        · exact .inl (by rw [e2]; exact wv_some q)
        · exact .inr ⟨by rw [e2]; rfl, d, m2, e3, q⟩
      · show Wz ((evs T cal mak es ρ m1).bind _) _ Q X
        simp only [Option.bind_some, e2]
        exact .inr ⟨rfl, x⟩
    · rw [e]; exact .inr ⟨rfl, x⟩
  | .methC m o es, ρ, μ, Q, X, h => by
    unfold zE at h; unfold ev evx
    rcases zE_ok o h with ⟨d, m1, e, q⟩ | ⟨e, x⟩
    · rw [e]
      cases d <;> first | exact q.elim | skip
      rename_i n
      obtain ⟨d0, e0, c, ds, f, rfl, hf, q⟩ := q
      simp only [Option.bind_some, e0, hf]
      rcases zA_ok es q with ⟨xs, m2, e2, q⟩ | ⟨e2, x⟩
      · simp only [Option.bind_some, e2]
        rcases q.h with ⟨o, d, m2, e2, q⟩ | ⟨e2, d, m2, e3, q⟩
        · exact .inl (by rw [e2]; exact wv_some q)
        · exact .inr ⟨by rw [e2]; rfl, d, m2, e3, q⟩
      · simp only [e2]
        exact .inr ⟨rfl, x⟩
    · rw [e]; exact .inr ⟨rfl, x⟩
  | .mkM c f es, ρ, μ, Q, X, h => by
    unfold zE at h; unfold ev evx
    rcases zA_ok es h with ⟨xs, m, e, q⟩ | ⟨e, x⟩
    · rw [e]
      rcases q.h with ⟨o, d, m2, e2, q1, q2, q⟩ | ⟨e2, d, m2, e3, q⟩
      · refine .inl ?_
        subst q1 q2
        simp only [Option.bind_some, e2]
        exact wv_some q
      · refine .inr ⟨?_, d, m2, e3, q⟩
        simp only [Option.bind_some, e2]; rfl
    · rw [e]; exact .inr ⟨rfl, x⟩
  | .str1 a, ρ, μ, Q, X, h => by
    unfold zE at h; unfold ev evx
    rcases zE_ok a h with ⟨d, m, e, q⟩ | ⟨e, x⟩
    · rw [e]
      cases d <;> first | exact q.elim | skip
      · refine .inl ?_
        simp only [Option.bind_some]
        rw [if_pos q.c]
        exact wv_some q.q
      · exact .inl (wv_some q)
    · rw [e]; exact .inr ⟨rfl, x⟩
  | .k _, ρ, μ, Q, X, h => .inl (vE_ok T cal mak _ (by unfold zE at h; exact h))
  | .gl _, ρ, μ, Q, X, h => .inl (vE_ok T cal mak _ (by unfold zE at h; exact h))
  | .v _, ρ, μ, Q, X, h => .inl (vE_ok T cal mak _ (by unfold zE at h; exact h))
  | .bin _ _ _, ρ, μ, Q, X, h => .inl (vE_ok T cal mak _ (by unfold zE at h; exact h))
  | .neg _, ρ, μ, Q, X, h => .inl (vE_ok T cal mak _ (by unfold zE at h; exact h))
  | .chn _ _ _ _ _, ρ, μ, Q, X, h => .inl (vE_ok T cal mak _ (by unfold zE at h; exact h))
  | .join _ _, ρ, μ, Q, X, h => .inl (vE_ok T cal mak _ (by unfold zE at h; exact h))
  | .lenset _, ρ, μ, Q, X, h => .inl (vE_ok T cal mak _ (by unfold zE at h; exact h))
  | .maxd _ _, ρ, μ, Q, X, h => .inl (vE_ok T cal mak _ (by unfold zE at h; exact h))
  | .mind _ _, ρ, μ, Q, X, h => .inl (vE_ok T cal mak _ (by unfold zE at h; exact h))
  | .idx _ _, ρ, μ, Q, X, h => .inl (vE_ok T cal mak _ (by unfold zE at h; exact h))
  | .tslc _ _ _, ρ, μ, Q, X, h => .inl (vE_ok T cal mak _ (by unfold zE at h; exact h))
  | .sslc _ _ _, ρ, μ, Q, X, h => .inl (vE_ok T cal mak _ (by unfold zE at h; exact h))
  | .fnv _, ρ, μ, Q, X, h => .inl (vE_ok T cal mak _ (by unfold zE at h; exact h))
  | .callv _ _, ρ, μ, Q, X, h => .inl (vE_ok T cal mak _ (by unfold zE at h; exact h))
  | .tupl _, ρ, μ, Q, X, h => .inl (vE_ok T cal mak _ (by unfold zE at h; exact h))
  | .dget _ _, ρ, μ, Q, X, h => .inl (vE_ok T cal mak _ (by unfold zE at h; exact h))
  | .din _ _ _, ρ, μ, Q, X, h => .inl (vE_ok T cal mak _ (by unfold zE at h; exact h))
  | .dgd _ _ _, ρ, μ, Q, X, h => .inl (vE_ok T cal mak _ (by unfold zE at h; exact h))
  | .dne _, ρ, μ, Q, X, h => .inl (vE_ok T cal mak _ (by unfold zE at h; exact h))
  | .tget _ _, ρ, μ, Q, X, h => .inl (vE_ok T cal mak _ (by unfold zE at h; exact h))
  | .tin _ _ _, ρ, μ, Q, X, h => .inl (vE_ok T cal mak _ (by unfold zE at h; exact h))
  | .mxv _, ρ, μ, Q, X, h => .inl (vE_ok T cal mak _ (by unfold zE at h; exact h))
  | .cnt _ _, ρ, μ, Q, X, h => .inl (vE_ok T cal mak _ (by unfold zE at h; exact h))
  | .cntS _ _, ρ, μ, Q, X, h => .inl (vE_ok T cal mak _ (by unfold zE at h; exact h))
  | .b2 _ _ _, ρ, μ, Q, X, h => .inl (vE_ok T cal mak _ (by unfold zE at h; exact h))
  | .isi _ _, ρ, μ, Q, X, h => .inl (vE_ok T cal mak _ (by unfold zE at h; exact h))
theorem zR_ok : ∀ (e : R) {ρ : Rho} {μ : Sto} {Q X : D → Sto → Prop}, zR T cal mak e ρ μ Q X → Wz (evR T cal mak e ρ μ) (evxR T cal mak e ρ μ) Q X
  | .e a, ρ, μ, Q, X, h => by unfold zR at h; unfold evR evxR; exact zE_ok a h
  | .own i, ρ, μ, Q, X, h => by unfold zR at h; exact .inl (vR_ok T cal mak _ h)
theorem zO_ok : ∀ (e : O) {ρ : Rho} {μ : Sto} {Q X : D → Sto → Prop}, zO T cal mak e ρ μ Q X → Wz (evO T cal mak e ρ μ) (evxO T cal mak e ρ μ) Q X
  | .lst es, ρ, μ, Q, X, h => by
    unfold zO at h; unfold evO evxO
    rcases zA_ok es h with ⟨xs, m, e, q⟩ | ⟨e, x⟩
    · rw [e]; exact .inl (wv_some q)
    · rw [e]; exact .inr ⟨rfl, x⟩
  | .call f es, ρ, μ, Q, X, h => by
    unfold zO at h; unfold evO evxO
    rcases zA_ok es h with ⟨xs, m, e, q⟩ | ⟨e, x⟩
    · rw [e]
      rcases q.h with ⟨o, d, m2, e2, q⟩ | ⟨e2, d, m2, e3, q⟩
      · refine .inl ?_
        simp only [Option.bind_some, e2]
        rw [if_pos q.c]
        exact wv_some q.q
      · refine .inr ⟨?_, d, m2, e3, q⟩
        simp only [Option.bind_some, e2]; rfl
    · rw [e]; exact .inr ⟨rfl, x⟩
  | .lc _ _ _ _, ρ, μ, Q, X, h => .inl (vO_ok T cal mak _ (by unfold zO at h; exact h))
  | .cat _ _, ρ, μ, Q, X, h => .inl (vO_ok T cal mak _ (by unfold zO at h; exact h))
  | .slc _ _ _, ρ, μ, Q, X, h => .inl (vO_ok T cal mak _ (by unfold zO at h; exact h))
  | .lst1 _, ρ, μ, Q, X, h => .inl (vO_ok T cal mak _ (by unfold zO at h; exact h))
  | .rev _, ρ, μ, Q, X, h => .inl (vO_ok T cal mak _ (by unfold zO at h; exact h))
  | .repR _ _, ρ, μ, Q, X, h => .inl (vO_ok T cal mak _ (by unfold zO at h; exact h))
  | .rep _ _, ρ, μ, Q, X, h => .inl (vO_ok T cal mak _ (by unfold zO at h; exact h))
  | .split _ _, ρ, μ, Q, X, h => .inl (vO_ok T cal mak _ (by unfold zO at h; exact h))
  | .srt _, ρ, μ, Q, X, h => .inl (vO_ok T cal mak _ (by unfold zO at h; exact h))
  | .srtg _, ρ, μ, Q, X, h => .inl (vO_ok T cal mak _ (by unfold zO at h; exact h))
  | .srtset _, ρ, μ, Q, X, h => .inl (vO_ok T cal mak _ (by unfold zO at h; exact h))
  | .dct0 _, ρ, μ, Q, X, h => .inl (vO_ok T cal mak _ (by unfold zO at h; exact h))
  | .dct1 _ _, ρ, μ, Q, X, h => .inl (vO_ok T cal mak _ (by unfold zO at h; exact h))
  | .srtk _, ρ, μ, Q, X, h => .inl (vO_ok T cal mak _ (by unfold zO at h; exact h))
  | .dctS _ _, ρ, μ, Q, X, h => .inl (vO_ok T cal mak _ (by unfold zO at h; exact h))
  | .dctL _, ρ, μ, Q, X, h => .inl (vO_ok T cal mak _ (by unfold zO at h; exact h))
  | .dcp _, ρ, μ, Q, X, h => .inl (vO_ok T cal mak _ (by unfold zO at h; exact h))
  | .srtsetI _, ρ, μ, Q, X, h => .inl (vO_ok T cal mak _ (by unfold zO at h; exact h))
  | .dctC _ _, ρ, μ, Q, X, h => .inl (vO_ok T cal mak _ (by unfold zO at h; exact h))
theorem zA_ok : ∀ (e : Es) {ρ : Rho} {μ : Sto} {Q : List D → Sto → Prop} {X : D → Sto → Prop}, zA T cal mak e ρ μ Q X → Wz (evs T cal mak e ρ μ) (evxs T cal mak e ρ μ) Q X
  | .nil, ρ, μ, Q, X, h => by unfold zA at h; unfold evs; exact .inl (wv_some h)
  | .cons e es, ρ, μ, Q, X, h => by
    unfold zA at h; unfold evs evxs
    rcases zE_ok e h with ⟨d, m, e1, q⟩ | ⟨e1, x⟩
    · simp only [e1, Option.bind_some]
      rcases zA_ok es q with ⟨xs, m2, e2, q⟩ | ⟨e2, x⟩
      · simp only [e2, Option.bind_some]
        exact .inl (wv_some q)
      · simp only [e2]
        exact .inr ⟨rfl, x⟩
    · simp only [e1]
      exact .inr ⟨rfl, x⟩
end
theorem zs_nx {N : Rho → Sto → Prop} {R : Bool → D → Sto → Prop} {X : D → Rho → Sto → Prop} {ρ : Rho} {μ : Sto} (h : N ρ μ) : Zs (some (.nx ρ μ)) N R X := .inl (ws_nx h)
theorem zs_rt {N : Rho → Sto → Prop} {R : Bool → D → Sto → Prop} {X : D → Rho → Sto → Prop} {o : Bool} {d : D} {μ : Sto} (h : R o d μ) : Zs (some (.rt o d μ)) N R X := .inl (ws_rt h)
theorem zs_xc {N : Rho → Sto → Prop} {R : Bool → D → Sto → Prop} {X : D → Rho → Sto → Prop} {x : D} {ρ : Rho} {μ : Sto} (h : X x ρ μ) : Zs (some (.xc x ρ μ)) N R X := .inr ⟨x, ρ, μ, rfl, h⟩
/-- a statement whose expression may raise -/
theorem xs_z {s : S} {α : Type} {x : Option (α × Sto)} {ρ : Rho} {μ : Sto} {Q : α → Sto → Prop} {N : Rho → Sto → Prop} {R : Bool → D → Sto → Prop} {X : D → Rho → Sto → Prop} (h : Wz x (exx T cal mak s ρ μ) Q (fun d m => X d ρ m))
    (f : α → Sto → Option Out) (hf : ex T cal mak s ρ μ = x.bind fun y => f y.1 y.2) (k : ∀ y m, Q y m → Zs (f y m) N R X) : Zs (ex T cal mak (.xs s) ρ μ) N R X := by
  unfold ex
  rw [hf]
  rcases h with ⟨y, m, e, q⟩ | ⟨e, d, m, e2, q⟩
  · rw [e]
    simp only [Option.bind_some]
    have := k y m q
    rcases this with (⟨a, b, e3, z⟩ | ⟨a, b, c, e3, z⟩) | ⟨a, b, c, e3, z⟩
    · rw [e3]; exact zs_nx z
    · rw [e3]; exact zs_rt z
    · rw [e3]; exact zs_xc z
  · rw [e, e2]
    exact zs_xc q
mutual
theorem zX_ok : ∀ (s : S) {ρ : Rho} {μ : Sto} {N : Rho → Sto → Prop} {R : Bool → D → Sto → Prop} {X : D → Rho → Sto → Prop}, zX T cal mak s ρ μ N R X → Zs (ex T cal mak (.xs s) ρ μ) N R X
  | .set i e, ρ, μ, N, R, X, h => by
    unfold zX at h
    refine xs_z T cal mak (zE_ok T cal mak e h) (fun d m => if i < ρ.length then some (.nx (ρ.set i (.fz d)) m) else none) (by rw [ex]) fun d m q => ?_
    split at q
    · rename_i hi
      rw [if_pos (blt_of hi)]; exact zs_nx q
    · exact q.elim
  | .setO i e, ρ, μ, N, R, X, h => by
    unfold zX at h
    refine xs_z T cal mak (zO_ok T cal mak e h) (fun d m => if i < ρ.length then some (.nx (ρ.set i (.ow d)) m) else none) (by rw [ex]) fun d m q => ?_
    split at q
    · rename_i hi
      rw [if_pos (blt_of hi)]; exact zs_nx q
    · exact q.elim
  | .setT l e, ρ, μ, N, R, X, h => by
    unfold zX at h
    refine xs_z T cal mak (zE_ok T cal mak e h) (fun d m => (d.top m).bind fun d => (asSeq d).bind fun xs => (setAll ρ l xs).bind fun ρ' => some (.nx ρ' m)) (by rw [ex]) fun d m q => ?_
    split at q
    · obtain ⟨ρ', e1, q⟩ := q
      show Zs ((setAll ρ l _).bind _) N R X
      rw [e1]; exact zs_nx q
    · obtain ⟨ρ', e1, q⟩ := q
      show Zs ((setAll ρ l _).bind _) N R X
      rw [e1]; exact zs_nx q
    · obtain ⟨d', e0, xs, e1, ρ', e2, q⟩ := q
      rw [e0]
      simp only [Option.bind_some, e1, e2]
      exact zs_nx q
  | .setA i f e, ρ, μ, N, R, X, h => by
    unfold zX at h
    refine xs_z T cal mak (zE_ok T cal mak e h) (fun d m => match ρ[i]? with
    | some (.ow (.obj c xs)) => (putD T c xs f d).bind fun ys => some (.nx (ρ.set i (.ow (.obj c ys))) m)
    | some (.fz (.cell n)) => (match m[n]? with
      | some (.obj c xs) => (putD T c xs f d).bind fun ys => some (.nx ρ (m.set n (.obj c ys)))
      | _ => none)
    | _ => none) (by rw [ex] <;> rfl) fun d m q => ?_
    split at q
    · obtain ⟨ys, e1, q⟩ := q
      simp only [e1, Option.bind_some]
      exact zs_nx q
    · obtain ⟨d0, e0, c, xs, rfl, ys, e1, q⟩ := q
      simp only [e0, e1, Option.bind_some]
      exact zs_nx q
    · exact q.elim
  | .ex e, ρ, μ, N, R, X, h => by
    unfold zX at h
    refine xs_z T cal mak (zE_ok T cal mak e h) (fun d m => some (.nx ρ m)) (by rw [ex]) fun d m q => zs_nx q
  | .ret e, ρ, μ, N, R, X, h => by
    unfold zX at h
    refine xs_z T cal mak (zE_ok T cal mak e h) (fun d m => some (.rt false d m)) (by rw [ex]) fun d m q => zs_rt q
  | .retO e, ρ, μ, N, R, X, h => by
    unfold zX at h
    refine xs_z T cal mak (zO_ok T cal mak e h) (fun d m => some (.rt true d m)) (by rw [ex]) fun d m q => zs_rt q
  | .iff c a b, ρ, μ, N, R, X, h => by
    unfold zX at h
    refine xs_z T cal mak (zE_ok T cal mak c h) (fun d m => match d with | .bl true => exs T cal mak a ρ m | .bl false => exs T cal mak b ρ m | _ => none) (by rw [ex] <;> rfl) fun d m q => ?_
    rcases q.h with ⟨e, k⟩ | ⟨e, k⟩
    · subst e; exact zSs_ok a k
    · subst e; exact zSs_ok b k
  | .frz _, ρ, μ, N, R, X, h => .inl (vS_ok T cal mak (.xs _) (by unfold zX at h; unfold vS; exact h))
  | .setIx _ _ _, ρ, μ, N, R, X, h => .inl (vS_ok T cal mak (.xs _) (by unfold zX at h; unfold vS; exact h))
  | .app _ _, ρ, μ, N, R, X, h => .inl (vS_ok T cal mak (.xs _) (by unfold zX at h; unfold vS; exact h))
  | .ext _ _, ρ, μ, N, R, X, h => .inl (vS_ok T cal mak (.xs _) (by unfold zX at h; unfold vS; exact h))
  | .appPop _ _ _, ρ, μ, N, R, X, h => .inl (vS_ok T cal mak (.xs _) (by unfold zX at h; unfold vS; exact h))
  | .appE _ _, ρ, μ, N, R, X, h => .inl (vS_ok T cal mak (.xs _) (by unfold zX at h; unfold vS; exact h))
  | .dputE _ _ _, ρ, μ, N, R, X, h => .inl (vS_ok T cal mak (.xs _) (by unfold zX at h; unfold vS; exact h))
  | .remE _ _, ρ, μ, N, R, X, h => .inl (vS_ok T cal mak (.xs _) (by unfold zX at h; unfold vS; exact h))
  | .dput _ _ _, ρ, μ, N, R, X, h => .inl (vS_ok T cal mak (.xs _) (by unfold zX at h; unfold vS; exact h))
  | .mv _ _, ρ, μ, N, R, X, h => .inl (vS_ok T cal mak (.xs _) (by unfold zX at h; unfold vS; exact h))
  | .retS _, ρ, μ, N, R, X, h => .inl (vS_ok T cal mak (.xs _) (by unfold zX at h; unfold vS; exact h))
  | .ret0, ρ, μ, N, R, X, h => .inl (vS_ok T cal mak (.xs _) (by unfold zX at h; unfold vS; exact h))
  | .for _ _ _, ρ, μ, N, R, X, h => .inl (vS_ok T cal mak (.xs _) (by unfold zX at h; unfold vS; exact h))
  | .pas, ρ, μ, N, R, X, h => .inl (vS_ok T cal mak (.xs _) (by unfold zX at h; unfold vS; exact h))
  | .bad, ρ, μ, N, R, X, h => .inl (vS_ok T cal mak (.xs _) (by unfold zX at h; unfold vS; exact h))
  | .whl _ _, ρ, μ, N, R, X, h => .inl (vS_ok T cal mak (.xs _) (by unfold zX at h; unfold vS; exact h))
  | .xs _, ρ, μ, N, R, X, h => .inl (vS_ok T cal mak (.xs _) (by unfold zX at h; unfold vS; exact h))
  | .rse _, ρ, μ, N, R, X, h => .inl (vS_ok T cal mak (.xs _) (by unfold zX at h; unfold vS; exact h))
  | .try _ _ _ _, ρ, μ, N, R, X, h => .inl (vS_ok T cal mak (.xs _) (by unfold zX at h; unfold vS; exact h))
theorem zS_ok : ∀ (s : S) {ρ : Rho} {μ : Sto} {N : Rho → Sto → Prop} {R : Bool → D → Sto → Prop} {X : D → Rho → Sto → Prop}, zS T cal mak s ρ μ N R X → Zs (ex T cal mak s ρ μ) N R X
  | .xs s, ρ, μ, N, R, X, h => by unfold zS at h; exact zX_ok s h
  | .rse c, ρ, μ, N, R, X, h => by unfold zS at h; unfold ex; exact zs_xc h
  | .try b c i hh, ρ, μ, N, R, X, h => by
    unfold zS at h; unfold ex
    rcases zSs_ok b h with (⟨ρ', m, e, q⟩ | ⟨o, d, m, e, q⟩) | ⟨x, ρ', m, e, q⟩
    · rw [e]; exact zs_nx q
    · rw [e]; exact zs_rt q
    · rw [e]
      obtain ⟨mm, e1, q⟩ := q
      simp only [Option.bind_some, e1]
      cases mm with
      | true =>
        obtain ⟨c1, q2, e2, q⟩ := q
        simp only [if_true, c1, e2, Option.bind_some]
        cases q2 with
        | nx ρ2 => exact zs_nx q
        | rt d => exact zs_rt q
      | false =>
        simp only [Bool.false_eq_true, if_false]
        exact zs_xc q
  | .iff c a b, ρ, μ, N, R, X, h => by
    unfold zS at h; unfold ex
    obtain ⟨d, m, e, q⟩ := vE_ok T cal mak c h
    rw [e]
    rcases q.h with ⟨e, k⟩ | ⟨e, k⟩
    · subst e; exact zSs_ok a k
    · subst e; exact zSs_ok b k
  | .for tg it b, ρ, μ, N, R, X, h => by
    unfold zS at h; unfold ex
    obtain ⟨d, m, e, q⟩ := vI_ok T cal mak it h
    rw [e]
    exact q.h
  | .whl c b, ρ, μ, N, R, X, h => by
    unfold zS at h; unfold ex
    exact h.h
  | .set _ _, ρ, μ, N, R, X, h => .inl (vS_ok T cal mak _ (by unfold zS at h; exact h))
  | .setO _ _, ρ, μ, N, R, X, h => .inl (vS_ok T cal mak _ (by unfold zS at h; exact h))
  | .frz _, ρ, μ, N, R, X, h => .inl (vS_ok T cal mak _ (by unfold zS at h; exact h))
  | .setT _ _, ρ, μ, N, R, X, h => .inl (vS_ok T cal mak _ (by unfold zS at h; exact h))
  | .setA _ _ _, ρ, μ, N, R, X, h => .inl (vS_ok T cal mak _ (by unfold zS at h; exact h))
  | .setIx _ _ _, ρ, μ, N, R, X, h => .inl (vS_ok T cal mak _ (by unfold zS at h; exact h))
  | .app _ _, ρ, μ, N, R, X, h => .inl (vS_ok T cal mak _ (by unfold zS at h; exact h))
  | .ext _ _, ρ, μ, N, R, X, h => .inl (vS_ok T cal mak _ (by unfold zS at h; exact h))
  | .appPop _ _ _, ρ, μ, N, R, X, h => .inl (vS_ok T cal mak _ (by unfold zS at h; exact h))
  | .appE _ _, ρ, μ, N, R, X, h => .inl (vS_ok T cal mak _ (by unfold zS at h; exact h))
  | .dputE _ _ _, ρ, μ, N, R, X, h => .inl (vS_ok T cal mak _ (by unfold zS at h; exact h))
  | .remE _ _, ρ, μ, N, R, X, h => .inl (vS_ok T cal mak _ (by unfold zS at h; exact h))
  | .dput _ _ _, ρ, μ, N, R, X, h => .inl (vS_ok T cal mak _ (by unfold zS at h; exact h))
  | .mv _ _, ρ, μ, N, R, X, h => .inl (vS_ok T cal mak _ (by unfold zS at h; exact h))
  | .ex _, ρ, μ, N, R, X, h => .inl (vS_ok T cal mak _ (by unfold zS at h; exact h))
  | .ret _, ρ, μ, N, R, X, h => .inl (vS_ok T cal mak _ (by unfold zS at h; exact h))
  | .retO _, ρ, μ, N, R, X, h => .inl (vS_ok T cal mak _ (by unfold zS at h; exact h))
  | .retS _, ρ, μ, N, R, X, h => .inl (vS_ok T cal mak _ (by unfold zS at h; exact h))
  | .ret0, ρ, μ, N, R, X, h => .inl (vS_ok T cal mak _ (by unfold zS at h; exact h))
  | .pas, ρ, μ, N, R, X, h => .inl (vS_ok T cal mak _ (by unfold zS at h; exact h))
  | .bad, ρ, μ, N, R, X, h => .inl (vS_ok T cal mak _ (by unfold zS at h; exact h))
theorem zSs_ok : ∀ (s : Ss) {ρ : Rho} {μ : Sto} {N : Rho → Sto → Prop} {R : Bool → D → Sto → Prop} {X : D → Rho → Sto → Prop}, zSs T cal mak s ρ μ N R X → Zs (exs T cal mak s ρ μ) N R X
  | .nil, ρ, μ, N, R, X, h => by unfold zSs at h; unfold exs; exact zs_nx h
  | .cons s b, ρ, μ, N, R, X, h => by
    unfold zSs at h; unfold exs
    rcases zS_ok s h with (⟨ρ', m, e, q⟩ | ⟨o, d, m, e, q⟩) | ⟨x, ρ', m, e, q⟩
    · rw [e]; exact zSs_ok b q
    · rw [e]; exact zs_rt q
    · rw [e]; exact zs_xc q
end
end
/-! defs that may raise -/
theorem v_fnz {T : Tab} {n f : Nat} {F : Fn} {ds : List D} {μ : Sto} {Q : Bool → D → Sto → Prop} {X : D → Sto → Prop} (hF : T.fn f = some F) (hX : T.cl (XOFF + f) = none) (hf : Nat.blt f XOFF = true) (h : ds.length = F.ps.length) (hi : F.ini = false)
    (k : zSs T (sem T n).1 (sem T n).2 F.code (start F.N.length ds) μ (fun _ μ => Q false .non μ) Q (fun x _ μ => X x μ)) : Cz (sem T (n + 1)).1 (sem T (n + 1)).2 f ds μ Q X := by
  have e : (sem T (n + 1)).1 f ds μ = runF T (sem T n).1 (sem T n).2 F ds μ := by
    show (T.fn f).bind _ = _
    rw [hF]; rfl
  have e2 : (sem T (n + 1)).2 (XOFF + f) ds μ = runX T (sem T n).1 (sem T n).2 F ds μ := by
    show (match T.cl (XOFF + f) with | some _ => mkC T (sem T n).1 (sem T n).2 (XOFF + f) ds μ | none => mkX T (sem T n).1 (sem T n).2 (XOFF + f) ds μ) = _
    rw [hX]
    have := blt_of hf
    unfold mkX
    simp only
    rw [if_pos (by omega), Nat.add_sub_cancel_left, hF]
    rfl
  constructor
  rw [e, e2]
  unfold runF runX
  rw [if_pos ⟨h, hi⟩, if_pos ⟨h, hi⟩]
  rcases zSs_ok T _ _ F.code k with (⟨ρ', μ', e, h⟩ | ⟨o, d, μ', e, h⟩) | ⟨x, ρ', μ', e, h⟩
  · rw [e]; exact .inl ⟨_, _, _, rfl, h⟩
  · rw [e]; exact .inl ⟨_, _, _, rfl, h⟩
  · rw [e]; exact .inr ⟨rfl, x, μ', rfl, h⟩
theorem v_mkz {T : Tab} {n c : Nat} {kk : Cl} {F : Fn} {ds : List D} {μ : Sto} {Q : D → Sto → Prop} {X : D → Sto → Prop} (hk : T.cl c = some kk) (hF : T.fn kk.init = some F) (hX : T.cl (2 * XOFF + c) = none) (h : ds.length + 1 = F.ps.length) (hi : F.ini = true)
    (k : zSs T (sem T n).1 (sem T n).2 F.code ((start F.N.length (.non :: ds)).set 0 (.ow (.obj c []))) μ (fun ρ μ => match (ρ[0]? : Option Slot) with | some (.ow (.obj c' xs)) => Q (.obj c' xs) μ | some (.fz d) => Q d μ | _ => False) (fun _ _ _ => False) (fun x _ μ => X x μ)) : Mz (sem T (n + 1)).2 c ds μ Q X := by
  have e : (sem T (n + 1)).2 c ds μ = runI T (sem T n).1 (sem T n).2 F c ds μ := by
    show (match T.cl c with | some _ => mkC T (sem T n).1 (sem T n).2 c ds μ | none => mkX T (sem T n).1 (sem T n).2 c ds μ) = _
    rw [hk]
    simp only
    unfold mkC
    rw [hk]
    show (T.fn kk.init).bind _ = _
    rw [hF]; rfl
  have e2 : (sem T (n + 1)).2 (2 * XOFF + c) ds μ = runIX T (sem T n).1 (sem T n).2 F c ds μ := by
    show (match T.cl (2 * XOFF + c) with | some _ => mkC T (sem T n).1 (sem T n).2 (2 * XOFF + c) ds μ | none => mkX T (sem T n).1 (sem T n).2 (2 * XOFF + c) ds μ) = _
    rw [hX]
    unfold mkX
    simp only
    rw [if_neg (by omega), Nat.add_sub_cancel_left, hk]
    show (T.fn kk.init).bind _ = _
    rw [hF]
    rfl
  constructor
  rw [e, e2]
  unfold runI runIX
  rw [if_pos ⟨h, hi⟩, if_pos ⟨h, hi⟩]
  rcases zSs_ok T _ _ F.code k with (⟨ρ', μ', e, h⟩ | ⟨o, d, μ', e, h⟩) | ⟨x, ρ', μ', e, h⟩
  · rw [e]
    have h : (match (ρ'[0]? : Option Slot) with | some (.ow (.obj c' xs)) => Q (.obj c' xs) μ' | some (.fz d) => Q d μ' | _ => False) := h
    split at h
    · rename_i hd
      exact .inl ⟨_, _, by simp only [Option.bind_some, hd], h⟩
    · rename_i hd
      exact .inl ⟨_, _, by simp only [Option.bind_some, hd], h⟩
    · exact False.elim h
  · exact False.elim h
  · rw [e]; exact .inr ⟨rfl, x, μ', rfl, h⟩
theorem cz_cw {c : Cal} {m : Mak} {f : Nat} {ds : List D} {μ : Sto} {Q : Bool → D → Sto → Prop} (h : Cz c m f ds μ Q (fun _ _ => False)) : Cw c f ds μ Q := by
  rcases h.h with ⟨o, d, m', e, q⟩ | ⟨_, _, _, _, z⟩
  · exact ⟨⟨o, d, m', e, q⟩⟩
  · exact z.elim
/-- a def that raises nothing, though it has a try, or code that may raise -/
theorem v_fnt {T : Tab} {n f : Nat} {F : Fn} {ds : List D} {μ : Sto} {Q : Bool → D → Sto → Prop} (hF : T.fn f = some F) (hX : T.cl (XOFF + f) = none) (hf : Nat.blt f XOFF = true) (h : ds.length = F.ps.length) (hi : F.ini = false)
    (k : zSs T (sem T n).1 (sem T n).2 F.code (start F.N.length ds) μ (fun _ μ => Q false .non μ) Q (fun _ _ _ => False)) : Cw (sem T (n + 1)).1 f ds μ Q := cz_cw (v_fnz hF hX hf h hi k)
theorem cz_of {c : Cal} {m : Mak} {f : Nat} {ds : List D} {μ : Sto} {Q : Bool → D → Sto → Prop} {X : D → Sto → Prop} (h : Cw c f ds μ Q) : Cz c m f ds μ Q X := by
  obtain ⟨o, d, m', e, q⟩ := h
  exact ⟨.inl ⟨o, d, m', e, q⟩⟩
theorem mz_of {m : Mak} {f : Nat} {ds : List D} {μ : Sto} {Q : D → Sto → Prop} {X : D → Sto → Prop} (h : Mw m f ds μ Q) : Mz m f ds μ Q X := by
  obtain ⟨d, m', e, q⟩ := h
  exact ⟨.inl ⟨d, m', e, q⟩⟩
theorem cz_mono {c : Cal} {m : Mak} {f : Nat} {ds : List D} {μ : Sto} {Q Q' : Bool → D → Sto → Prop} {X X' : D → Sto → Prop} (h : Cz c m f ds μ Q X) (k : ∀ o d m, Q o d m → Q' o d m) (k2 : ∀ d m, X d m → X' d m) : Cz c m f ds μ Q' X' := by
  rcases h.h with ⟨o, d, m', e, q⟩ | ⟨e, d, m', e2, q⟩
  · exact ⟨.inl ⟨o, d, m', e, k _ _ _ q⟩⟩
  · exact ⟨.inr ⟨e, d, m', e2, k2 _ _ q⟩⟩
theorem mz_mono {m : Mak} {f : Nat} {ds : List D} {μ : Sto} {Q Q' : D → Sto → Prop} {X X' : D → Sto → Prop} (h : Mz m f ds μ Q X) (k : ∀ d m, Q d m → Q' d m) (k2 : ∀ d m, X d m → X' d m) : Mz m f ds μ Q' X' := by
  rcases h.h with ⟨d, m', e, q⟩ | ⟨e, d, m', e2, q⟩
  · exact ⟨.inl ⟨d, m', e, k _ _ q⟩⟩
  · exact ⟨.inr ⟨e, d, m', e2, k2 _ _ q⟩⟩
/-! loops -/
theorem fz_nil {f : D → Rho → Sto → Option Out} {N : Rho → Sto → Prop} {R : Bool → D → Sto → Prop} {X : D → Rho → Sto → Prop} {ρ : Rho} {μ : Sto} (h : N ρ μ) : Fz none f [] ρ μ N R X := ⟨.inl (f_nil h).h⟩
theorem fz_cons {f : D → Rho → Sto → Option Out} {N : Rho → Sto → Prop} {R : Bool → D → Sto → Prop} {X : D → Rho → Sto → Prop} {ρ : Rho} {μ : Sto} {x : D} {xs : List D} (h : Zs (f x ρ μ) (fun ρ μ => Fz none f xs ρ μ N R X) R X) : Fz none f (x :: xs) ρ μ N R X := by
  constructor
  unfold forL
  rw [if_pos (by rfl)]
  rcases h with (⟨ρ', μ', e, h⟩ | ⟨o, d, μ', e, h⟩) | ⟨d, ρ', μ', e, h⟩
  · rw [e]; exact h.h
  · rw [e]; exact zs_rt h
  · rw [e]; exact zs_xc h
theorem fz_of {g : Gd} {f : D → Rho → Sto → Option Out} {xs : List D} {N : Rho → Sto → Prop} {R : Bool → D → Sto → Prop} {X : D → Rho → Sto → Prop} {ρ : Rho} {μ : Sto} (h : Fw g f xs ρ μ N R) : Fz g f xs ρ μ N R X := ⟨.inl h.h⟩
theorem fz_inv {f : D → Rho → Sto → Option Out} {N : Rho → Sto → Prop} {R : Bool → D → Sto → Prop} {X : D → Rho → Sto → Prop} (I : List D → Rho → Sto → Prop) : ∀ {xs : List D} {ρ : Rho} {μ : Sto}, I xs ρ μ →
    (∀ x xs ρ μ, I (x :: xs) ρ μ → Zs (f x ρ μ) (fun ρ μ => I xs ρ μ) R X) → (∀ ρ μ, I [] ρ μ → N ρ μ) → Fz none f xs ρ μ N R X
  | [], ρ, μ, h, _, k => fz_nil (k ρ μ h)
  | x :: xs, ρ, μ, h, st, k => by
    refine fz_cons ?_
    rcases st x xs ρ μ h with (⟨ρ', μ', e, h⟩ | ⟨o, d, μ', e, h⟩) | ⟨d, ρ', μ', e, h⟩
    · exact .inl (.inl ⟨ρ', μ', e, fz_inv I h st k⟩)
    · exact .inl (.inr ⟨o, d, μ', e, h⟩)
    · exact .inr ⟨d, ρ', μ', e, h⟩
theorem bodz1 {T : Tab} {cal : Cal} {mak : Mak} {i : Nat} {b : Ss} {x : D} {ρ : Rho} {μ : Sto} {N : Rho → Sto → Prop} {R : Bool → D → Sto → Prop} {X : D → Rho → Sto → Prop} (hi : Nat.blt i ρ.length = true) (h : zSs T cal mak b (ρ.set i (.fz x)) μ N R X) : Zs (bodF T cal mak (.v i) b x ρ μ) N R X := by
  unfold bodF
  have e : bindTg (.v i) x ρ = some (ρ.set i (.fz x)) := by
    show (if i < ρ.length then some (ρ.set i (.fz x)) else none) = _
    rw [if_pos (blt_of hi)]
  rw [e]
  exact zSs_ok T cal mak b h
theorem bodzn {T : Tab} {cal : Cal} {mak : Mak} {l : List Nat} {b : Ss} {xs : List D} {ρ ρ' : Rho} {μ : Sto} {N : Rho → Sto → Prop} {R : Bool → D → Sto → Prop} {X : D → Rho → Sto → Prop} (e : setAll ρ l xs = some ρ') (h : zSs T cal mak b ρ' μ N R X) : Zs (bodF T cal mak (.tup l) b (.tup xs) ρ μ) N R X := by
  unfold bodF
  have e : bindTg (.tup l) (.tup xs) ρ = some ρ' := e
  rw [e]
  exact zSs_ok T cal mak b h
end EV

set_option Elab.async false
set_option linter.all false
set_option maxRecDepth 100000
set_option maxHeartbeats 1000000
namespace EV
open PySem PySem.Spec PyProof.Rows L2 TL
/-! equal to itself -/
mutual
theorem eqv_self : ∀ d : D, PyData.eqv d.py d.py = true ∨ d.dat = false
  | .non => .inl (by simp [D.py, PyData.eqv])
  | .bl b => .inl (by simp [D.py, PyData.eqv])
  | .int i => .inl (by simp [D.py, PyData.eqv])
  | .str s => .inl (by simp [D.py, PyData.eqv])
  | .lst xs => by
    rcases eqv_selfs xs with h | h
    · exact .inl (by simp only [D.py, PyData.eqv]; exact h)
    · exact .inr (by simp only [D.dat]; exact h)
  | .tup xs => by
    rcases eqv_selfs xs with h | h
    · exact .inl (by simp only [D.py, PyData.eqv]; exact h)
    · exact .inr (by simp only [D.dat]; exact h)
  | .dct _ _ => .inr rfl
  | .obj _ _ => .inr rfl
  | .cell _ => .inr rfl
  | .fn _ => .inr rfl
theorem eqv_selfs : ∀ ds : List D, PyData.eqvAll (D.pys ds) (D.pys ds) = true ∨ D.dats ds = false
  | [] => .inl rfl
  | d :: ds => by
    rcases eqv_self d with h | h
    · rcases eqv_selfs ds with h' | h'
      · exact .inl (by simp only [D.pys, PyData.eqvAll, h, h']; rfl)
      · exact .inr (by simp only [D.dats, h', Bool.and_false])
    · exact .inr (by simp only [D.dats, h, Bool.false_and])
end
theorem eqD_self {d : D} (h : d.dat = true) (hz : d.py.depth ≤ 64) : eqD d d = some true := by
  have e : PyData.eqv d.py d.py = true := by
    rcases eqv_self d with e | e
    · exact e
    · rw [h] at e; cases e
  unfold eqD
  rw [h, e, Nat.min_self, decide_eq_true hz]
  rfl
theorem notCell_top {d : D} {μ : Sto} (h : d.dat = true) : d.top μ = some d := by
  cases d <;> first | rfl | cases h
theorem ne_self {d : D} {μ : Sto} (h : d.dat = true) (hz : d.py.depth ≤ 64) : cmpD .NotEq d d μ = some false := by
  show ((d.top μ).bind fun x => (d.top μ).bind fun y => (eqD x y).bind fun b => some (!b)) = _
  rw [notCell_top h]
  show (eqD d d).bind _ = _
  rw [eqD_self h hz]
  rfl
theorem eq_self {d : D} {μ : Sto} (h : d.dat = true) (hz : d.py.depth ≤ 64) : cmpD .Eq d d μ = some true := by
  show ((d.top μ).bind fun x => (d.top μ).bind fun y => eqD x y) = _
  rw [notCell_top h]
  exact eqD_self h hz
theorem dats_all : ∀ {ds : List D}, (∀ d ∈ ds, d.dat = true) → D.dats ds = true
  | [], _ => rfl
  | d :: ds, h => by
    show (d.dat && D.dats ds) = true
    rw [h d List.mem_cons_self, dats_all fun x hx => h x (List.mem_cons_of_mem _ hx)]
    rfl
theorem depths_le {n : Nat} : ∀ {ds : List D}, (∀ d ∈ ds, d.py.depth ≤ n) → PyData.depthAll (D.pys ds) ≤ n
  | [], _ => Nat.zero_le _
  | d :: ds, h => by
    show max d.py.depth (PyData.depthAll (D.pys ds)) ≤ n
    exact Nat.max_le.mpr ⟨h d List.mem_cons_self, depths_le fun x hx => h x (List.mem_cons_of_mem _ hx)⟩
theorem eqS {a b : Str} {μ : Sto} : cmpD .Eq (.str a) (.str b) μ = some (decide (a = b)) := by
  have e : PyData.eqv (.str a) (.str b) = (a == b) := by simp [PyData.eqv]
  simp only [cmpD, D.top, Option.bind_some, eqD, D.dat, D.py, e]
  by_cases h : a = b <;> simp [h, PyData.depth]
theorem neS {a b : Str} {μ : Sto} : cmpD .NotEq (.str a) (.str b) μ = some (decide (a ≠ b)) := by
  have e : PyData.eqv (.str a) (.str b) = (a == b) := by simp [PyData.eqv]
  simp only [cmpD, D.top, Option.bind_some, eqD, D.dat, D.py, e]
  by_cases h : a = b <;> simp [h, PyData.depth]
/-! texts -/
theorem sok_iff {s : Str} : sok s = true ↔ (∀ c ∈ tl s, c < 1114112) ∧ s.length ≤ LIM := by
  unfold sok PyData.strOk
  rw [Bool.and_eq_true, decide_eq_true_eq, ← Array.all_toList, List.all_eq_true]
  simp only [decide_eq_true_eq]
theorem sok_app {a b : Str} (ha : sok a = true) (hb : sok b = true) (h : a.length + b.length ≤ LIM) : sok (a ++ b) = true := by
  rw [sok_iff] at *
  refine ⟨fun c hc => ?_, by rw [len_tl, tl_append, List.length_append, ← len_tl, ← len_tl]; exact h⟩
  rw [tl_append] at hc
  rcases List.mem_append.mp hc with hc | hc
  · exact ha.1 c hc
  · exact hb.1 c hc
theorem len_app {a b : Str} : (a ++ b).length = a.length + b.length := by rw [len_tl, tl_append, List.length_append, ← len_tl, ← len_tl]
theorem sok_num {n : Int} (h0 : 0 ≤ n) (h : n < 10000000000) : sok (Str.ofString (toString n)) = true ∧ (Str.ofString (toString n)).length ≤ 10 ∧ n.natAbs.log2 < 1920 := by
  obtain ⟨m, rfl⟩ := Int.eq_ofNat_of_zero_le h0
  have hl : (Str.ofString (toString ((m : Nat) : Int))).length ≤ 10 := by
    rw [len_tl, tl_num]
    exact numL_len (by decide) (by omega)
  refine ⟨sok_iff.mpr ⟨fun c hc => ?_, Nat.le_trans hl (by decide)⟩, hl, ?_⟩
  · rw [tl_num] at hc
    false_or_by_contra
    exact numL_free (.inr (by omega)) hc
  · show m.log2 < 1920
    by_cases hm : m = 0
    · subst hm; decide
    · have : m.log2 < 40 := (Nat.log2_lt hm).mpr (by omega)
      omega
theorem joinL_mem {S : List Nat} {c : Nat} : ∀ {ps : List (List Nat)}, c ∈ joinL S ps → c ∈ S ∨ ∃ p ∈ ps, c ∈ p
  | [], h => by cases h
  | [p], h => .inr ⟨p, List.mem_cons_self, h⟩
  | p :: q :: r, h => by
    rcases List.mem_append.mp (show c ∈ p ++ (S ++ joinL S (q :: r)) from h) with h | h
    · exact .inr ⟨p, List.mem_cons_self, h⟩
    · rcases List.mem_append.mp h with h | h
      · exact .inl h
      · rcases joinL_mem h with h | ⟨p', hp, h⟩
        · exact .inl h
        · exact .inr ⟨p', List.mem_cons_of_mem _ hp, h⟩
theorem joinL_len {S : List Nat} : ∀ {ps : List (List Nat)}, (joinL S ps).length ≤ (ps.map List.length).sum + ps.length * S.length
  | [] => by simp [joinL]
  | [p] => by simp [joinL]
  | p :: q :: r => by
    have ih := joinL_len (S := S) (ps := q :: r)
    show (p ++ (S ++ joinL S (q :: r))).length ≤ _
    simp only [List.length_append, List.map_cons, List.sum_cons, List.length_cons, Nat.add_mul] at ih ⊢
    omega
theorem sum_le {f : Str → Nat} {n : Nat} : ∀ {ys : List Str}, (∀ y ∈ ys, f y ≤ n) → (ys.map f).sum ≤ ys.length * n
  | [], _ => by simp
  | y :: ys, h => by
    have := sum_le (f := f) (n := n) (ys := ys) fun z hz => h z (List.mem_cons_of_mem _ hz)
    have := h y List.mem_cons_self
    simp only [List.map_cons, List.sum_cons, List.length_cons, Nat.add_mul, Nat.one_mul]
    omega
theorem join_ok {a : Str} {ys : List Str} {n m : Nat} (ha : sok a = true) (ha1 : a.length ≤ 1) (h : ∀ y ∈ ys, sok y = true ∧ y.length ≤ n) (hm : ys.length ≤ m) (hz : m * n + m ≤ LIM) :
    ((ys.map (·.length)).sum + ys.length * a.length ≤ LIM ∧ sok (Txt.join a ys) = true) ∧ (Txt.join a ys).length ≤ m * n + m := by
  have h1 : (ys.map (·.length)).sum ≤ ys.length * n := sum_le fun y hy => (h y hy).2
  have h2 : ys.length * n ≤ m * n := Nat.mul_le_mul_right n hm
  have h3 : ys.length * a.length ≤ m := Nat.le_trans (Nat.mul_le_mul hm ha1) (by omega)
  have hl : (Txt.join a ys).length ≤ m * n + m := by
    rw [join_eq, len_tl, tl_join]
    refine Nat.le_trans joinL_len ?_
    have e : (ys.map tl).map List.length = ys.map (·.length) := by
      rw [List.map_map]
      exact List.map_congr_left fun y _ => (len_tl y).symm
    rw [e, List.length_map, ← len_tl]
    omega
  refine ⟨⟨by omega, sok_iff.mpr ⟨fun c hc => ?_, by omega⟩⟩, hl⟩
  rw [join_eq, tl_join] at hc
  rcases joinL_mem hc with hc | ⟨p, hp, hc⟩
  · exact (sok_iff.mp ha).1 c hc
  · obtain ⟨y, hy, rfl⟩ := List.mem_map.mp hp
    exact (sok_iff.mp (h y hy).1).1 c hc
theorem asStrs_map (ys : List Str) : asStrs (ys.map D.str) = some ys := by
  induction ys with
  | nil => rfl
  | cons y ys ih =>
    show (asStrs (ys.map D.str)).bind _ = _
    rw [ih]; rfl
end EV

set_option Elab.async false
set_option linter.all false
set_option maxRecDepth 100000
set_option maxHeartbeats 1000000
namespace EV
open PySem PySem.Spec PyProof.Rows L2
/-! helps for walks -/
theorem l_filt {α : Type} {f : D → Sto → Option (Option D × Sto)} {dx g : α → D} {p : α → Bool} : ∀ {as : List α} {μ : Sto} {Q : List D → Sto → Prop}, (∀ a ∈ as, Wv (f (dx a) μ) (fun r m => r = (if p a = true then some (g a) else none) ∧ m = μ)) → Q ((as.filter p).map g) μ → Lw none f (as.map dx) μ Q
  | [], μ, Q, _, k => by
    constructor
    unfold lcL
    rw [List.map_nil]
    dsimp only
    rw [if_pos (by rfl)]
    exact wv_some k
  | a :: as, μ, Q, h, k => by
    constructor
    rw [List.map_cons]
    unfold lcL
    rw [if_pos (by rfl)]
    obtain ⟨r, m, e, rfl, rfl⟩ := h a (.head _)
    rw [e]
    show Wv ((lcL none f (as.map dx) m).bind _) Q
    by_cases hp : p a = true
    · rw [if_pos hp]
      refine wv_bind (wv_mono (l_filt (Q := fun ys m => Q (g a :: ys) m) (fun b hb => h b (.tail _ hb)) ?_).h fun ys m q => wv_some q)
      rw [List.filter_cons_of_pos hp] at k
      exact k
    · rw [if_neg hp]
      refine wv_bind (wv_mono (l_filt (Q := Q) (fun b hb => h b (.tail _ hb)) ?_).h fun ys m q => wv_some q)
      rw [List.filter_cons_of_neg hp] at k
      exact k
theorem l_map {α : Type} {f : D → Sto → Option (Option D × Sto)} {dx g : α → D} {as : List α} {μ : Sto} {Q : List D → Sto → Prop} (h : ∀ a ∈ as, Wv (f (dx a) μ) (fun r m => r = some (g a) ∧ m = μ)) (k : Q (as.map g) μ) : Lw none f (as.map dx) μ Q := by
  refine l_filt (p := fun _ => true) (g := g) (fun a ha => ?_) ?_
  · rw [if_pos rfl]; exact h a ha
  · rw [List.filter_eq_self.mpr fun _ _ => rfl]; exact k
/-- a loop over told things -/
theorem f_each {α : Type} {f : D → Rho → Sto → Option Out} {dx : α → D} {N : Rho → Sto → Prop} {R : Bool → D → Sto → Prop} (I : List α → Rho → Sto → Prop) : ∀ {as : List α} {ρ : Rho} {μ : Sto}, I as ρ μ →
    (∀ a as ρ μ, I (a :: as) ρ μ → Ws (f (dx a) ρ μ) (fun ρ μ => I as ρ μ) R) → (∀ ρ μ, I [] ρ μ → N ρ μ) → Fw none f (as.map dx) ρ μ N R
  | [], ρ, μ, h, _, k => f_nil (k ρ μ h)
  | a :: as, ρ, μ, h, st, k => by
    rw [List.map_cons]
    refine f_cons ?_
    rcases st a as ρ μ h with ⟨ρ', μ', e, h⟩ | ⟨o, d, μ', e, h⟩
    · exact .inl ⟨ρ', μ', e, f_each I h st k⟩
    · exact .inr ⟨o, d, μ', e, h⟩
theorem asBls_map (bs : List Bool) : asBls (bs.map D.bl) = some bs := by
  induction bs with
  | nil => rfl
  | cons b bs ih =>
    show (asBls (bs.map D.bl)).bind _ = _
    rw [ih]; rfl
theorem asInts_map (ns : List Int) : asInts (ns.map D.int) = some ns := by
  induction ns with
  | nil => rfl
  | cons b bs ih =>
    show (asInts (bs.map D.int)).bind _ = _
    rw [ih]; rfl
theorem bi_allB {bs : List Bool} {μ : Sto} : biD .all (.lst (bs.map D.bl)) μ = some (.bl (bs.all id)) := by
  show ((asBls (bs.map D.bl)).bind fun bs => some (D.bl (bs.all id))) = _
  rw [asBls_map]; rfl
theorem bi_anyB {bs : List Bool} {μ : Sto} : biD .any (.lst (bs.map D.bl)) μ = some (.bl (bs.any id)) := by
  show ((asBls (bs.map D.bl)).bind fun bs => some (D.bl (bs.any id))) = _
  rw [asBls_map]; rfl
theorem bi_sumI {ns : List Int} {μ : Sto} : biD .sum (.lst (ns.map D.int)) μ = some (.int ns.sum) := by
  show ((asInts (ns.map D.int)).bind fun ns => some (D.int ns.sum)) = _
  rw [asInts_map]; rfl
theorem bi_allT {α : Type} {as : List α} {μ : Sto} : biD .all (.lst (as.map fun _ => D.bl true)) μ = some (.bl true) := by
  have e : (as.map fun _ => D.bl true) = (as.map fun _ => true).map D.bl := by rw [List.map_map]; rfl
  rw [e, bi_allB]
  have : (as.map fun _ => true).all id = true := by rw [List.all_eq_true]; intro b hb; obtain ⟨_, _, rfl⟩ := List.mem_map.mp hb; rfl
  rw [this]
theorem bi_minI {n : Int} {ns : List Int} {μ : Sto} : biD .min (.lst ((n :: ns).map D.int)) μ = some (.int (minI ns n)) := by
  show ((asInts ((n :: ns).map D.int)).bind fun ns => (match ns with | [] => none | n :: r => some (D.int (minI r n)))) = _
  rw [asInts_map]; rfl
theorem bi_maxI {n : Int} {ns : List Int} {μ : Sto} : biD .max (.lst ((n :: ns).map D.int)) μ = some (.int (maxI ns n)) := by
  show ((asInts ((n :: ns).map D.int)).bind fun ns => (match ns with | [] => none | n :: r => some (D.int (maxI r n)))) = _
  rw [asInts_map]; rfl
theorem nubA_nd_len : ∀ (xs l : List Str), xs.Nodup → (∀ x ∈ xs, x ∉ l) → (nubA l xs).length = l.length + xs.length
  | [], l, _, _ => rfl
  | x :: r, l, nd, h => by
    obtain ⟨n1, n2⟩ := List.nodup_cons.mp nd
    unfold nubA
    rw [if_neg (h x (.head _)), nubA_nd_len r _ n2 fun y hy z => ?_]
    · rw [List.length_cons, List.length_cons]; omega
    · rcases List.mem_cons.mp z with e | e
      · exact n1 (e ▸ hy)
      · exact h y (.tail _ hy) e
theorem nub_nd_len {xs : List Str} (nd : xs.Nodup) : (nub xs).length = xs.length := by
  unfold nub
  rw [nubA_nd_len xs [] nd fun _ _ z => nomatch z]
  simp
theorem nubA_len_iff : ∀ (xs l : List Str), (nubA l xs).length = l.length + xs.length → xs.Nodup
  | [], _, _ => List.nodup_nil
  | x :: r, l, h => by
    unfold nubA at h
    split at h
    · have := nubA_len r l
      rw [List.length_cons] at h
      omega
    · rename_i hx
      rw [List.length_cons] at h
      refine List.nodup_cons.mpr ⟨fun hm => ?_, nubA_len_iff r (x :: l) (by rw [h, List.length_cons]; omega)⟩
      have key : ∀ (r l : List Str), (∃ y ∈ r, y ∈ l) → (nubA l r).length < l.length + r.length := by
        intro r
        induction r with
        | nil => rintro l ⟨y, hy, _⟩; cases hy
        | cons z r ih =>
          rintro l ⟨y, hy, hl⟩
          unfold nubA
          split
          · have := nubA_len r l
            rw [List.length_cons]; omega
          · rename_i hz
            rcases List.mem_cons.mp hy with e | e
            · exact absurd (e ▸ hl) hz
            · have := ih (z :: l) ⟨y, e, .tail _ hl⟩
              rw [List.length_cons] at this ⊢
              omega
      have := key r (x :: l) ⟨x, hm, .head _⟩
      rw [List.length_cons] at this
      omega
theorem nub_len_iff {xs : List Str} (h : (nub xs).length = xs.length) : xs.Nodup := nubA_len_iff xs [] (by rw [show nubA [] xs = nub xs from rfl, h]; simp)
theorem srt_strs {ss : List Str} (h : ss.length < 64) : srtD (ss.map D.str) = some ((srtB ltS ss).map D.str) := by
  unfold srtD
  rw [asStrs_map]
  simp only
  rw [if_pos h]
theorem srtB_mem {α : Type} {lt : α → α → Bool} {x : α} {l : List α} : x ∈ srtB lt l ↔ x ∈ l := (srtB_perm l).mem_iff
theorem srtB_len {α : Type} {lt : α → α → Bool} {l : List α} : (srtB lt l).length = l.length := (srtB_perm l).length_eq
theorem inS {x : Str} {xs : List Str} {μ : Sto} : cmpD .In (.str x) (.lst (xs.map D.str)) μ = some (decide (x ∈ xs)) := by
  have e : inD (.str x) (xs.map D.str) = some (decide (x ∈ xs)) := by
    unfold inD
    have hf : ((D.str x).flat && (xs.map D.str).all D.flat) = true := by
      rw [Bool.and_eq_true, List.all_eq_true]
      exact ⟨rfl, fun y hy => by obtain ⟨z, _, rfl⟩ := List.mem_map.mp hy; rfl⟩
    rw [if_pos hf]
    congr 1
    rw [List.any_map]
    have e2 : ∀ y : Str, ((fun y : D => PyData.eqv y.py (D.str x).py) ∘ D.str) y = decide (y = x) := fun y => by
      simp only [Function.comp, D.py]
      have e : PyData.eqv (.str y) (.str x) = (y == x) := by simp [PyData.eqv]
      rw [e]
      by_cases h : y = x <;> simp [h]
    induction xs with
    | nil => rfl
    | cons y ys ih =>
      rw [List.any_cons, e2, ih (by rw [Bool.and_eq_true, List.all_eq_true]; exact ⟨rfl, fun y hy => by obtain ⟨z, _, rfl⟩ := List.mem_map.mp hy; rfl⟩)]
      by_cases h : y = x
      · subst h; simp
      · have h2 : ¬ x = y := fun z => h z.symm
        simp [h, h2]
  exact e
theorem inT {x : Str} {xs : List Str} {μ : Sto} : cmpD .In (.str x) (.tup (xs.map D.str)) μ = some (decide (x ∈ xs)) := inS (μ := μ)
theorem notIn_of {x y : D} {μ : Sto} {b : Bool} (h : cmpD .In x y μ = some b) : cmpD .NotIn x y μ = some (!b) := by
  have h : inA x y μ = some b := h
  show ((inA x y μ).bind fun b => some (!b)) = _
  rw [h]; rfl
theorem wv_of {α : Type} {x : Option (α × Sto)} {Q R : α → Sto → Prop} (h : Wv x Q) (k : ∀ a m, Q a m → R a m) : Wv x R := wv_mono h k
theorem mw_mono {c : Mak} {f : Nat} {ds : List D} {μ : Sto} {Q R : D → Sto → Prop} (h : Mw c f ds μ Q) (k : ∀ d m, Q d m → R d m) : Mw c f ds μ R := by
  obtain ⟨d, m, e, q⟩ := h
  exact ⟨⟨d, m, e, k d m q⟩⟩
theorem l_gen {α : Type} {f : D → Sto → Option (Option D × Sto)} {tx : α → D} {P : α → Prop} {S : Sto → Prop} : ∀ {xs : List D} {μ : Sto} {Q : List D → Sto → Prop}, S μ → (∀ x ∈ xs, ∀ m, S m → Wv (f x m) (fun r m' => S m' ∧ ∃ a, P a ∧ r = some (tx a))) →
    (∀ (as : List α) m, S m → (∀ a ∈ as, P a) → as.length = xs.length → Q (as.map tx) m) → Lw none f xs μ Q
  | [], μ, Q, s, _, k => by
    constructor
    unfold lcL
    rw [if_pos (by rfl)]
    exact wv_some (k [] μ s (fun _ h => nomatch h) rfl)
  | x :: xs, μ, Q, s, h, k => by
    constructor
    unfold lcL
    rw [if_pos (by rfl)]
    obtain ⟨r, m, e, s2, a, pa, rfl⟩ := h x (.head _) μ s
    rw [e]
    show Wv ((lcL none f xs m).bind _) Q
    refine wv_bind (wv_mono (l_gen (Q := fun ys m => Q (tx a :: ys) m) s2 (fun y hy => h y (.tail _ hy)) fun as m' s3 pas hl => ?_).h fun ys m q => wv_some q)
    exact k (a :: as) m' s3 (fun b hb => by
      rcases List.mem_cons.mp hb with e | e
      · subst e; exact pa
      · exact pas b e) (by rw [List.length_cons, List.length_cons, hl])
theorem nodup_len : ∀ {l S : List Str}, l.Nodup → (∀ x ∈ l, x ∈ S) → l.length ≤ S.length
  | [], _, _, _ => Nat.zero_le _
  | x :: l, S, nd, h => by
    obtain ⟨n1, n2⟩ := List.nodup_cons.mp nd
    have hx := h x (.head _)
    have := nodup_len (S := S.erase x) n2 fun y hy => (List.mem_erase_of_ne (a := y) (b := x) fun e => n1 (e ▸ hy)).mpr (h y (.tail _ hy))
    have h3 := List.length_erase_of_mem hx
    have h4 : 0 < S.length := List.length_pos_of_mem hx
    rw [List.length_cons]
    omega
theorem srt_nub_len {xs S : List Str} (h : ∀ x ∈ xs, x ∈ S) : (srtB ltS (nub xs)).length ≤ S.length := by
  rw [srtB_len]
  exact nodup_len (nub_nd xs) fun x hx => h x (nub_mem.mp hx)
theorem srt_nub_mem {x : Str} {xs : List Str} : x ∈ srtB ltS (nub xs) ↔ x ∈ xs := by rw [srtB_mem, nub_mem]
theorem l_nil {f : D → Sto → Option (Option D × Sto)} {μ : Sto} {Q : List D → Sto → Prop} (k : Q [] μ) : Lw none f [] μ Q := by
  constructor
  unfold lcL
  rw [if_pos (by rfl)]
  exact wv_some k
theorem l_cons {f : D → Sto → Option (Option D × Sto)} {x : D} {xs : List D} {μ : Sto} {Q : List D → Sto → Prop} (h : Wv (f x μ) (fun r m => ∃ y, r = some y ∧ Lw none f xs m fun ys m => Q (y :: ys) m)) : Lw none f (x :: xs) μ Q := by
  constructor
  unfold lcL
  rw [if_pos (by rfl)]
  obtain ⟨r, m, e, y, rfl, k⟩ := h
  rw [e]
  show Wv ((lcL none f xs m).bind _) Q
  exact wv_bind (wv_mono k.h fun ys m q => wv_some q)
theorem cut_take {xs : List D} {i : Int} (h : 0 ≤ i) : cutD xs none (some i) = xs.take i.toNat := by
  obtain ⟨k, rfl⟩ := Int.eq_ofNat_of_zero_le h
  unfold cutD
  show (xs.drop (HT.sIx xs.length 0 none)).take (HT.sIx xs.length xs.length (some (k : Int)) - HT.sIx xs.length 0 none) = xs.take k
  rw [HT.sIx_nat, HT.sIx_none, List.drop_zero, Nat.sub_zero]
  by_cases hk : k ≤ xs.length
  · rw [Nat.min_eq_left hk]
  · rw [Nat.min_eq_right (by omega), List.take_of_length_le (Nat.le_refl _), List.take_of_length_le (by omega)]
theorem cut_from {xs : List D} {i : Int} (h : 0 ≤ i) : cutD xs (some i) none = xs.drop i.toNat := by
  obtain ⟨k, rfl⟩ := Int.eq_ofNat_of_zero_le h
  unfold cutD
  show (xs.drop (HT.sIx xs.length 0 (some (k : Int)))).take (HT.sIx xs.length xs.length none - HT.sIx xs.length 0 (some (k : Int))) = xs.drop k
  rw [HT.sIx_nat, HT.sIx_none]
  by_cases hk : k ≤ xs.length
  · rw [Nat.min_eq_left hk, List.take_of_length_le (by simp)]
  · rw [Nat.min_eq_right (by omega), List.drop_length, List.drop_eq_nil_of_le (by omega), List.take_nil]
/-- told off by number -/
def enW {α : Type} (f : α → D) : Nat → List α → List D
  | _, [] => []
  | k, a :: r => .tup [.int k, f a] :: enW f (k + 1) r
theorem enW_eq {α : Type} (f : α → D) : ∀ (as : List α) (k : Nat), (((as.map f).zipIdx k).map fun p => D.tup [.int (p.2 : Nat), p.1]) = enW f k as
  | [], _ => rfl
  | a :: r, k => by
    rw [List.map_cons, List.zipIdx_cons, List.map_cons, enW_eq f r (k + 1)]
    rfl
theorem at0 {a : D} {l : List D} : L2.atI (a :: l) 0 = some a := by
  unfold L2.atI L2.ixN
  rw [if_pos (by decide), if_pos (by simp)]
  rfl
theorem at1 {a b : D} {l : List D} : L2.atI (a :: b :: l) 1 = some b := by
  unfold L2.atI L2.ixN
  rw [if_pos (by decide), if_pos (by simp; omega)]
  rfl
theorem fw_mono {g : Gd} {f : D → Rho → Sto → Option Out} {xs : List D} {ρ : Rho} {μ : Sto} {N N' : Rho → Sto → Prop} {R R' : Bool → D → Sto → Prop} (h : Fw g f xs ρ μ N R) (k : ∀ ρ m, N ρ m → N' ρ m) (k2 : ∀ o d m, R o d m → R' o d m) : Fw g f xs ρ μ N' R' := by
  constructor
  rcases h.h with ⟨ρ', m, e, q⟩ | ⟨o, d, m, e, q⟩
  · exact .inl ⟨ρ', m, e, k _ _ q⟩
  · exact .inr ⟨o, d, m, e, k2 _ _ _ q⟩
theorem l_genI {α : Type} {f : D → Sto → Option (Option D × Sto)} {tx : α → D} {P : Nat → α → Prop} {S : Sto → Prop} : ∀ (n s : Nat) {μ : Sto} {Q : List D → Sto → Prop}, S μ → (∀ i : Nat, s ≤ i → i < s + n → ∀ m, S m → Wv (f (.int i) m) (fun r m' => S m' ∧ ∃ a, P i a ∧ r = some (tx a))) →
    (∀ (as : List α) m, S m → as.length = n → (∀ (i : Nat) a, as[i]? = some a → P (s + i) a) → Q (as.map tx) m) → Lw none f ((List.range' s n).map fun (i : Nat) => D.int i) μ Q
  | 0, s, μ, Q, h, _, k => l_nil (k [] μ h rfl fun i a e => by simp at e)
  | n + 1, s, μ, Q, h, st, k => by
    rw [List.range'_succ, List.map_cons]
    refine l_cons ?_
    obtain ⟨r, m, e, s2, a, pa, rfl⟩ := st s (Nat.le_refl _) (by omega) μ h
    refine ⟨_, m, e, _, rfl, ?_⟩
    refine l_genI n (s + 1) s2 (fun i h1 h2 m hm => st i (by omega) (by omega) m hm) fun as m hm hl hp => ?_
    refine k (a :: as) m hm (by rw [List.length_cons, hl]) fun i b e => ?_
    cases i with
    | zero =>
      have e : a = b := by simpa using e
      subst e
      exact pa
    | succ i =>
      have := hp i b (by simpa using e)
      rw [show s + (i + 1) = s + 1 + i by omega]
      exact this
theorem dat_ns {ns : List Str} : (D.lst (ns.map D.str)).dat = true := dats_all fun d hd => by
  obtain ⟨s, _, rfl⟩ := List.mem_map.mp hd
  rfl
theorem dep_ns {ns : List Str} : (D.lst (ns.map D.str)).py.depth ≤ 64 := by
  have := depths_le (n := 1) (ds := ns.map D.str) fun d hd => by
    obtain ⟨s, _, rfl⟩ := List.mem_map.mp hd
    simp [D.py, PyData.depth]
  show PyData.depth (.list (D.pys (ns.map D.str))) ≤ 64
  simp only [PyData.depth]
  omega
theorem eq_ns {ns : List Str} {μ : Sto} : cmpD .Eq (.lst (ns.map D.str)) (.lst (ns.map D.str)) μ = some true := eq_self dat_ns dep_ns
theorem ne_nil {ns : List Str} {μ : Sto} : cmpD .NotEq (.lst (ns.map D.str)) (.lst []) μ = some (decide (ns ≠ [])) := by
  show ((eqD (.lst (ns.map D.str)) (.lst [])).bind fun b => some (!b)) = _
  unfold eqD
  have h : ((D.lst (ns.map D.str)).dat && (D.lst []).dat && decide (min (D.lst (ns.map D.str)).py.depth (D.lst []).py.depth ≤ 64)) = true := by
    rw [dat_ns]
    have := dep_ns (ns := ns)
    have h2 : (D.lst []).dat = true := rfl
    rw [h2, decide_eq_true (by omega)]
    rfl
  rw [if_pos h]
  show some (!_) = _
  congr 1
  cases ns with
  | nil => simp [D.py, D.pys, PyData.eqv, PyData.eqvAll]
  | cons a r => simp [D.py, D.pys, PyData.eqv, PyData.eqvAll]
theorem eq_tupS {xs : List Str} {s : Str} {μ : Sto} : cmpD .Eq (.tup (xs.map D.str)) (.str s) μ = some false := by
  show eqD (.tup (xs.map D.str)) (.str s) = _
  unfold eqD
  have h1 : (D.tup (xs.map D.str)).dat = true := dats_all fun d hd => by
    obtain ⟨s, _, rfl⟩ := List.mem_map.mp hd
    rfl
  have h2 : (D.str s).py.depth ≤ 64 := by simp [D.py, PyData.depth]
  have h : ((D.tup (xs.map D.str)).dat && (D.str s).dat && decide (min (D.tup (xs.map D.str)).py.depth (D.str s).py.depth ≤ 64)) = true := by
    rw [h1, decide_eq_true (by omega)]
    rfl
  rw [if_pos h]
  simp [D.py, PyData.eqv]
theorem zip_enum {xs : List Str} : (((xs.map D.str).zipIdx).map fun p => D.tup [.int (p.2 : Nat), p.1]) = xs.zipIdx.map fun p => D.tup [.int (p.2 : Nat), .str p.1] := by
  rw [List.zipIdx_map, List.map_map]
  rfl
end EV

set_option Elab.async false
set_option linter.all false
set_option maxRecDepth 100000
set_option maxHeartbeats 0
namespace HD
open PySem PySem.Spec PyProof.Rows L2
def top (i : Nat) : Stmt := PySem.Challenge.pw_enoughsaid_k31_answers_made.main.body.getD i (.Pass ⟨0, 0, 0, 0⟩)
def clsBody : Stmt → List Stmt
  | .ClassDef _ _ _ b .. => b
  | _ => []
def meth (i j : Nat) : Stmt := (clsBody (top i)).getD j (.Pass ⟨0, 0, 0, 0⟩)
def c_is_whole : EV.Ss := (.cons (.ret (.and (.isi (.v 0) (.ty "int")) (.not (.isi (.v 0) (.ty "bool"))))) .nil)
def f_is_whole : EV.Fn := ⟨⟨("is_whole", none), "is_whole", "is_whole", defArgs (top 15), defBody (top 15), defScope (top 15), [], []⟩,
  ["thing"], ["thing"], c_is_whole, false, none⟩
def c_is_name : EV.Ss := (.cons (.iff (.or (.not (.isi (.v 0) (.ty "str"))) (.not (.chn .LtE .LtE (.k (.int 1)) (.bi .len (.e (.v 0))) (.gl 0)))) (.cons (.ret (.k (.bl false))) .nil) .nil) (.cons (.ret (.bi .all (.e (.frz (.lc (.cmp .In (.e (.v 1)) (.e (.gl 1))) (.v 1) (.str (.v 0)) .no))))) .nil))
def f_is_name : EV.Fn := ⟨⟨("is_name", none), "is_name", "is_name", defArgs (top 16), defBody (top 16), defScope (top 16), [], []⟩,
  ["thing", "sign"], ["thing"], c_is_name, false, none⟩
def c_is_from_nought : EV.Ss := (.cons (.ret (.and (.call 0 (.cons (.v 0) .nil)) (.cmp .GtE (.e (.v 0)) (.e (.k (.int 0)))))) .nil)
def f_is_from_nought : EV.Fn := ⟨⟨("is_from_nought", none), "is_from_nought", "is_from_nought", defArgs (top 18), defBody (top 18), defScope (top 18), [], []⟩,
  ["thing"], ["thing"], c_is_from_nought, false, none⟩
def c_Answer___init__ : EV.Ss := (.cons (.iff (.not (.call 1 (.cons (.v 1) .nil))) (.cons (.rse 5) .nil) .nil) (.cons (.iff (.and (.cmp .IsNot (.e (.v 3)) (.e (.k .non))) (.not (.call 2 (.cons (.v 3) .nil)))) (.cons (.rse 5) .nil) .nil) (.cons (.for (.v 6) (.tup (.tup (.cons (.v 2) (.cons (.v 4) (.cons (.v 5) .nil))))) (.cons (.iff (.not (.call 2 (.cons (.v 6) .nil))) (.cons (.rse 5) .nil) .nil) .nil)) (.cons (.setA 0 0 (.v 1)) (.cons (.setA 0 1 (.v 2)) (.cons (.setA 0 2 (.v 3)) (.cons (.setA 0 3 (.v 4)) (.cons (.setA 0 4 (.v 5)) .nil))))))))
def f_Answer___init__ : EV.Fn := ⟨⟨("Answer", some "__init__"), "__init__", "Answer.__init__", defArgs (meth 19 0), defBody (meth 19 0), defScope (meth 19 0), [], []⟩,
  ["self", "name", "ask", "value", "stamp", "seal", "thing"], ["self", "name", "ask", "value", "stamp", "seal"], c_Answer___init__, true, none⟩
def c__law_cell_at : EV.Ss := (.cons (.iff (.cmp .Lt (.e (.v 1)) (.e (.bi .len (.e (.v 0))))) (.cons (.ret (.sub (.e (.v 0)) (.v 1))) .nil) .nil) (.cons (.ret (.k (.int 0))) .nil))
def f__law_cell_at : EV.Fn := ⟨⟨("_law_cell_at", none), "_law_cell_at", "_law_cell_at", defArgs (top 21), defBody (top 21), defScope (top 21), [], []⟩,
  ["_law_script", "_law_k"], ["_law_script", "_law_k"], c__law_cell_at, false, none⟩
def c__law_well : EV.Ss := (.cons (.ret (.box (.lst (.cons (.sub (.e (.frz (.lst (.cons (.k (.int 0)) (.cons (.v 0) .nil))))) (.bi .int (.e (.cmp .GtE (.e (.v 0)) (.e (.bin .Pow (.k (.int 10)) (.k (.int 18)))))))) (.cons (.bin .Mod (.v 0) (.k (.int 2147483629))) (.cons (.k (.int 0)) .nil)))))) .nil)
def f__law_well : EV.Fn := ⟨⟨("_law_well", none), "_law_well", "_law_well", defArgs (top 22), defBody (top 22), defScope (top 22), [], []⟩,
  ["_law_cell"], ["_law_cell"], c__law_well, false, none⟩
def c__law_draw : EV.Ss := (.cons (.iff (.cmp .Gt (.e (.sub (.e (.v 0)) (.k (.int 0)))) (.e (.k (.int 0)))) (.cons (.set 3 (.bin .Mod (.sub (.e (.v 0)) (.k (.int 0))) (.v 1))) (.cons (.setIx (.v 0) (.k (.int 0)) (.bin .FloorDiv (.sub (.e (.v 0)) (.k (.int 0))) (.v 1))) (.cons (.ret (.v 3)) .nil))) .nil) (.cons (.setIx (.v 0) (.k (.int 2)) (.bin .Add (.sub (.e (.v 0)) (.k (.int 2))) (.k (.int 1)))) (.cons (.set 2 (.bin .Mod (.bin .Mult (.bin .Add (.bin .Add (.sub (.e (.v 0)) (.k (.int 1))) (.bin .Mult (.k (.int 7919)) (.sub (.e (.v 0)) (.k (.int 2))))) (.k (.int 1))) (.k (.int 48271))) (.k (.int 2147483647)))) (.cons (.set 2 (.bin .Mod (.bin .Mult (.v 2) (.bin .Add (.bin .FloorDiv (.v 2) (.k (.int 1009))) (.k (.int 69621)))) (.k (.int 2147483647)))) (.cons (.ret (.bin .Mod (.bin .Mod (.bin .Mult (.v 2) (.bin .Add (.bin .FloorDiv (.v 2) (.k (.int 2003))) (.k (.int 40692)))) (.k (.int 2147483399))) (.v 1))) .nil)))))
def f__law_draw : EV.Fn := ⟨⟨("_law_draw", none), "_law_draw", "_law_draw", defArgs (top 23), defBody (top 23), defScope (top 23), [], []⟩,
  ["_law_well_here", "_law_base", "_law_number", "_law_digit"], ["_law_well_here", "_law_base"], c__law_draw, false, none⟩
def c__law_word : EV.Ss := (.cons (.set 2 (.k (.str "abcdefghijklmnopqrstuvwxyz"))) (.cons (.set 3 (.k (.str ""))) (.cons (.for (.v 4) (.rng (.call 6 (.cons (.v 0) (.cons (.k (.int 8)) .nil)))) (.cons (.set 3 (.bin .Add (.v 3) (.sub (.e (.v 2)) (.call 6 (.cons (.v 0) (.cons (.k (.int 26)) .nil)))))) .nil)) (.cons (.ret (.bin .Add (.v 3) (.sub (.e (.v 2)) (.bin .Mod (.v 1) (.k (.int 26)))))) .nil))))
def f__law_word : EV.Fn := ⟨⟨("_law_word", none), "_law_word", "_law_word", defArgs (top 24), defBody (top 24), defScope (top 24), [], []⟩,
  ["_law_well_here", "_law_last", "_law_letters", "_law_word_here", "_law_k"], ["_law_well_here", "_law_last"], c__law_word, false, none⟩
def c__law_is_number : EV.Ss := (.cons (.ret (.and (.isi (.v 0) (.ty "int")) (.and (.not (.isi (.v 0) (.ty "bool"))) (.cmp .GtE (.e (.v 0)) (.e (.k (.int 0))))))) .nil)
def f__law_is_number : EV.Fn := ⟨⟨("_law_is_number", none), "_law_is_number", "_law_is_number", defArgs (top 26), defBody (top 26), defScope (top 26), [], []⟩,
  ["_law_thing"], ["_law_thing"], c__law_is_number, false, none⟩
def c__law_is_right : EV.Ss := (.cons (.setT [1, 2, 3, 4, 5] (.v 0)) (.cons (.iff (.or (.not (.isi (.v 1) (.ty "str"))) (.not (.chn .Lt .Lt (.k (.int 0)) (.bi .len (.e (.v 1))) (.k (.int 9))))) (.cons (.ret (.k (.bl false))) .nil) .nil) (.cons (.iff (.cmp .NotEq (.e (.frz (.lc (.v 6) (.v 6) (.str (.v 1)) (.so (.cmp .NotIn (.e (.v 6)) (.e (.k (.str "abcdefghijklmnopqrstuvwxyz")))))))) (.e (.frz (.lst .nil)))) (.cons (.ret (.k (.bl false))) .nil) .nil) (.cons (.ret (.and (.or (.cmp .Is (.e (.v 3)) (.e (.k .non))) (.call 8 (.cons (.v 3) .nil))) (.bi .all (.e (.frz (.lc (.call 8 (.cons (.v 7) .nil)) (.v 7) (.lst (.e (.frz (.lst (.cons (.v 2) (.cons (.v 4) (.cons (.v 5) .nil))))))) .no)))))) .nil))))
def f__law_is_right : EV.Fn := ⟨⟨("_law_is_right", none), "_law_is_right", "_law_is_right", defArgs (top 27), defBody (top 27), defScope (top 27), [], []⟩,
  ["_law_things", "_law_name", "_law_ask", "_law_value", "_law_stamp", "_law_seal", "_law_sign", "_law_one"], ["_law_things"], c__law_is_right, false, none⟩
def c__law_told : EV.Ss := (.cons (.set 1 (.tup (.cons (.k (.str "other")) (.cons (.k .non) .nil)))) (.cons (.try (.cons (.xs (.set 2 (.make 0 (.cons (.sub (.e (.v 0)) (.k (.int 0))) (.cons (.sub (.e (.v 0)) (.k (.int 1))) (.cons (.sub (.e (.v 0)) (.k (.int 2))) (.cons (.sub (.e (.v 0)) (.k (.int 3))) (.cons (.sub (.e (.v 0)) (.k (.int 4))) .nil)))))))) (.cons (.set 1 (.tup (.cons (.k (.str "made")) (.cons (.tup (.cons (.attr (.v 2) 0) (.cons (.attr (.v 2) 1) (.cons (.attr (.v 2) 2) (.cons (.attr (.v 2) 3) (.cons (.attr (.v 2) 4) .nil)))))) .nil)))) .nil)) 0 (some 4) (.cons (.set 3 (.isi [7, 9, 4, 2, 6, 10, 8, 1, 3] false)) (.cons (.iff (.and (.isi [5] true) (.and .isv (.not (.v 3)))) (.cons (.set 1 (.tup (.cons (.k (.str "refused")) (.cons (.k .non) .nil)))) .nil) .nil) .nil))) (.cons (.ret (.v 1)) .nil)))
def f__law_told : EV.Fn := ⟨⟨("_law_told", none), "_law_told", "_law_told", defArgs (top 28), defBody (top 28), defScope (top 28), [], []⟩,
  ["_law_things", "_law_found", "_law_made", "_law_others", "e"], ["_law_things"], c__law_told, false, none⟩
def c__law_odd : EV.Ss := (.cons (.set 1 (.frz (.lst (.cons (.k .non) (.cons (.k (.bl true)) (.cons (.k (.bl false)) (.cons (.neg (.k (.int 1))) (.cons (.bin .Sub (.k (.int 0)) (.bin .Pow (.k (.int 10)) (.k (.int 8)))) (.cons (.k (.str "")) (.cons (.k (.str "abcdefghi")) (.cons (.k (.str "Ann")) (.cons (.k (.str "a b")) (.cons (.k (.str "an1")) (.cons (.k (.str "7")) (.cons (.frz (.lst .nil)) (.cons (.frz (.lst (.cons (.k (.int 1)) .nil))) (.cons (.tup (.cons (.k (.int 1)) .nil)) (.cons (.k (.str "an\n")) .nil)))))))))))))))))) (.cons (.ret (.sub (.e (.v 1)) (.call 6 (.cons (.v 0) (.cons (.bi .len (.e (.v 1))) .nil))))) .nil))
def f__law_odd : EV.Fn := ⟨⟨("_law_odd", none), "_law_odd", "_law_odd", defArgs (top 29), defBody (top 29), defScope (top 29), [], []⟩,
  ["_law_well_here", "_law_some"], ["_law_well_here"], c__law_odd, false, none⟩
def c_law : EV.Ss := (.cons (.for (.v 1) (.rng (.b2 .max2 (.k (.int 1)) (.b2 .min2 (.k (.int 12)) (.bi .len (.e (.v 0)))))) (.cons (.set 2 (.call 5 (.cons (.bin .Add (.call 4 (.cons (.v 0) (.cons (.v 1) .nil))) (.bin .Mult (.k (.int 7)) (.v 1))) .nil))) (.cons (.setO 3 (.lc (.sub (.e (.frz (.lst (.cons (.k (.int 0)) (.cons (.k (.int 1)) (.cons (.call 6 (.cons (.v 2) (.cons (.bin .Pow (.k (.int 10)) (.k (.int 9))) .nil))) .nil)))))) (.call 6 (.cons (.v 2) (.cons (.k (.int 3)) .nil)))) (.v 7) (.rng (.k (.int 4))) .no)) (.cons (.frz 3) (.cons (.set 4 (.box (.cat (.e (.frz (.lst (.cons (.call 7 (.cons (.v 2) (.cons (.call 6 (.cons (.v 2) (.cons (.k (.int 26)) .nil))) .nil))) .nil)))) (.e (.v 3))))) (.cons (.iff (.cmp .Eq (.e (.call 6 (.cons (.v 2) (.cons (.k (.int 3)) .nil)))) (.e (.k (.int 0)))) (.cons (.setIx (.v 4) (.k (.int 2)) (.k .non)) .nil) .nil) (.cons (.for (.v 5) (.rng (.call 6 (.cons (.v 2) (.cons (.k (.int 3)) .nil)))) (.cons (.setIx (.v 4) (.call 6 (.cons (.v 2) (.cons (.k (.int 5)) .nil))) (.call 11 (.cons (.v 2) .nil))) .nil)) (.cons (.set 6 (.call 10 (.cons (.v 4) .nil))) (.cons (.iff (.cmp .NotEq (.e (.sub (.e (.v 6)) (.k (.int 0)))) (.e (.sub (.e (.frz (.lst (.cons (.k (.str "refused")) (.cons (.k (.str "made")) .nil))))) (.bi .int (.e (.call 9 (.cons (.v 4) .nil))))))) (.cons (.ret (.k (.bl false))) .nil) .nil) (.cons (.iff (.and (.cmp .Eq (.e (.sub (.e (.v 6)) (.k (.int 0)))) (.e (.k (.str "made")))) (.cmp .NotEq (.e (.sub (.e (.v 6)) (.k (.int 1)))) (.e (.tupl (.e (.v 4)))))) (.cons (.ret (.k (.bl false))) .nil) .nil) .nil)))))))))) (.cons (.ret (.k (.bl true))) .nil))
def f_law : EV.Fn := ⟨⟨("law", none), "law", "law", defArgs (top 30), defBody (top 30), defScope (top 30), [], []⟩,
  ["_law_script", "_law_k", "_law_well_here", "_law_numbers", "_law_things", "_law_turn", "_law_found", "_law_j"], ["_law_script"], c_law, false, none⟩
def T : EV.Tab := ⟨([f_is_whole, f_is_name, f_is_from_nought, f_Answer___init__, f__law_cell_at, f__law_well, f__law_draw, f__law_word, f__law_is_number, f__law_is_right, f__law_told, f__law_odd, f_law] : List EV.Fn),
  [⟨"Answer", [0, 1, 2, 3, 4], 3, false, [0]⟩], ["name", "ask", "value", "stamp", "seal"],
  [("MOST_LETTERS", (.int 8)), ("LETTERS", (.str "abcdefghijklmnopqrstuvwxyz"))], [], [], [], [], [], [], [("EnoughError", [0]), ("NoWish", [1, 0]), ("NoRow", [2, 0]), ("TooGreat", [3, 0]), ("NoCost", [4, 0]), ("NoAnswer", [5, 0]), ("NoRule", [6, 0]), ("NoAsk", [7, 0]), ("NoTime", [8, 0]), ("NoBook", [9, 0]), ("NoText", [10, 0])], [5]⟩
def loose : List PySem.Str := (["is_whole", "is_name", "is_from_nought", "_law_cell_at", "_law_well", "_law_draw", "_law_word", "_law_names", "_law_is_number", "_law_is_right", "_law_told", "_law_odd", "EnoughError", "NoWish", "NoRow", "TooGreat", "NoCost", "NoAnswer", "NoRule", "NoAsk", "NoTime", "NoBook", "NoText", "Answer", "LETTERS", "MOST_LETTERS"] : List PySem.Str)
theorem okT : T.fns.all (EV.okFn T) = true := by kernel_rfl
end HD

set_option Elab.async false
set_option linter.all false
set_option maxRecDepth 100000
set_option maxHeartbeats 0
namespace HD
open PySem PySem.Spec PyProof.Rows L2
abbrev R : PySem.W.OpenRow := PySem.W.OpenLaw.row PySem.Challenge.rw_enoughsaid_k31_answers_made
abbrev hk : PySem.W.Hook := He.hookX 6 [] (T.fns.map (·.d)) (EV.tsOf T) [] (EV.okB T)
def ob (s : PySem.W.SharedT) : He.AlX := He.obsX 6 [] (T.fns.map (·.d)) (EV.tsOf T) [] (EV.okB T) (HandSHeadRun.getT s)
theorem ob_eq (s : PySem.W.SharedT) : ob s = hk.obs s.abs := He.obsX_eq (HandSHeadRun.getT_eq s)
theorem run (w : World) : HandSHeadRun.RunEq R (PySem.W.view R.prog [30]) hk ob 8000 loose w := by
  intro os
  kernel_rfl
end HD

set_option Elab.async false
set_option linter.all false
set_option maxRecDepth 100000
set_option maxHeartbeats 1000000
namespace HD
open EV PySem
local macro_rules | `(tactic| array_get_dec) => `(tactic| ((conv => whnf); first
  | with_reducible refine if_T ?_
  | with_reducible refine if_F ?_
  | with_reducible refine Nd.mk (by omega) ?_
  | with_reducible refine if_t (by omega) ?_
  | with_reducible refine if_f (by omega) ?_
  | with_reducible refine if_nt (by omega) ?_
  | with_reducible refine if_nf (by omega) ?_
  | with_reducible refine if_dT (by decide) ?_
  | with_reducible refine if_dF (by decide) ?_
  | with_reducible refine ow_r rfl ?_))
open TL
abbrev letS : Str := "abcdefghijklmnopqrstuvwxyz"
def nmS (s : Str) : Prop := (∀ c ∈ tl s, 97 ≤ c ∧ c ≤ 122) ∧ 1 ≤ s.length ∧ s.length ≤ 8
theorem let_at {i : Int} (h0 : 0 ≤ i) (h1 : i < 26) {μ : Sto} : subD (.str letS) (.int i) μ = some (.str ⟨#[97 + i.toNat]⟩) := by
  have key : ∀ k : Fin 26, (match subD (.str letS) (.int (k.val : Int)) [] with | some (.str s) => decide (s = ⟨#[97 + k.val]⟩) | _ => false) = true := by decide +kernel
  have := key ⟨i.toNat, by omega⟩
  have e : ((⟨i.toNat, by omega⟩ : Fin 26).val : Int) = i := by simp; omega
  rw [e] at this
  have e2 : subD (.str letS) (.int i) μ = subD (.str letS) (.int i) [] := rfl
  rw [e2]
  split at this
  · rename_i s hs
    rw [hs, of_decide_eq_true this]
  · cases this
theorem cat_ok {a b : Str} (h : a.length + b.length ≤ 1000) : binD .Add (.str a) (.str b) = some (.str (a ++ b)) := if_pos (by show _ ≤ 16777216; omega)
/-- whether a text is a name -/
def isNm (s : Str) : Bool := decide (1 ≤ s.length ∧ s.length ≤ 8) && (tl s).all fun c => decide (97 ≤ c ∧ c ≤ 122)
def asc (s : Str) : Prop := ∀ c ∈ tl s, c < 128
theorem in_asc {c : Nat} (h : c < 128) {μ : Sto} : cmpD .In (.str ⟨#[c]⟩) (.str letS) μ = some (decide (97 ≤ c ∧ c ≤ 122)) := by
  have key : ∀ k : Fin 128, cmpD .In (.str ⟨#[k.val]⟩) (.str letS) [] = some (decide (97 ≤ k.val ∧ k.val ≤ 122)) := by decide +kernel
  exact key ⟨c, h⟩
theorem bl_map {α : Type} (g : α → Bool) (as : List α) : (as.map fun s => D.bl (g s)) = (as.map g).map D.bl := by rw [List.map_map]; rfl
theorem c_isnm {n : Nat} {s : Str} {μ : Sto} {Q} (h : asc s) (k : Q false (D.bl (isNm s)) μ) : Cw (sem T (n+1)).1 1 [.str s] μ Q := by
  refine v_fn rfl rfl rfl ?_
  conv => whnf
  refine ow_r rfl ?_
  conv => whnf
  refine if_F ?_
  conv => whnf
  refine ow_r rfl ?_
  conv => whnf
  have rest : 1 ≤ s.length → s.length ≤ 8 → isNm s = (tl s).all fun c => decide (97 ≤ c ∧ c ≤ 122) := fun h1 h2 => by
    unfold isNm
    rw [decide_eq_true ⟨h1, h2⟩, Bool.true_and]
  have off : ¬ (1 ≤ s.length ∧ s.length ≤ 8) → isNm s = false := fun h => by
    unfold isNm
    rw [decide_eq_false h, Bool.false_and]
  refine if_of (fun h1 => ?_) (fun h1 => ?_)
  · conv => whnf
    refine if_n (fun h2 => ?_) (fun h2 => ?_)
    · conv => whnf
      rw [off (fun z => h2 (by show (s.length : Int) ≤ 8; omega))] at k
      exact k
    · have h2 : (s.length : Int) ≤ 8 := h2
      rw [rest (by omega) (by omega)] at k
      conv => whnf
      refine l_map (as := tl s) (dx := fun c : Nat => D.str ⟨#[c]⟩) (g := fun c => .bl (decide (97 ≤ c ∧ c ≤ 122))) (fun c hc => ?_) ?_
      · refine bodl1 rfl ?_
        conv => whnf
        refine ow_r (in_asc (h c hc)) ?_
        exact ⟨rfl, rfl⟩
      rw [bl_map]
      conv => whnf
      refine ow_r bi_allB ?_
      rw [List.all_map]
      exact k
  · conv => whnf
    refine if_T ?_
    conv => whnf
    rw [off (fun z => h1 (by omega))] at k
    exact k
/-- what is no name -/
def Odd (d : D) : Prop := (∃ s, d = .str s ∧ asc s ∧ isNm s = false) ∨ (∀ μ, tyD T d (.ty "str") μ = some false)
theorem c_isodd {n : Nat} {d : D} {μ : Sto} {Q} (h : Odd d) (k : Q false (D.bl false) μ) : Cw (sem T (n+1)).1 1 [d] μ Q := by
  rcases h with ⟨s, rfl, h1, h2⟩ | h
  · exact c_isnm h1 (by rw [h2]; exact k)
  · refine v_fn rfl rfl rfl ?_
    conv => whnf
    refine ow_r (h _) ?_
    conv => whnf
    refine if_T ?_
    conv => whnf
    refine if_T ?_
    conv => whnf
    exact k
theorem c_whole {n : Nat} {d : D} {a b : Bool} {μ : Sto} {Q} (h1 : tyD T d (.ty "int") μ = some a) (h2 : tyD T d (.ty "bool") μ = some b) (k : Q false (D.bl (a && !b)) μ) : Cw (sem T (n+1)).1 0 [d] μ Q := by
  refine v_fn rfl rfl rfl ?_
  conv => whnf
  refine ow_r h1 ?_
  cases a with
  | true =>
    refine if_T ?_
    conv => whnf
    refine ow_r h2 ?_
    exact k
  | false =>
    refine if_F ?_
    exact k
/-- things that can be drawn -/
def Thg (d : D) : Prop := (∃ s, d = .str s ∧ asc s) ∨ (∃ i, d = .int i) ∨ (∃ b, d = .bl b) ∨ d = .non ∨ d = .lst [] ∨ d = .lst [.int 1] ∨ d = .tup [.int 1]
def nmB : D → Bool | .str s => isNm s | _ => false
def numB : D → Bool | .int i => decide (0 ≤ i) | _ => false
def valB : D → Bool | .non => true | d => numB d
def rgtB (a b c d e : D) : Bool := nmB a && (valB c && (numB b && (numB d && numB e)))
theorem c_nm {n : Nat} {d : D} {μ : Sto} {Q} (h : Thg d) (k : Q false (D.bl (nmB d)) μ) : Cw (sem T (n+1)).1 1 [d] μ Q := by
  rcases h with ⟨s, rfl, h⟩ | ⟨i, rfl⟩ | ⟨b, rfl⟩ | rfl | rfl | rfl | rfl
  · exact c_isnm h k
  all_goals exact c_isodd (.inr fun _ => rfl) k
theorem c_frn {n : Nat} {d : D} {μ : Sto} {Q} (h : Thg d) (k : Q false (D.bl (numB d)) μ) : Cw (sem T (n+2)).1 2 [d] μ Q := by
  refine v_fn rfl rfl rfl ?_
  conv => whnf
  rcases h with ⟨s, rfl, h⟩ | ⟨i, rfl⟩ | ⟨b, rfl⟩ | rfl | rfl | rfl | rfl
  · refine c_whole (a := false) (b := false) rfl rfl (if_F ?_)
    exact k
  · refine c_whole (a := true) (b := false) rfl rfl (if_T ?_)
    conv => whnf
    exact k
  · refine c_whole (a := true) (b := true) rfl rfl (if_F ?_)
    exact k
  all_goals
    refine c_whole (a := false) (b := false) rfl rfl (if_F ?_)
    exact k
theorem c_num {n : Nat} {d : D} {μ : Sto} {Q} (h : Thg d) (k : Q false (D.bl (numB d)) μ) : Cw (sem T (n+1)).1 8 [d] μ Q := by
  refine v_fn rfl rfl rfl ?_
  conv => whnf
  rcases h with ⟨s, rfl, h⟩ | ⟨i, rfl⟩ | ⟨b, rfl⟩ | rfl | rfl | rfl | rfl
  · refine ow_r rfl (if_F ?_)
    exact k
  · refine ow_r rfl (if_T ?_)
    conv => whnf
    refine ow_r rfl ?_
    conv => whnf
    refine if_T ?_
    conv => whnf
    exact k
  · refine ow_r rfl (if_T ?_)
    conv => whnf
    refine ow_r rfl ?_
    conv => whnf
    refine if_F ?_
    exact k
  all_goals
    refine ow_r rfl (if_F ?_)
    exact k
/-- the making -/
theorem mz_ans {n : Nat} {a b c d e : D} {μ : Sto} {Q X} (ha : Thg a) (hb : Thg b) (hc : Thg c) (hd : Thg d) (he : Thg e)
    (k1 : rgtB a b c d e = true → Q (.obj 0 [a, b, c, d, e]) μ) (k2 : rgtB a b c d e = false → X (.obj 5 []) μ) : Mz (sem T (n+3)).2 0 [a, b, c, d, e] μ Q X := by
  refine v_mkz rfl rfl rfl rfl rfl ?_
  conv => whnf
  refine c_nm ha ?_
  conv => whnf
  cases h1 : nmB a with
  | false =>
    refine if_T ?_
    conv => whnf
    exact k2 (by unfold rgtB; rw [h1]; rfl)
  | true =>
    refine if_F ?_
    conv => whnf
    have rest : ∀ {s : Slot}, valB c = true → zSs T (sem T (n+2)).1 (sem T (n+2)).2 (match c_Answer___init__ with | .cons _ (.cons _ r) => r | _ => .nil) [.ow (.obj 0 []), .fz a, .fz b, .fz c, .fz d, .fz e, s] μ (fun ρ μ => match (ρ[0]? : Option Slot) with | some (.ow (.obj c' xs)) => Q (.obj c' xs) μ | some (.fz d) => Q d μ | _ => False) (fun _ _ _ => False) (fun x _ μ => X x μ) := fun h2 => by
      conv => whnf
      refine fz_cons ?_
      refine bodz1 rfl ?_
      conv => whnf
      refine c_frn hb ?_
      conv => whnf
      cases h3 : numB b with
      | false =>
        refine if_T ?_
        conv => whnf
        exact k2 (by unfold rgtB; rw [h1, h2, h3]; rfl)
      | true =>
        refine if_F ?_
        conv => whnf
        refine fz_cons ?_
        refine bodz1 rfl ?_
        conv => whnf
        refine c_frn hd ?_
        conv => whnf
        cases h4 : numB d with
        | false =>
          refine if_T ?_
          conv => whnf
          exact k2 (by unfold rgtB; rw [h1, h2, h3, h4]; rfl)
        | true =>
          refine if_F ?_
          conv => whnf
          refine fz_cons ?_
          refine bodz1 rfl ?_
          conv => whnf
          refine c_frn he ?_
          conv => whnf
          cases h5 : numB e with
          | false =>
            refine if_T ?_
            conv => whnf
            exact k2 (by unfold rgtB; rw [h1, h2, h3, h4, h5]; rfl)
          | true =>
            refine if_F ?_
            conv => whnf
            refine fz_nil ?_
            repeat' array_get_dec
            exact k1 (by unfold rgtB; rw [h1, h2, h3, h4, h5]; rfl)
    by_cases hn : c = .non
    · subst hn
      refine if_F ?_
      conv => whnf
      refine if_F ?_
      exact rest rfl
    · have e2 : valB c = numB c := by
        rcases hc with ⟨s, rfl, h⟩ | ⟨i, rfl⟩ | ⟨b, rfl⟩ | rfl | rfl | rfl | rfl
        all_goals first | rfl | exact absurd rfl hn
      have tail : vE T (sem T (n+2)).1 (sem T (n+2)).2 (.not (.call 2 (.cons (.v 3) .nil))) [.ow (.obj 0 []), .fz a, .fz b, .fz c, .fz d, .fz e, .un] μ (fun x μ => If x (X (.obj 5 []) μ) (zSs T (sem T (n+2)).1 (sem T (n+2)).2 (match c_Answer___init__ with | .cons _ (.cons _ r) => r | _ => .nil) [.ow (.obj 0 []), .fz a, .fz b, .fz c, .fz d, .fz e, .un] μ (fun ρ μ => match (ρ[0]? : Option Slot) with | some (.ow (.obj c' xs)) => Q (.obj c' xs) μ | some (.fz d) => Q d μ | _ => False) (fun _ _ _ => False) (fun x _ μ => X x μ))) := by
        conv => whnf
        refine c_frn hc ?_
        conv => whnf
        cases h2 : numB c with
        | false =>
          refine if_T ?_
          exact k2 (by unfold rgtB; rw [h1, e2, h2]; rfl)
        | true =>
          refine if_F ?_
          exact rest (e2.trans h2)
      rcases hc with ⟨s, rfl, h⟩ | ⟨i, rfl⟩ | ⟨b, rfl⟩ | rfl | rfl | rfl | rfl
      case inr.inr.inr.inl => exact absurd rfl hn
      case inr.inl => exact if_T tail
      all_goals exact ow_r rfl (if_T tail)
end HD

set_option Elab.async false
set_option linter.all false
set_option maxRecDepth 100000
set_option maxHeartbeats 1000000
namespace HD
open EV PySem
local macro_rules | `(tactic| array_get_dec) => `(tactic| ((conv => whnf); first
  | with_reducible refine if_T ?_
  | with_reducible refine if_F ?_
  | with_reducible refine Nd.mk (by omega) ?_
  | with_reducible refine if_t (by omega) ?_
  | with_reducible refine if_f (by omega) ?_
  | with_reducible refine if_nt (by omega) ?_
  | with_reducible refine if_nf (by omega) ?_
  | with_reducible refine if_dT (by decide) ?_
  | with_reducible refine if_dF (by decide) ?_
  | with_reducible refine ow_r rfl ?_))
open TL
theorem sgn_in {c : Nat} (h : c < 128) {μ : Sto} : cmpD .NotIn (.str ⟨#[c]⟩) (.str letS) μ = some (!decide (97 ≤ c ∧ c ≤ 122)) := notIn_of (in_asc h)
abbrev rgtC : Ss := (match c__law_is_right with | .cons _ (.cons _ (.cons _ r)) => r | _ => .nil)
theorem if_bn {b : Bool} {A B : Prop} (h1 : b = false → A) (h2 : b = true → B) : If (.bl (!b)) A B := by
  cases b
  · exact ⟨.inl ⟨rfl, h1 rfl⟩⟩
  · exact ⟨.inr ⟨rfl, h2 rfl⟩⟩
theorem ne_nilD {xs : List D} (hd : D.dats xs = true) (hz : (D.lst xs).py.depth ≤ 64) {μ : Sto} : cmpD .NotEq (.lst xs) (.lst []) μ = some (decide (xs ≠ [])) := by
  cases xs with
  | nil => exact ne_self (d := .lst []) rfl (by decide +kernel)
  | cons x xs =>
    have e : eqD (.lst (x :: xs)) (.lst []) = some false := by
      unfold eqD
      rw [if_pos]
      · show some (PyData.eqv (.list (x.py :: _)) (.list [])) = _
        simp [PyData.eqv, PyData.eqvAll]
      · refine Bool.and_eq_true _ _ |>.mpr ⟨Bool.and_eq_true _ _ |>.mpr ⟨hd, rfl⟩, ?_⟩
        refine decide_eq_true (Nat.le_trans (Nat.min_le_right _ _) ?_)
        simp [D.py, D.pys, PyData.depth, PyData.depthAll]
    show ((eqD (.lst (x :: xs)) (.lst [])).bind fun b => some (!b)) = _
    rw [e]
    simp
theorem c_right {N m : Nat} {a b c d e : D} {μ : Sto} {Q} (hN : 4 ≤ N) (hm : μ[m]? = some (.lst [a, b, c, d, e])) (ha : Thg a) (hb : Thg b) (hc : Thg c) (hd : Thg d) (he : Thg e) (k : Q false (.bl (rgtB a b c d e)) μ) : Cw (sem T N).1 9 [.cell m] μ Q := by
  obtain ⟨M, rfl⟩ : ∃ M, N = M + 4 := ⟨N - 4, by omega⟩
  have rest : ∀ {s6 s7 : Slot}, nmB a = true → vSs T (sem T (M+3)).1 (sem T (M+3)).2 rgtC [.fz (.cell m), .fz a, .fz b, .fz c, .fz d, .fz e, s6, s7] μ (fun _ m => Q false .non m) Q := fun {s6 s7} h1 => by
    have fin : valB c = true → vE T (sem T (M+3)).1 (sem T (M+3)).2 (.bi .all (.e (.frz (.lc (.call 8 (.cons (.v 7) .nil)) (.v 7) (.lst (.e (.frz (.lst (.cons (.v 2) (.cons (.v 4) (.cons (.v 5) .nil))))))) .no)))) [.fz (.cell m), .fz a, .fz b, .fz c, .fz d, .fz e, s6, s7] μ (fun x μ => Q false x μ) := fun h2 => by
      conv => whnf
      refine l_map (as := [b, d, e]) (dx := id) (g := fun x => .bl (numB x)) (fun x hx => ?_) ?_
      · refine bodl1 rfl ?_
        conv => whnf
        refine c_num ?_ ⟨rfl, rfl⟩
        simp only [List.mem_cons, List.not_mem_nil, or_false] at hx
        rcases hx with rfl | rfl | rfl
        · exact hb
        · exact hd
        · exact he
      conv => whnf
      refine ow_r (bi_allB (bs := [numB b, numB d, numB e])) ?_
      unfold rgtB at k
      rw [h1, h2] at k
      simpa using k
    by_cases hn : c = .non
    · subst hn
      conv => whnf
      refine if_T ?_
      conv => whnf
      refine if_T ?_
      exact fin rfl
    · have e2 : valB c = numB c := by
        rcases hc with ⟨s, rfl, h⟩ | ⟨i, rfl⟩ | ⟨b, rfl⟩ | rfl | rfl | rfl | rfl
        all_goals first | rfl | exact absurd rfl hn
      have tail : vE T (sem T (M+3)).1 (sem T (M+3)).2 (.call 8 (.cons (.v 3) .nil)) [.fz (.cell m), .fz a, .fz b, .fz c, .fz d, .fz e, s6, s7] μ (fun x μ => If x (vE T (sem T (M+3)).1 (sem T (M+3)).2 (.bi .all (.e (.frz (.lc (.call 8 (.cons (.v 7) .nil)) (.v 7) (.lst (.e (.frz (.lst (.cons (.v 2) (.cons (.v 4) (.cons (.v 5) .nil))))))) .no)))) [.fz (.cell m), .fz a, .fz b, .fz c, .fz d, .fz e, s6, s7] μ (fun x μ => Q false x μ)) (Q false (.bl false) μ)) := by
        conv => whnf
        refine c_num hc ?_
        refine if_b (fun h2 => fin (e2.trans h2)) (fun h2 => ?_)
        unfold rgtB at k
        rw [h1, e2, h2] at k
        exact k
      conv => whnf
      rcases hc with ⟨s, rfl, h⟩ | ⟨i, rfl⟩ | ⟨b, rfl⟩ | rfl | rfl | rfl | rfl
      case inr.inr.inr.inl => exact absurd rfl hn
      case inr.inl => exact if_F tail
      all_goals exact ow_r rfl (if_F tail)
  have off : nmB a = false → Q false (.bl false) μ := fun h => by
    unfold rgtB at k
    rw [h] at k
    exact k
  refine v_fn rfl rfl rfl ?_
  conv => whnf
  refine ow_r (a := .lst [a, b, c, d, e]) (by show μ[m]? = _; exact hm) (ow_r rfl (ow_r rfl ?_))
  conv => whnf
  have oth : tyD T a (.ty "str") μ = some false → nmB a = false → Ow (tyD T a (.ty "str") μ) (fun z => If (.bl (!z)) (Q false (.bl false) μ) True) := fun h1 h2 => ow_r h1 (if_T (off h2))
  rcases ha with ⟨s, rfl, h⟩ | ⟨i, rfl⟩ | ⟨b, rfl⟩ | rfl | rfl | rfl | rfl
  case inl =>
    refine ow_r rfl ?_
    conv => whnf
    refine if_F ?_
    conv => whnf
    refine ow_r rfl ?_
    conv => whnf
    have short : isNm s = (decide (1 ≤ s.length ∧ s.length ≤ 8) && (tl s).all fun c => decide (97 ≤ c ∧ c ≤ 122)) := rfl
    refine if_of (fun h1 => ?_) (fun h1 => ?_)
    · conv => whnf
      refine if_n (fun h2 => ?_) (fun h2 => ?_)
      · conv => whnf
        exact off (by
          show isNm s = false
          rw [short, decide_eq_false (fun z => h2 (by show (s.length : Int) < 9; omega)), Bool.false_and])
      · have h2 : (s.length : Int) < 9 := h2
        conv => whnf
        refine l_filt (as := tl s) (dx := fun c : Nat => D.str ⟨#[c]⟩) (g := fun c : Nat => D.str ⟨#[c]⟩) (p := fun c => !decide (97 ≤ c ∧ c ≤ 122)) (fun c hc => ?_) ?_
        · refine bodl rfl ?_
          conv => whnf
          refine ow_r (sgn_in (h c hc)) ?_
          refine if_b (fun h3 => ?_) (fun h3 => ?_)
          · exact ⟨by rw [if_pos h3], rfl⟩
          · exact ⟨by rw [if_neg (by rw [h3]; decide)], rfl⟩
        conv => whnf
        generalize hf : (tl s).filter (fun c => !decide (97 ≤ c ∧ c ≤ 122)) = cs
        refine ow_r (ne_nilD (xs := cs.map fun c : Nat => D.str ⟨#[c]⟩) (dats_all fun d hd => by obtain ⟨c, _, rfl⟩ := List.mem_map.mp hd; rfl) (by
          have := depths_le (n := 0) (ds := cs.map fun c : Nat => D.str ⟨#[c]⟩) fun d hd => by
            obtain ⟨s, _, rfl⟩ := List.mem_map.mp hd
            simp [D.py, PyData.depth]
          show PyData.depth (.list (D.pys _)) ≤ 64
          simp only [PyData.depth]
          omega)) ?_
        refine if_of (fun h3 => ?_) (fun h3 => ?_)
        · conv => whnf
          refine off ?_
          show isNm s = false
          rw [short]
          rw [Bool.and_eq_false_iff]
          refine .inr ?_
          rw [List.all_eq_false]
          cases cs with
          | nil => exact absurd rfl h3
          | cons q qs =>
            have hq : q ∈ (tl s).filter (fun c => !decide (97 ≤ c ∧ c ≤ 122)) := by rw [hf]; exact .head _
            obtain ⟨q1, q2⟩ := List.mem_filter.mp hq
            exact ⟨q, q1, fun z => by rw [z] at q2; cases q2⟩
        · refine rest ?_
          show isNm s = true
          rw [short, decide_eq_true (by omega), Bool.true_and, List.all_eq_true]
          intro q hq
          cases hz : decide (97 ≤ q ∧ q ≤ 122) with
          | true => rfl
          | false =>
            have : q ∈ (tl s).filter (fun c => !decide (97 ≤ c ∧ c ≤ 122)) := List.mem_filter.mpr ⟨hq, by rw [hz]; rfl⟩
            rw [hf] at this
            refine absurd (fun e => ?_) h3
            cases cs with
            | nil => cases this
            | cons q qs => cases e
    · conv => whnf
      refine if_T ?_
      conv => whnf
      exact off (by
        show isNm s = false
        rw [short, decide_eq_false (fun z => h1 (by omega)), Bool.false_and])
  all_goals
    refine ow_r rfl ?_
    conv => whnf
    refine if_T ?_
    conv => whnf
    refine if_T ?_
    conv => whnf
    exact off rfl
abbrev refD : D := .tup [.str "refused", .non]
abbrev madD (a b c d e : D) : D := .tup [.str "made", .tup [a, b, c, d, e]]
theorem c_told {N m : Nat} {a b c d e : D} {μ : Sto} {Q} (hN : 5 ≤ N) (hm : μ[m]? = some (.lst [a, b, c, d, e])) (ha : Thg a) (hb : Thg b) (hc : Thg c) (hd : Thg d) (he : Thg e)
    (k1 : rgtB a b c d e = true → Q false (madD a b c d e) μ) (k2 : rgtB a b c d e = false → Q false refD μ) : Cw (sem T N).1 10 [.cell m] μ Q := by
  obtain ⟨M, rfl⟩ : ∃ M, N = M + 5 := ⟨N - 5, by omega⟩
  refine v_fnt rfl rfl rfl rfl rfl ?_
  conv => whnf
  refine ow_r hm (ow_r rfl (ow_r rfl ?_))
  conv => whnf
  refine ow_r hm (ow_r rfl (ow_r rfl ?_))
  conv => whnf
  refine ow_r hm (ow_r rfl (ow_r rfl ?_))
  conv => whnf
  refine ow_r hm (ow_r rfl (ow_r rfl ?_))
  conv => whnf
  refine ow_r hm (ow_r rfl (ow_r rfl ?_))
  conv => whnf
  refine mz_ans (n := M + 1) ha hb hc hd he (fun h => ?_) (fun h => ?_)
  · repeat' array_get_dec
    exact k1 h
  · refine ow_r rfl ?_
    conv => whnf
    refine ⟨rfl, ow_r rfl ?_⟩
    exact k2 h
end HD

set_option Elab.async false
set_option linter.all false
set_option maxRecDepth 100000
set_option maxHeartbeats 1000000
namespace HD
open EV PySem
local macro_rules | `(tactic| array_get_dec) => `(tactic| ((conv => whnf); first
  | with_reducible refine if_T ?_
  | with_reducible refine if_F ?_
  | with_reducible refine Nd.mk (by omega) ?_
  | with_reducible refine if_t (by omega) ?_
  | with_reducible refine if_f (by omega) ?_
  | with_reducible refine if_nt (by omega) ?_
  | with_reducible refine if_nf (by omega) ?_
  | with_reducible refine if_dT (by decide) ?_
  | with_reducible refine if_dF (by decide) ?_
  | with_reducible refine ow_r rfl ?_))
open TL
theorem at_ok {xs : List D} {i : Int} (h0 : 0 ≤ i) (h1 : i < xs.length) : ∃ d, xs[i.toNat]? = some d ∧ L2.atI xs i = some d := by
  have h : i.toNat < xs.length := by omega
  refine ⟨xs[i.toNat], List.getElem?_eq_getElem h, ?_⟩
  unfold L2.atI L2.ixN
  rw [if_pos h0, if_pos h1]
  exact List.getElem?_eq_getElem h
theorem c_cell {n : Nat} {ns : List Int} {k : Int} {μ : Sto} {Q} (hk : 0 ≤ k) (h : ∀ v, Q false (D.int v) μ) : Cw (sem T (n+1)).1 4 [.lst (ns.map D.int), .int k] μ Q := by
  refine v_fn rfl rfl rfl ?_
  conv => whnf
  refine if_of (fun hl => ?_) (fun hl => ?_)
  · conv => whnf
    obtain ⟨d, h1, h2⟩ := at_ok hk hl
    refine ow_r h2 ?_
    rw [List.getElem?_map] at h1
    cases e : ns[k.toNat]? with
    | none => rw [e] at h1; cases h1
    | some v => rw [e] at h1; cases h1; exact h v
  · exact h 0
abbrev wellD (x y z : Int) : D := .lst [.int x, .int y, .int z]
theorem c_well {n : Nat} {c : Int} {μ : Sto} {Q} (h : ∀ x y z, Q false (D.cell μ.length) (μ ++ [wellD x y z])) : Cw (sem T (n+1)).1 5 [.int c] μ Q := by
  refine v_fn rfl rfl rfl ?_
  array_get_dec
  conv => whnf
  by_cases hc : (10 : Int) ^ 18 ≤ c
  · refine ow_r (a := D.int c) ?_ ?_
    · rw [show (10 : Int) ^ Int.toNat 18 = 10 ^ 18 from rfl, decide_eq_true hc]; rfl
    · repeat' array_get_dec
      exact h _ _ _
  · refine ow_r (a := D.int 0) ?_ ?_
    · rw [show (10 : Int) ^ Int.toNat 18 = 10 ^ 18 from rfl, decide_eq_false hc]; rfl
    · repeat' array_get_dec
      exact h _ _ _
theorem c_draw {n m : Nat} {x y z b : Int} {μ : Sto} {Q} (hm : μ[m]? = some (wellD x y z)) (hb : 0 < b ∧ b < 18446744073709551616) (h : ∀ v x y z, 0 ≤ v → v < b → Q false (D.int v) (μ.set m (wellD x y z))) : Cw (sem T (n+1)).1 6 [.cell m, .int b] μ Q := by
  have hs : ∀ d, (μ.set m d)[m]? = some d := fun d => List.getElem?_set_self (List.getElem?_eq_some_iff.mp hm).1
  refine v_fn rfl rfl rfl ?_
  conv => whnf
  refine ow_r hm (ow_r rfl (ow_r rfl ?_))
  conv => whnf
  refine if_of (fun hx => ?_) (fun hx => ?_)
  · conv => whnf
    refine ow_r hm (ow_r rfl (ow_r rfl ?_))
    array_get_dec
    conv => whnf
    refine ow_r hm (ow_r rfl (ow_r rfl ?_))
    array_get_dec
    conv => whnf
    refine ow_r hm (ow_r rfl (ow_r rfl ?_))
    conv => whnf
    exact h _ _ _ _ (Int.emod_nonneg _ (by omega)) (Int.emod_lt_of_pos _ hb.1)
  · conv => whnf
    refine ow_r hm (ow_r rfl (ow_r rfl ?_))
    conv => whnf
    refine ow_r hm (ow_r rfl (ow_r rfl ?_))
    conv => whnf
    refine ow_r (hs _) (ow_r rfl (ow_r rfl ?_))
    conv => whnf
    refine ow_r (hs _) (ow_r rfl (ow_r rfl ?_))
    repeat' array_get_dec
    exact h _ _ _ _ (Int.emod_nonneg _ (by omega)) (Int.emod_lt_of_pos _ hb.1)
theorem c_draw' {n : Nat} {x y z b : Int} {μ : Sto} {Q} (hb : 0 < b ∧ b < 18446744073709551616) (h : ∀ v x y z, 0 ≤ v → v < b → Q false (D.int v) (μ ++ [wellD x y z])) : Cw (sem T (n+1)).1 6 [.cell μ.length, .int b] (μ ++ [wellD x y z]) Q := by
  refine c_draw (x := x) (y := y) (z := z) (by simp) hb fun v x y z h1 h2 => ?_
  have e : ∀ w, (μ ++ [w]).set μ.length (wellD x y z) = μ ++ [wellD x y z] := fun w => by simp
  rw [e]
  exact h v x y z h1 h2
def SW (μ m : Sto) : Prop := ∃ x y z, m = μ ++ [wellD x y z]
def WI (μ : Sto) (k : Int) (xs : List D) (ρ : Rho) (m : Sto) : Prop := ∃ (s : Str) (s4 : Slot), SW μ m ∧ ρ = [.fz (.cell μ.length), .fz (.int k), .fz (.str letS), .fz (.str s), s4] ∧ (∀ c ∈ tl s, 97 ≤ c ∧ c ≤ 122) ∧ s.length + xs.length ≤ 7
theorem c_word {n : Nat} {k : Int} {μ m0 : Sto} {Q} (hm : SW μ m0) (h0 : 0 ≤ k) (h1 : k < 26) (h : ∀ s m, SW μ m → nmS s → Q false (.str s) m) : Cw (sem T (n+2)).1 7 [.cell μ.length, .int k] m0 Q := by
  obtain ⟨x, y, z, rfl⟩ := hm
  refine v_fn rfl rfl rfl ?_
  conv => whnf
  refine c_draw' (by decide) fun v x y z v0 v1 => ?_
  conv => whnf
  refine Nd.mk (by omega) ?_
  refine f_inv (WI μ k) ⟨"", _, ⟨x, y, z, rfl⟩, rfl, fun c hc => ?_, ?_⟩ (fun d xs ρ m hI => ?_) (fun ρ m hI => ?_)
  · have e : tl "" = [] := by decide +kernel
    rw [e] at hc; cases hc
  · rw [List.length_map, List.length_range]
    show 0 + _ ≤ 7
    omega
  · obtain ⟨s, s4, ⟨x, y, z, rfl⟩, rfl, hs, hl⟩ := hI
    rw [List.length_cons] at hl
    refine bod1 rfl ?_
    conv => whnf
    refine c_draw' (by decide) fun v x y z v0 v1 => ?_
    conv => whnf
    refine ow_r (let_at v0 v1) ?_
    conv => whnf
    refine ow_r (cat_ok (by show _ + 1 ≤ 1000; omega)) ?_
    refine ⟨_, _, ⟨x, y, z, rfl⟩, rfl, fun c hc => ?_, ?_⟩
    · rw [tl_append] at hc
      rcases List.mem_append.mp hc with hc | hc
      · exact hs c hc
      · have := List.mem_singleton.mp hc; omega
    · rw [len_app]; show _ + 1 + _ ≤ 7; omega
  · obtain ⟨s, s4, hm, rfl, hs, hl⟩ := hI
    have hl : s.length ≤ 7 := hl
    repeat' array_get_dec
    conv => whnf
    have e : k % 26 = k := Int.emod_eq_of_lt h0 h1
    refine ow_r (a := D.str ⟨#[97 + k.toNat]⟩) ?_ ?_
    · show subD (.str letS) (.int (k % 26)) m = _
      rw [e]
      exact let_at h0 h1
    conv => whnf
    refine ow_r (cat_ok (by show _ + 1 ≤ 1000; omega)) ?_
    refine h _ m hm ⟨fun c hc => ?_, ?_, ?_⟩
    · rw [tl_append] at hc
      rcases List.mem_append.mp hc with hc | hc
      · exact hs c hc
      · have := List.mem_singleton.mp hc; omega
    · rw [len_app]; show 1 ≤ _ + 1; omega
    · rw [len_app]; show _ + 1 ≤ 8; omega
theorem c_draw2 {n : Nat} {x y z b : Int} {L : D} {μ : Sto} {Q} (hb : 0 < b ∧ b < 18446744073709551616) (h : ∀ v x y z, 0 ≤ v → v < b → Q false (D.int v) (μ ++ [wellD x y z, L])) : Cw (sem T (n+1)).1 6 [.cell μ.length, .int b] (μ ++ [wellD x y z, L]) Q := by
  refine c_draw (x := x) (y := y) (z := z) (by simp) hb fun v x y z h1 h2 => ?_
  have e : ∀ w, (μ ++ [w, L]).set μ.length (wellD x y z) = μ ++ [wellD x y z, L] := fun w => by simp
  rw [e]
  exact h v x y z h1 h2
theorem ow_at {xs : List D} {i : Int} {Q : D → Prop} (h0 : 0 ≤ i) (h1 : i < xs.length) (k : ∀ d ∈ xs, Q d) : Ow (L2.atI xs i) Q := by
  obtain ⟨d, e1, e2⟩ := at_ok h0 h1
  exact ow_r e2 (k d (List.mem_of_getElem? e1))
theorem c_odd {N : Nat} {x y z : Int} {L : D} {μ : Sto} {Q} (hN : 3 ≤ N) (k : ∀ d x y z, Thg d → Q false d (μ ++ [wellD x y z, L])) : Cw (sem T N).1 11 [.cell μ.length] (μ ++ [wellD x y z, L]) Q := by
  obtain ⟨M, rfl⟩ : ∃ M, N = M + 3 := ⟨N - 3, by omega⟩
  refine v_fn rfl rfl rfl ?_
  conv => whnf
  refine ow_r rfl ?_
  conv => whnf
  refine c_draw2 (by show (0:Int) < 15 ∧ (15:Int) < 18446744073709551616; decide) fun v x y z v0 v1 => ?_
  conv => whnf
  refine ow_at v0 (by show v < 15; exact v1) fun d hd => ?_
  refine k d x y z ?_
  simp only [List.mem_cons, List.not_mem_nil, or_false] at hd
  rcases hd with rfl | rfl | rfl | rfl | rfl | rfl | rfl | rfl | rfl | rfl | rfl | rfl | rfl | rfl | rfl
  all_goals first
    | exact .inr (.inr (.inr (.inl rfl)))
    | exact .inr (.inr (.inl ⟨_, rfl⟩))
    | exact .inr (.inl ⟨_, rfl⟩)
    | exact .inr (.inr (.inr (.inr (.inl rfl))))
    | exact .inr (.inr (.inr (.inr (.inr (.inl rfl)))))
    | exact .inr (.inr (.inr (.inr (.inr (.inr rfl)))))
    | exact .inl ⟨_, rfl, by show ∀ c ∈ tl _, c < 128; decide +kernel⟩
theorem thg_dat {d : D} (h : Thg d) : d.dat = true ∧ d.py.depth ≤ 2 := by
  rcases h with ⟨s, rfl, h⟩ | ⟨i, rfl⟩ | ⟨b, rfl⟩ | rfl | rfl | rfl | rfl
  all_goals exact ⟨rfl, by simp [D.py, D.pys, PyData.depth, PyData.depthAll]⟩
theorem ne_five {a b c d e : D} {μ : Sto} (ha : Thg a) (hb : Thg b) (hc : Thg c) (hd : Thg d) (he : Thg e) : cmpD .NotEq (.tup [a, b, c, d, e]) (.tup [a, b, c, d, e]) μ = some false := by
  have h : ∀ x ∈ [a, b, c, d, e], Thg x := fun x hx => by
    simp only [List.mem_cons, List.not_mem_nil, or_false] at hx
    rcases hx with rfl | rfl | rfl | rfl | rfl <;> assumption
  refine ne_self ?_ ?_
  · rw [D.dat]
    exact dats_all fun x hx => (thg_dat (h x hx)).1
  · have := depths_le (n := 2) (ds := [a, b, c, d, e]) fun x hx => (thg_dat (h x hx)).2
    show PyData.depth (.tuple (D.pys _)) ≤ 64
    simp only [PyData.depth]
    omega
def Inv (ns : List Int) (xs : List D) (ρ : Rho) (μ : Sto) : Prop := (∃ s1 s2 s3 s4 s5 s6 s7 : Slot, ρ = [.fz (.lst (ns.map D.int)), s1, s2, s3, s4, s5, s6, s7]) ∧ ∀ x ∈ xs, ∃ k : Nat, x = .int k
def TI (ns : List Int) (k : Int) (nd : D) (μ : Sto) (xs : List D) (ρ : Rho) (m : Sto) : Prop := ∃ (x y z : Int) (ds : List D) (s5 s6 s7 : Slot), m = μ ++ [wellD x y z, .lst ds] ∧ ρ = [.fz (.lst (ns.map D.int)), .fz (.int k), .fz (.cell μ.length), .fz nd, .fz (.cell (μ.length + 1)), s5, s6, s7] ∧ ds.length = 5 ∧ ∀ d ∈ ds, Thg d
theorem set2 {μ : Sto} {a b c : D} : (μ ++ [a, b]).set (μ.length + 1) c = μ ++ [a, c] := by simp
theorem get2 {μ : Sto} {a b : D} : (μ ++ [a, b])[μ.length + 1]? = some b := by simp
theorem ixN_ok {n : Nat} {i : Int} (h0 : 0 ≤ i) (h1 : i < n) : L2.ixN n i = some i.toNat := by
  unfold L2.ixN
  rw [if_pos h0, if_pos h1]
theorem set_thg {ds : List D} {j : Nat} {x : D} (h : ∀ d ∈ ds, Thg d) (hx : Thg x) : ∀ d ∈ ds.set j x, Thg d := fun d hd => (List.mem_or_eq_of_mem_set hd).elim (h d) fun e => e ▸ hx
abbrev endC : Ss := (match f_law.code with | .cons (.for _ _ (.cons _ (.cons _ (.cons _ (.cons _ (.cons _ r)))))) _ => r | _ => .nil)
theorem lend {M : Nat} {ns : List Int} {kk : Int} {nd : D} {x y z : Int} {ds : List D} {μ : Sto} {s5 s6 s7 : Slot} {N : Rho → Sto → Prop} {Q : Bool → D → Sto → Prop} (hl : ds.length = 5) (hd : ∀ d ∈ ds, Thg d)
    (fin : ∀ {ρ : Rho} {m : Sto}, (∃ s1 s2 s3 s4 s5 s6 s7, ρ = [.fz (.lst (ns.map D.int)), s1, s2, s3, s4, s5, s6, s7]) → N ρ m) :
    vSs T (sem T (M+8)).1 (sem T (M+8)).2 endC [.fz (.lst (ns.map D.int)), .fz (.int kk), .fz (.cell μ.length), .fz nd, .fz (.cell (μ.length + 1)), s5, s6, s7] (μ ++ [wellD x y z, .lst ds]) N Q := by
  conv => whnf
  refine c_draw2 (by decide) fun v x y z v0 v1 => ?_
  conv => whnf
  refine Nd.mk (by omega) ?_
  refine f_inv (TI ns kk nd μ) ⟨x, y, z, ds, _, _, _, rfl, rfl, hl, hd⟩ (fun d xs ρ m hI => ?_) (fun ρ m hI => ?_)
  · obtain ⟨x, y, z, ds, s5, s6, s7, rfl, rfl, hl, hd⟩ := hI
    refine bod1 rfl ?_
    conv => whnf
    refine c_odd (by omega) fun d x y z hd2 => ?_
    conv => whnf
    refine c_draw2 (by decide) fun v x y z v0 v1 => ?_
    conv => whnf
    refine ow_r get2 (ow_r rfl (ow_r (ixN_ok v0 (by rw [hl]; exact v1)) ?_))
    rw [set2]
    exact ⟨x, y, z, _, _, _, _, rfl, rfl, by rw [List.length_set]; exact hl, set_thg hd hd2⟩
  · obtain ⟨x, y, z, ds, s5, s6, s7, rfl, rfl, hl, hd⟩ := hI
    obtain ⟨a, b, c, d, e, rfl⟩ : ∃ a b c d e, ds = [a, b, c, d, e] := by
      match ds, hl with
      | [a, b, c, d, e], _ => exact ⟨a, b, c, d, e, rfl⟩
    have ha := hd a (by simp)
    have hb := hd b (by simp)
    have hc := hd c (by simp)
    have hdd := hd d (by simp)
    have he := hd e (by simp)
    conv => whnf
    refine c_told (by omega) get2 ha hb hc hdd he (fun h => ?_) (fun h => ?_)
    · conv => whnf
      refine ow_r rfl ?_
      conv => whnf
      refine c_right (by omega) get2 ha hb hc hdd he ?_
      rw [h]
      conv => whnf
      refine ow_r rfl ?_
      conv => whnf
      refine ow_r rfl ?_
      conv => whnf
      refine if_dF (by decide +kernel) ?_
      conv => whnf
      refine ow_r rfl ?_
      conv => whnf
      refine ow_r rfl (if_T ?_)
      conv => whnf
      refine ow_r rfl ?_
      conv => whnf
      refine ow_r get2 (ow_r rfl ?_)
      conv => whnf
      refine ow_r (ne_five ha hb hc hdd he) (if_F ?_)
      exact fin ⟨_, _, _, _, _, _, _, rfl⟩
    · conv => whnf
      refine ow_r rfl ?_
      conv => whnf
      refine c_right (by omega) get2 ha hb hc hdd he ?_
      rw [h]
      conv => whnf
      refine ow_r rfl ?_
      conv => whnf
      refine ow_r rfl ?_
      conv => whnf
      refine if_dF (by decide +kernel) ?_
      conv => whnf
      refine ow_r rfl ?_
      conv => whnf
      refine ow_r rfl (if_F ?_)
      conv => whnf
      refine if_F ?_
      exact fin ⟨_, _, _, _, _, _, _, rfl⟩
theorem lturn {M : Nat} {ns : List Int} {x : D} {xs : List D} {ρ : Rho} {μ : Sto} {Q : Bool → D → Sto → Prop} (hI : Inv ns (x :: xs) ρ μ) {tg : Tg} {b : Ss} (htg : tg = .v 1) (hb : ∃ it r, f_law.code = .cons (.for tg it b) r) : Ws (bodF T (sem T (M+8)).1 (sem T (M+8)).2 tg b x ρ μ) (fun ρ μ => Inv ns xs ρ μ) Q := by
  subst htg
  obtain ⟨it, r, hb⟩ := hb
  cases hb
  obtain ⟨⟨s1, s2, s3, s4, s5, s6, s7, rfl⟩, hx⟩ := hI
  obtain ⟨kk, rfl⟩ := hx x List.mem_cons_self
  have fin : ∀ {ρ : Rho} {m : Sto}, (∃ s1 s2 s3 s4 s5 s6 s7, ρ = [.fz (.lst (ns.map D.int)), s1, s2, s3, s4, s5, s6, s7]) → Inv ns xs ρ m := fun h => ⟨h, fun y hy => hx y (List.mem_cons_of_mem _ hy)⟩
  refine bod1 rfl ?_
  conv => whnf
  refine c_cell (by omega) fun c => ?_
  repeat' array_get_dec
  refine c_well fun x y z => ?_
  conv => whnf
  refine Nd.mk (by decide) ?_
  refine l_gen (tx := D.int) (P := fun _ : Int => True) (S := SW μ) ⟨x, y, z, rfl⟩ (fun d hd m hm => ?_) (fun is m hm hP hl => ?_)
  · obtain ⟨x, y, z, rfl⟩ := hm
    refine bodl1 rfl ?_
    conv => whnf
    refine ow_r rfl ?_
    conv => whnf
    refine c_draw' (by decide) fun v x y z v0 v1 => ?_
    conv => whnf
    refine c_draw' (by decide) fun w x y z w0 w1 => ?_
    conv => whnf
    refine ow_at w0 (by show w < 3; exact w1) fun d hd => ?_
    simp only [List.mem_cons, List.not_mem_nil, or_false] at hd
    rcases hd with rfl | rfl | rfl
    all_goals exact ⟨⟨x, y, z, rfl⟩, _, trivial, rfl⟩
  have hl : is.length = 4 := hl
  obtain ⟨i1, i2, i3, i4, rfl⟩ : ∃ a b c d, is = [a, b, c, d] := by
    match is, hl with
    | [a, b, c, d], _ => exact ⟨a, b, c, d, rfl⟩
  obtain ⟨x, y, z, rfl⟩ := hm
  conv => whnf
  refine c_draw' (by decide) fun v x y z v0 v1 => ?_
  conv => whnf
  refine c_word ⟨x, y, z, rfl⟩ v0 v1 fun s m hm hs => ?_
  obtain ⟨x, y, z, rfl⟩ := hm
  conv => whnf
  refine ow_r rfl (ow_r rfl (ow_r rfl (ow_r rfl ⟨by show 1 + 4 ≤ 16777216; decide, ?_⟩)))
  conv => whnf
  have e1 : (μ ++ [wellD x y z]).length = μ.length + 1 := by simp
  have e2 : ∀ L : D, (μ ++ [wellD x y z]) ++ [L] = μ ++ [wellD x y z, L] := fun L => by simp
  have hT : ∀ d ∈ [D.str s, .int i1, .int i2, .int i3, .int i4], Thg d := fun d hd => by
    simp only [List.mem_cons, List.not_mem_nil, or_false] at hd
    rcases hd with rfl | rfl | rfl | rfl | rfl
    · exact .inl ⟨_, rfl, fun c hc => by have := hs.1 c hc; omega⟩
    all_goals exact .inr (.inl ⟨_, rfl⟩)
  rw [e1, e2]
  refine c_draw2 (by decide) fun v x y z v0 v1 => ?_
  conv => whnf
  refine if_of (fun hv => ?_) (fun hv => ?_)
  · conv => whnf
    refine ow_r get2 (ow_r rfl (ow_r rfl ?_))
    rw [set2]
    exact lend (ds := [D.str s, .int i1, .non, .int i3, .int i4]) rfl (set_thg (j := 2) hT (.inr (.inr (.inr (.inl rfl))))) fin
  · exact lend rfl hT fin
theorem law_ok (ns : List Int) (hn : ns.length ≤ 63) : ∃ (r : (Bool × EV.D) × EV.Sto), (EV.sem T 24).1 12 [.lst (ns.map EV.D.int)] [] = some r ∧ r.1 = (false, .bl true) := by
  have key : Cw (sem T (23 + 1)).1 12 [.lst (ns.map EV.D.int)] [] (fun o d _ => (o, d) = (false, .bl true)) := by
    refine v_fn rfl rfl rfl ?_
    conv => whnf
    refine ow_r rfl (ow_r rfl ?_)
    conv => whnf
    rw [List.length_map]
    refine Nd.mk (by split <;> split <;> omega) ?_
    refine f_inv (Inv ns) ⟨⟨_, _, _, _, _, _, _, rfl⟩, fun x hx => ?_⟩ (fun x xs ρ μ hI => ?_) (fun ρ μ hI => ?_)
    · obtain ⟨i, _, rfl⟩ := List.mem_map.mp hx
      exact ⟨i, rfl⟩
    · exact lturn (M := 15) hI rfl ⟨_, _, rfl⟩
    · obtain ⟨⟨s1, s2, s3, s4, s5, s6, s7, rfl⟩, _⟩ := hI
      rfl
  obtain ⟨o, d, m, e, q⟩ := key
  exact ⟨_, e, q⟩
end HD

set_option Elab.async false
set_option linter.all false
set_option maxRecDepth 100000
set_option maxHeartbeats 0
open PySem PySem.W PySem.Calls PyProof.Rows
theorem PySem.Challenge.cw_enoughsaid_k31_answers_made_holds : PySem.Challenge.rw_enoughsaid_k31_answers_made.Holds := by
  w_on; o_law
  refine HandSHeadRun.head_any (r := OpenLaw.row PySem.Challenge.rw_enoughsaid_k31_answers_made) (q := view (OpenLaw.row PySem.Challenge.rw_enoughsaid_k31_answers_made).prog [30]) (H := HD.hk) (ob := HD.ob) (M := 8000) (loose := HD.loose) (d := HandSHeadRun.topDef (OpenLaw.row PySem.Challenge.rw_enoughsaid_k31_answers_made).prog 30) (kwd := []) HD.ob_eq
    (by kernel_rfl) (fun s => by kernel_rfl) HD.run (by kernel_rfl) (by kernel_rfl) (by kernel_rfl) (by rfl) (by first | assumption | decide +kernel) (by decide +kernel) ⟨rfl, rfl, rfl, rfl, rfl, by decide +kernel⟩ ?hw ?hc
  case hw => w_witness2
  case hc =>
    refine EV.walk_end (l := PySem.Challenge.rw_enoughsaid_k31_answers_made) (n := 63) (k := 2 * 24) (x := "_law_script") (CX := L2.CX0) rfl (by decide) (by kernel_rfl) ⟨rfl, by decide, by decide⟩ ?F (fun _ _ _ _ z => z)
    intro w mg fa h Y G hmg0
    have hmg : mg ("law" : PySem.Str) = some (.ref fa) := by
      have e : (HandSHeadRun.topDef (OpenLaw.row PySem.Challenge.rw_enoughsaid_k31_answers_made).prog 30).name = ("law" : PySem.Str) := by kernel_rfl
      rw [← e]
      exact hmg0
    exact EV.law_end (li := 12) (F := HD.f_law) (N := 24) Y G hmg rfl rfl rfl HD.okT HD.law_ok


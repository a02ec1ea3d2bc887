import PyProof.Rows.All
import Wide.All
import OpenK.AllK
import Wide.FinOn
import HandS.ForMost
import HandS.TupSets
import KE.SortData
import KE.KExcSuper
import HandS.ExcInit
import HandS.WordsExc
import HandS.ExcField
import KE.KExcIs
import KE.KDictKeyed
import HandS.Style
import PyProof.InstNe
import HandS.TupAny
import HandS.IsInst
import HandS.ListItems
import HandS.More
import KE.DataMinMax
import HandS.DictComp
import HandS.SortKw
import HandS.Small
import PyProof.EqKinds
import HandS.ExcOwn
import HandS.ExcIs
import HandS.MakeKwOnly
import HandS.Defaults
import PySem.Challenge.RW_carriedmarks_k00_numbers_of_marks
set_option Elab.async false
set_option linter.all false
set_option maxRecDepth 100000
set_option maxHeartbeats 1000000
set_option autoImplicit false
/-! DS: sets of any keys that hash and compare quietly: set(xs), then sorted or len. -/
namespace DSet
open PySem PySem.Spec PyProof.Rows L2

/-- a kind of keys: what a value must be to stand for a key; how the table of a set with such members looks -/
structure SK (P : Program) (w : World) (κ : Type) where
  isK : Heap → κ → Value → Prop
  tab : List (Value × κ) → Array (Int × Value) → SetTable → Prop
  keep : ∀ {h h' : Heap} {k : κ} {v : Value}, isK h k v → (∀ b o, h.get? b = some o → (∀ es ep t, o.data ≠ .set es ep t) → h'.get? b = some o) → isK h' k v
  init : ∀ b, tab [] #[] (.fresh 0 0 b)
  rows : ∀ {L es t}, tab L es t → es.toList.map (·.2) = L.map (·.1)
  fits : ∀ {L es t}, tab L es t → t.fits es.size = true
  ris : ∀ {L es t}, tab L es t → Ris t.place.toList

variable {P : Program} {w : World} {κ : Type}
/-- the set at a has just these members -/
structure At (S : SK P w κ) (h : Heap) (a : Addr) (L : List (Value × κ)) : Prop where
  ob : ∃ o es ep t, h.get? a = some o ∧ o.ExactSet ∧ o.data = .set es ep t ∧ S.tab L es t ∧ (w.params.followText "set-order" = true ∨ t.led = true)
  nd : (L.map (·.2)).Nodup
  ks : ∀ p ∈ L, S.isK h p.2 p.1
  few : L.length < 64
def Adds (S : SK P w κ) : Prop := ∀ {A : Around} {E : Value → Shared → Prop} {s : Shared} {a : Addr} {L : List (Value × κ)} {x : Value} {k : κ} {Q : Bool → Shared → Prop}, A.units < cLine → At S s.heap a L → S.isK s.heap k x → L.length + 1 < 64 →
  (∀ b h' tk L', Heap.SameBut a s.heap h' → At S h' a L' → (k ∈ L.map (·.2) → L' = L) → (k ∉ L.map (·.2) → L'.Perm ((x, k) :: L)) → s.toks ≤ tk → Q b { s with heap := h', toks := tk }) → wpAny (model P w) A (setAdd a x) Q E s
/-- the members that came of the first items -/
structure Came (ks : List (Value × κ)) (i : Nat) (L : List (Value × κ)) : Prop where
  sub : ∀ p ∈ L, p ∈ ks.take i
  all : ∀ p ∈ ks.take i, p.2 ∈ L.map (·.2)
  len : L.length ≤ i
theorem take_more {α : Type} {l : List α} {i : Nat} {x : α} (h : l[i]? = some x) : l.take (i + 1) = l.take i ++ [x] := by
  rw [List.take_succ, h]; rfl
theorem Came.next {ks L L' : List (Value × κ)} {i : Nat} {x : Value × κ} (g : Came ks i L) (h : ks[i]? = some x) (c1 : x.2 ∈ L.map (·.2) → L' = L) (c2 : x.2 ∉ L.map (·.2) → L'.Perm (x :: L)) : Came ks (i + 1) L' := by
  rcases Classical.em (x.2 ∈ L.map (·.2)) with c | c
  · rw [c1 c]
    refine ⟨fun p hp => ?_, fun p hp => ?_, Nat.le_succ_of_le g.len⟩
    · rw [take_more h]; exact List.mem_append_left _ (g.sub p hp)
    · rw [take_more h] at hp
      rcases List.mem_append.mp hp with z | z
      · exact g.all p z
      · rw [List.mem_singleton.mp z]; exact c
  · have pm := c2 c
    refine ⟨fun p hp => ?_, fun p hp => ?_, ?_⟩
    · rw [take_more h]
      rcases List.mem_cons.mp (pm.mem_iff.mp hp) with e | z
      · rw [e]; exact List.mem_append_right _ (List.mem_singleton.mpr rfl)
      · exact List.mem_append_left _ (g.sub p z)
    · rw [(pm.map (·.2)).mem_iff, List.map_cons]
      rw [take_more h] at hp
      rcases List.mem_append.mp hp with z | z
      · exact List.mem_cons_of_mem _ (g.all p z)
      · rw [List.mem_singleton.mp z]; exact List.mem_cons_self
    · rw [pm.length_eq, List.length_cons]; exact Nat.succ_le_succ g.len

variable {S : SK P w κ} {A : Around} {E : Value → Shared → Prop} {s : Shared}
theorem At.keep {h h' : Heap} {a : Addr} {L : List (Value × κ)} (R : At S h a L) (k : ∀ b o, h.get? b = some o → h'.get? b = some o) : At S h' a L := by
  obtain ⟨o, es, ep, t, ho, r⟩ := R.ob
  exact ⟨⟨o, es, ep, t, k a o ho, r⟩, R.nd, fun p hp => S.keep (R.ks p hp) fun b o e _ => k b o e, R.few⟩
theorem At.fresh {h : Heap} {a : Addr} (ho : h.get? a = some { cls := .type "set", dict := none, data := .set #[] 0 (.fresh 0 0 (!w.params.followText "set-order")) }) : At S h a [] := by
  refine ⟨⟨_, #[], 0, _, ho, ⟨rfl, rfl, rfl⟩, rfl, S.init _, ?_⟩, List.nodup_nil, (fun p hp => nomatch hp), (by decide : (0 : Nat) < 64)⟩
  show _ ∨ (!w.params.followText "set-order") = true
  cases w.params.followText "set-order" <;> first | exact .inl rfl | exact .inr rfl

/-- the loop that fills a set from what is walked -/
theorem fill_loop (add : Adds S) {I : Addr} {fp wr : List Addr} {G : Array GenState → Array GenState → Prop} {n : Nat} {Pv : Nat → Value → Prop} {Sw : Nat → Shared → Prop} {R : Result → Shared → Prop}
    (W : WalksS P w A.in1 I fp wr G n Pv Sw) (a : Addr) (haf : a ∉ fp) (ks : List (Value × κ)) (hn : n = ks.length) (hfew : ks.length < 64) (hval : ∀ i v, Pv i v → ∃ p, ks[i]? = some p ∧ v = p.1)
    (h0 : Heap) (hk : ∀ p ∈ ks, S.isK h0 p.2 p.1) (ha0 : h0.get? a = none) (hw0 : ∀ b ∈ wr, h0.get? b = none) (hu : A.in1.units < cLine) :
    ∀ (m i : Nat) (s : Shared), n - i = m → i ≤ n → Sw i s → (∀ b o, h0.get? b = some o → s.heap.get? b = some o) → (∃ L, At S s.heap a L ∧ Came ks i L) →
      (∀ s' L, Moved (a :: wr) G s s' → At S s'.heap a L → Came ks n L → (∀ b o, h0.get? b = some o → s'.heap.get? b = some o) → R (.ok (.ret .none)) s') →
      codeAny (model P w) A (.builtin "set.update.loop" ⟨[.ref a, .ref I], []⟩) R s := by
  have haw : a ∉ wr := fun h => haf (W.sub _ h)
  have wider : ∀ b ∈ wr, b ∈ a :: wr := fun b hb => List.mem_cons_of_mem _ hb
  have stays : ∀ {s s' : Shared}, Moved wr G s s' → (∀ b o, h0.get? b = some o → s.heap.get? b = some o) → ∀ b o, h0.get? b = some o → s'.heap.get? b = some o := fun hm hp b o e =>
    hm.heap b o (fun hb => by rw [hw0 b hb] at e; exact nomatch e) (hp b o e)
  -- the set behind a step of the walk
  have setStays : ∀ {s s' : Shared} {L : List (Value × κ)} {i : Nat}, Moved wr G s s' → (∀ b o, h0.get? b = some o → s'.heap.get? b = some o) → At S s.heap a L → Came ks i L → At S s'.heap a L := fun {s s' L i} hm hp R g => by
    obtain ⟨o, es, ep, t, ho, r⟩ := R.ob
    refine ⟨⟨o, es, ep, t, hm.heap a o haw ho, r⟩, R.nd, fun p hpm => ?_, R.few⟩
    exact S.keep (hk p (List.mem_of_mem_take (g.sub p hpm))) fun b o e _ => hp b o e
  intro m
  induction m with
  | zero =>
    intro i s hm hi hst hkp ⟨L, hS, g⟩ hR
    have hin : i = n := by omega
    subst hin
    refine codeAny_builtin F.entry_set_update_loop ?_
    rw [Around.under_plainId F.plain_set_update_loop _]
    show wpAny _ A.in1 (pyNext (.ref I) >>= _) _ _ s
    refine wpAny_bind (W.done s _ _ hst fun s' hm => ?_)
    show wpAny _ A.in1 (ret Value.none) _ _ s'
    exact wpAny_pure (hR s' L (hm.mono wider) (setStays hm (stays hm hkp) hS g) g (stays hm hkp))
  | succ m ih =>
    intro i s hm' hi hst hkp ⟨L, hS, g⟩ hR
    have hlt : i < n := by omega
    refine codeAny_builtin F.entry_set_update_loop ?_
    rw [Around.under_plainId F.plain_set_update_loop _]
    show wpAny _ A.in1 (pyNext (.ref I) >>= _) _ _ s
    refine wpAny_bind (W.item i s _ _ hlt hst fun v s' hP hst' hm => ?_)
    obtain ⟨p, hp, rfl⟩ := hval i v hP
    have hkp' := stays hm hkp
    have hS' := setStays hm hkp' hS g
    have hx : S.isK s'.heap p.2 p.1 := S.keep (hk p (List.mem_of_getElem? hp)) fun b o e _ => hkp' b o e
    show wpAny _ A.in1 (holding [p.1] (setAdd a p.1) >>= _) _ _ s'
    refine wpAny_bind (wpAny_holding ?_)
    refine add hu hS' hx (by have := g.len; omega) fun b h' tk L' hsb hS2 c1 c2 htk => ?_
    have g' : Came ks (i + 1) L' := g.next hp c1 c2
    have hkp2 : ∀ b o, h0.get? b = some o → h'.get? b = some o := fun b o e => (hsb.2 b (fun z => by rw [z, ha0] at e; exact nomatch e)).trans (hkp' b o e)
    refine wpAny_pure ⟨plainId_quiet F.plain_set_update_loop _, ih (i + 1) _ (by omega) hlt (W.frame _ s' _ _ hst' htk fun b hb o e => ?_) hkp2 ⟨L', hS2, g'⟩ fun s'' L2 hm'' hS'' g'' hkp'' => ?_⟩
    · rw [hsb.2 b (fun h : b = a => haf (by rw [← h]; exact hb))]; exact e
    · refine hR s'' L2 (Moved.trans W.gtrans ((hm.mono wider).then_heap htk fun b o hb e => ?_) hm'') hS'' g'' hkp''
      rw [hsb.2 b (fun h : b = a => hb (by rw [h]; exact List.mem_cons_self))]; exact e

abbrev newSet (w : World) : Obj := { cls := .type "set", dict := none, data := .set #[] 0 (.fresh 0 0 (!w.params.followText "set-order")) }
set_option maxHeartbeats 3200000 in
/-- set(xs), xs a list -/
theorem call_set (add : Adds S) {l : Addr} {items : Array Value} (ks : List (Value × κ)) {Q : Value → Shared → Prop} (hh : A.handled = none) (hl : s.heap.IsList l items) (hit : items.toList = ks.map (·.1))
    (hk : ∀ p ∈ ks, S.isK s.heap p.2 p.1) (hfew : ks.length < 64) (hu : A.units + 3 < cLine)
    (h : ∀ (h' : Heap) (tk : Nat) L, At S h' s.heap.objs.size L → Came ks ks.length L → (∀ b o, s.heap.get? b = some o → h'.get? b = some o) → Q (.ref s.heap.objs.size) { s with heap := h', toks := tk }) :
    wpAny (model P w) A (call (.type "set") [.ref l]) Q E s := by
  have hisz : items.size = ks.length := by
    have q := congrArg List.length hit
    rwa [Array.length_toList, List.length_map] at q
  obtain ⟨c, tl, hmro⟩ := F.called_set.mro
  have hmade := F.called_set.made
  have hsub := F.called_set.sub
  refine wpAny_call (codeAny_of_tree ?_)
  show wpAny _ _ (callAny (.type "set") _) _ _ _
  refine wpAny_pure ⟨Code.quiet_builtin _ (by decide +kernel), codeAny_builtin F.entry_type_call ?_⟩
  rw [Around.under_plain (weight_type_call_type "set" [.ref l] []) rfl]
  have h1 := F.called_set.notType
  have h2 := F.called_set.canCreate
  have hct := F.typeCall_set_1 (.ref l)
  repeat (any_goals (first | assumption | wp_step))
  refine codeAny_mono (code_set_led1 (.ref l) (E := E) (Q₁ := fun obj s₁ => obj = .ref s.heap.objs.size ∧ s₁ = { s with heap := s.heap.push (newSet w) }) ⟨rfl, rfl⟩) fun r s₁ hr => ?_
  cases r with
  | error e => exact hr
  | ok fl =>
    cases fl with
    | ret obj =>
      obtain ⟨rfl, rfl⟩ := hr
      have hS : (s.heap.push (newSet w)).get? s.heap.objs.size = some (newSet w) := Heap.get?_push_size _ rfl
      have hT : Shared.TypeIs { s with heap := s.heap.push (newSet w) } (.ref s.heap.objs.size) "set" := ⟨_, hS, rfl⟩
      have hli := F.called_set.init.lookup
      have hbi := F.called_set.init.bind (.ref s.heap.objs.size)
      repeat (any_goals (first | assumption | wp_step))
      refine codeAny_mono (codeAny_call_builtin (R := wants (fun r s₂ => r = .none ∧ ∃ h' tk L, s₂ = { s with heap := h', toks := tk } ∧ At S h' s.heap.objs.size L ∧ Came ks ks.length L ∧
          (∀ b o, s.heap.get? b = some o → h'.get? b = some o)) E) F.called_set.init.plain F.entry_set_init (check_set_init_1 hT ?_)) fun r₂ s₂ hr₂ => ?_
      · obtain ⟨ol, hol, hcl, nl, hdl⟩ := hl
        obtain ⟨ocls, odict, odata, oslots⟩ := ol
        simp only at hcl hdl
        subst hcl; subst hdl
        have hol' : (s.heap.push (newSet w)).get? l = some { cls := .type "list", dict := odict, data := .seq items nl, slots := oslots } := Heap.get?_push_of_some _ hol
        have hsls := F.sub_list_set
        have hslf := F.sub_list_frozenset
        have hne : (Value.type "list" == Value.type "dict") = false := by decide
        have hl1 : (s.heap.push (newSet w)).IsList l items := ⟨_, hol', rfl, nl, rfl⟩
        unfold Builtin.«set.__init__» noKeywords Builtin.Frozenset.updateFrom
        generalize hPI : pyIter = PI
        wp_walk
        subst hPI
        refine wpAny_pyIter_list hl1 ?_
        refine wpAny_bind (wpAny_runValue ?_)
        have hlS : l < s.heap.objs.size := Heap.lt_size hol
        have hh3 : A.in1.in1.in1.handled = none := by simp [hh]
        have hneI : l ≠ (s.heap.push (newSet w)).objs.size := by
          rw [Heap.size_push]; exact Nat.ne_of_lt (Nat.lt_succ_of_lt hlS)
        have hSf : s.heap.objs.size ∉ [(s.heap.push (newSet w)).objs.size, l] := by
          rw [Heap.size_push]
          intro hm
          rcases List.mem_cons.mp hm with z | z
          · exact absurd z (Nat.ne_of_lt (Nat.lt_succ_self _))
          · exact absurd (List.mem_singleton.mp z) (Nat.ne_of_gt hlS)
        have hval : ∀ (i : Nat) (v : Value), items[i]? = some v → ∃ p, ks[i]? = some p ∧ v = p.1 := fun i v hv => by
          have q : items.toList[i]? = some v := by rw [Array.getElem?_toList]; exact hv
          rw [hit, List.getElem?_map] at q
          cases hq : ks[i]? with
          | none => rw [hq] at q; exact nomatch q
          | some p => rw [hq] at q; exact ⟨p, rfl, (Option.some.inj q).symm⟩
        have none_of : ∀ b, s.heap.objs.size ≤ b → s.heap.get? b = none := fun b hb => by
          cases q : s.heap.get? b with
          | none => rfl
          | some o => exact absurd (Nat.lt_of_lt_of_le (Heap.lt_size q) hb) (Nat.lt_irrefl _)
        refine fill_loop add ((Walks.list hh3 _ l hneI items).toS) s.heap.objs.size hSf ks hisz hfew hval s.heap hk (none_of _ (Nat.le_refl _))
          (fun b hb => none_of b (by rw [List.mem_singleton.mp hb, Heap.size_push]; exact Nat.le_succ _)) hu (items.size - 0) 0 _ (by omega) (Nat.zero_le _)
          ⟨⟨_, Heap.get?_push_size _ rfl, rfl, rfl⟩, (hl1.push _)⟩ (fun b o e => Heap.get?_push_of_some _ (Heap.get?_push_of_some _ e)) ?hS0 ?hR
        case hS0 => exact ⟨[], At.fresh (Heap.get?_push_of_some _ hS), ⟨fun p hp => (nomatch hp), fun p hp => (by simp at hp), Nat.le_refl _⟩⟩
        case hR =>
          intro s' L hm hS' g' hkp
          obtain ⟨h', g2, d', tk', os'⟩ := s'
          have eg : g2 = s.gens := hm.gens
          have ed : d' = s.drawn := hm.drawn
          have eo : os' = s.os := hm.os
          subst eg; subst ed; subst eo
          show wpAny _ _ _ _ _ _
          refine wpAny_pure ?_
          show wpAny _ _ (ret Value.none) _ _ _
          rw [hisz] at g'
          exact wpAny_pure ⟨rfl, h', tk', L, rfl, hS', g', hkp⟩
      · cases r₂ with
        | error e => exact hr₂
        | ok fl₂ =>
          cases fl₂ with
          | ret r =>
            obtain ⟨rfl, h', tk, L, rfl, hS', g', hk'⟩ := hr₂
            repeat (any_goals (first | assumption | wp_step))
            exact h _ _ _ hS' g' hk'
          | _ => exact hr₂.elim
    | _ => exact hr.elim
end DSet
set_option Elab.async false
set_option linter.all false
set_option maxRecDepth 100000
set_option maxHeartbeats 1000000
set_option autoImplicit false
namespace DSet
open PySem PySem.Spec PyProof.Rows L2
variable {P : Program} {w : World} {κ : Type} {A : Around} {E : Value → Shared → Prop} {s : Shared}

/-! ### keys that are scanned: ints, texts -/
section
variable [DecidableEq κ] (knd : KeyKind P w κ)
def scanTab (L : List (Value × κ)) (es : Array (Int × Value)) (t : SetTable) : Prop :=
  ElemsOf knd es.toList ∧ es.toList.map (·.2) = L.map (·.1) ∧ t.fits es.size = true ∧ Ris t.place.toList
def scanK : SK P w κ where
  isK := fun _ k v => knd.is k v = true ∧ v.scannable = true
  tab := scanTab knd
  keep := fun h _ => h
  init := fun b => ⟨fun e he => (nomatch he), rfl, rfl, List.Pairwise.nil⟩
  rows := fun h => h.2.1
  fits := fun h => h.2.2.1
  ris := fun h => h.2.2.2
variable {knd}
theorem scan_size {L : List (Value × κ)} {es : Array (Int × Value)} {t : SetTable} (h : scanTab knd L es t) : es.size = L.length := by
  have q := congrArg List.length h.2.1
  rwa [List.length_map, List.length_map, Array.length_toList] at q
theorem scan_adds : Adds (scanK knd) := by
  intro A E s a L x k Q hu R hx hfew hQ
  obtain ⟨o, es, ep, t, ho, hex, hd, tb, hl⟩ := R.ob
  obtain ⟨hel, hrow, hf, hr⟩ := id tb
  obtain ⟨hkey, hsc⟩ := hx
  have hsz := scan_size tb
  have hb : es.size < scanBound := by rw [hsz]; unfold scanBound; omega
  -- which keys stand there
  have mem : (∃ e ∈ es.toList, knd.is k e.2 = true) ↔ k ∈ L.map (·.2) := by
    constructor
    · rintro ⟨e, he, q⟩
      have : e.2 ∈ L.map (·.1) := by rw [← hrow]; exact List.mem_map.mpr ⟨e, he, rfl⟩
      obtain ⟨p, hp, ep⟩ := List.mem_map.mp this
      have := (R.ks p hp).1
      rw [ep] at this
      rw [knd.inj _ _ _ q this]
      exact List.mem_map.mpr ⟨p, hp, rfl⟩
    · intro h
      obtain ⟨p, hp, ep⟩ := List.mem_map.mp h
      have : p.1 ∈ es.toList.map (·.2) := by rw [hrow]; exact List.mem_map.mpr ⟨p, hp, rfl⟩
      obtain ⟨e, he, q⟩ := List.mem_map.mp this
      exact ⟨e, he, by rw [q, ← ep]; exact (R.ks p hp).1⟩
  unfold setAdd
  refine wpAny_holding ?_
  refine wpAny_bind (knd.pyHash hkey ?_)
  unfold setAddHashed setAddHashedIn
  refine wpAny_holding (wpAny_bind (wpAny_setState_of (s := { s with toks := s.toks + 1 }) ho hd hf ?_))
  dsimp only
  rw [byScan_of hsc hb hel]
  simp only [↓reduceIte]
  unfold setAddByScan
  refine wpAny_bind ?_
  refine wpAny_bind (wpAny_rule ?_)
  refine wpAny_bind (wpAny_setScan_of (s := { s with toks := s.toks + 1 }) hkey ho hd hf hel ?_)
  cases hfi : List.findIdx? (fun e => knd.is k e.2) es.toList with
  | some j =>
    dsimp only
    obtain ⟨hj, pj, _⟩ := List.findIdx?_eq_some_iff_getElem.mp hfi
    have hm : k ∈ L.map (·.2) := mem.mp ⟨es.toList[j], List.getElem_mem hj, pj⟩
    refine wpAny_pure (wpAny_pure ?_)
    exact hQ false s.heap (s.toks + 1) L (Heap.SameBut.refl a s.heap) R (fun _ => rfl) (fun z => absurd hm z) (Nat.le_succ _)
  | none =>
    dsimp only
    have hm : k ∉ L.map (·.2) := fun z => by
      obtain ⟨e, he, q⟩ := mem.mpr z
      have c := List.findIdx?_eq_none_iff.mp hfi e he
      rw [q] at c
      exact nomatch c
    have hgw : ∀ (b : Bool) {s₁ : Shared} {Q' : Unit → Shared → Prop}, Q' () s₁ → wpAny (model P w) A (match b with | true => rule "set.scan.the-table-gave-way" | false => pure ()) Q' E s₁ :=
      fun b s₁ Q' q => by cases b <;> first | exact wpAny_pure q | exact wpAny_rule q
    have pm := layNew_perm t es (knd.hash k) x
    have hf1 := layNew_fits t es (knd.hash k) x
    have hr1 := layNew_ris t es (knd.hash k) x hr
    have hl1 := layNew_led t es (knd.hash k) x
    generalize layNew t es (knd.hash k) x = Y at pm hf1 hr1 hl1 ⊢
    obtain ⟨es1, t1, wasDummy, gave⟩ := Y
    dsimp only at pm hf1 hr1 hl1 ⊢
    rw [Array.toList_push] at pm
    have pc : es1.toList.Perm ((knd.hash k, x) :: es.toList) := pm.trans (List.perm_append_singleton _ _)
    have el1 : ElemsOf knd es1.toList := fun e he => by
      rcases List.mem_cons.mp (pc.mem_iff.mp he) with z | z
      · rw [z]; exact ⟨⟨k, hkey, rfl⟩, hsc⟩
      · exact hel e z
    have sz1 : es1.size = L.length + 1 := by rw [← Array.length_toList, pc.length_eq, List.length_cons, Array.length_toList, hsz]
    have hled : w.params.followText "set-order" = true ∨ t1.led = true := hl.imp id fun z => by rw [hl1]; exact z
    -- a set with the members of es2, in their sequence
    have fin : ∀ (es2 : Array (Int × Value)) (t2 : SetTable) (ep2 : Nat) (h' : Heap), es2.toList.Perm es1.toList → t2.fits es2.size = true → Ris t2.place.toList → (w.params.followText "set-order" = true ∨ t2.led = true) →
        h'.get? a = some { o with data := .set es2 ep2 t2 } → Heap.SameBut a s.heap h' → ∀ b, Q b { s with heap := h', toks := s.toks + 1 } := by
      intro es2 t2 ep2 h' pe hf2 hr2 hl2 ho2 sb b
      have pv : (es2.toList.map (·.2)).Perm (((x, k) :: L).map (·.1)) := by
        refine (pe.map _).trans ((pc.map _).trans ?_)
        rw [List.map_cons, List.map_cons, hrow]
      -- the members in the new sequence
      have ord : ∀ (vs : List Value) (M : List (Value × κ)), vs.Perm (M.map (·.1)) → ∃ L' : List (Value × κ), vs = L'.map (·.1) ∧ L'.Perm M := by
        intro vs
        induction vs with
        | nil => intro M hp; have := hp.nil_eq; cases M with
          | nil => exact ⟨[], rfl, .nil⟩
          | cons _ _ => exact nomatch this
        | cons v vs ih =>
          intro M hp
          have hv : v ∈ M.map (·.1) := hp.mem_iff.mp List.mem_cons_self
          obtain ⟨q, hq, eq⟩ := List.mem_map.mp hv
          obtain ⟨M1, M2, rfl⟩ := List.append_of_mem hq
          have h2 : vs.Perm ((M1 ++ M2).map (·.1)) := by
            have : (v :: vs).Perm (v :: (M1 ++ M2).map (·.1)) := by
              refine hp.trans ?_
              rw [List.map_append, List.map_cons, eq, List.map_append]
              exact List.perm_middle
            exact this.cons_inv
          obtain ⟨L', e1, e2⟩ := ih (M1 ++ M2) h2
          exact ⟨q :: L', by rw [List.map_cons, eq, e1], (e2.cons q).trans List.perm_middle.symm⟩
      obtain ⟨L', e1, pL⟩ := ord _ _ pv
      refine hQ b h' (s.toks + 1) L' sb ⟨⟨_, es2, ep2, t2, ho2, hex, rfl, ⟨fun e he => el1 e (pe.mem_iff.mp he), e1, hf2, hr2⟩, hl2⟩, ?_, fun p hp => ?_, ?_⟩ (fun z => absurd z hm) (fun _ => pL) (Nat.le_succ _)
      · refine (pL.map (·.2)).nodup_iff.mpr ?_
        rw [List.map_cons]
        exact List.nodup_cons.mpr ⟨hm, R.nd⟩
      · rcases List.mem_cons.mp (pL.mem_iff.mp hp) with z | z
        · rw [z]; exact ⟨hkey, hsc⟩
        · exact R.ks p z
      · rw [pL.length_eq]; exact hfew
    have hb1 : es1.size < scanBound := by rw [sz1]; unfold scanBound; omega
    have tail : ∀ t2 : SetTable, t2.fits es1.size = true → Ris t2.place.toList → (w.params.followText "set-order" = true ∨ t2.led = true) → ∀ {g : Bool → Sem Unit} {R' : Option Bool → Shared → Prop}, (∀ (b : Bool) (s₁ : Shared) (Q' : Unit → Shared → Prop), Q' () s₁ → wpAny (model P w) A (g b) Q' E s₁) →
        (∀ s₁, (∀ b, Q b s₁) → R' (some true) s₁) → wpAny (model P w) A (do
        storeSet a es1 t2
        if (!wasDummy && t2.tooFull) = true then do
            g (relayAll t2 es1 (SetTable.grown es1.size)).2.2
            storeSet a (relayAll t2 es1 (SetTable.grown es1.size)).1 (relayAll t2 es1 (SetTable.grown es1.size)).2.1
            pure (some true)
          else pure (some true)) R' E { s with toks := s.toks + 1 } := by
      intro t2 hf2 hr2 hl2 g R' hg hR
      refine wpAny_bind (wpAny_storeSet_of (s := { s with toks := s.toks + 1 }) ho hd ?_ (fits_of_scanBound hb1))
      have ho1 := L2.store_at (es' := es1) (t' := t2) ho hd
      have sb1 := Heap.SameBut.update s.heap a (Obj.putSet es1 t2)
      split
      · have pm := relayAll_perm t2 es1 (SetTable.grown es1.size)
        have hf3 := relayAll_fits t2 es1 (SetTable.grown es1.size)
        have hr3 := relayAll_ris t2 es1 (SetTable.grown es1.size)
        have hl3 := relayAll_led t2 es1 (SetTable.grown es1.size)
        generalize relayAll t2 es1 (SetTable.grown es1.size) = Y at pm hf3 hr3 hl3 ⊢
        obtain ⟨es2, t3, gave⟩ := Y
        dsimp only at pm hf3 hr3 hl3 ⊢
        have hsz2 : es2.size = es1.size := by rw [← Array.length_toList, pm.length_eq, Array.length_toList]
        refine wpAny_bind (hg _ _ _ ?_)
        refine wpAny_bind (wpAny_storeSet_of ho1 rfl ?_ (fits_of_scanBound (by rw [hsz2]; exact hb1)))
        have ho2 := L2.store_at (es' := es2) (t' := t3) ho1 rfl
        exact wpAny_pure (hR _ (fin es2 t3 _ _ pm hf3 hr3 (hl2.imp id fun z => by rw [hl3]; exact z) ho2 (sb1.trans (Heap.SameBut.update _ a _))))
      · exact wpAny_pure (hR _ (fin es1 t2 _ _ .rfl hf2 hr2 hl2 ho1 sb1))
    refine wpAny_bind (hgw _ ?_)
    split
    · refine wpAny_bind ?_
      rw [hashByValue_scannable 8 hsc]
      refine wpAny_pure ?_
      refine tail _ ?_ ?_ ?_ ?_ ?_
      · first | (split <;> first | exact hf1 | exact SetTable.fits_plain_off hf1) | exact hf1
      · first | (split <;> exact hr1) | exact hr1
      · first | (split <;> exact hled) | exact hled
      · intro b s₁ Q' q; cases b <;> first | exact wpAny_pure q | exact wpAny_rule q
      · intro s₁ q; dsimp only; exact wpAny_pure (q _)
    · refine wpAny_bind (wpAny_pure ?_)
      simp only [↓reduceIte]
      refine tail _ hf1 hr1 hled ?_ ?_
      · intro b s₁ Q' q; cases b <;> first | exact wpAny_pure q | exact wpAny_rule q
      · intro s₁ q; dsimp only; exact wpAny_pure (q _)
end
end DSet
set_option Elab.async false
set_option linter.all false
set_option maxRecDepth 100000
set_option maxHeartbeats 1000000
set_option autoImplicit false
namespace DSet
open PySem PySem.Spec PyProof.Rows L2
/-! ### keys that are tuples of flat ones -/
section
variable {P : Program} {w : World} {κ : Type} [DecidableEq κ] {knd : KeyKind P w κ} {A : Around} {E : Value → Shared → Prop} {s : Shared}
theorem flat_of {v : Value} (h : carriedByValue v = true) : (∀ n, ofAClassStatement n v = pure false) ∧ ∃ b, ∀ n, hashByValue n v = pure b := by
  cases v with
  | ref a => simp [carriedByValue] at h
  | _ => exact ⟨fun n => by cases n <;> rfl, _, fun n => by cases n <;> rfl⟩
theorem tup_class {k : List κ} {b : Addr} {Q : Bool → Shared → Prop} (hk : IsTupleKey knd s.heap k b) (h : Q false s) : wpAny (model P w) A (ofAClassStatement 8 (.ref b)) Q E s := by
  have hT := hk.typeIs
  obtain ⟨o, its, n, ho, _, hd, hi⟩ := hk
  have flat := hi.byValue
  unfold ofAClassStatement
  refine wpAny_bind (wpAny_typeOf hT ?_)
  dsimp only
  simp only [show (("tuple" : String) == "tuple") = true from rfl, if_true, Bool.not_true, Bool.false_eq_true, if_false]
  try refine wpAny_bind (wpAny_pure ?_)
  try simp only [Bool.not_true, Bool.false_eq_true, if_false]
  show wpAny _ _ (seqItems? (.ref b) >>= _) _ _ s
  refine wpAny_bind (wpAny_seqItems ho hd ?_)
  dsimp only
  refine wpAny_bind ?_
  show wpAny _ _ (forIn its _ _) _ _ s
  rw [← Array.forIn_toList]
  refine wpAny_forIn_list _ (fun rest r s' => r.1 = none ∧ s' = s ∧ ∀ v ∈ rest, carriedByValue v = true) _ ?_ ?_ _ _ ⟨rfl, rfl, flat⟩
  · rintro v rest r s' ⟨_, rfl, al⟩
    rw [(flat_of (al v List.mem_cons_self)).1]
    refine wpAny_bind (wpAny_pure ?_)
    simp only [Bool.false_eq_true, if_false]
    exact wpAny_pure ⟨rfl, rfl, fun u hu => al u (List.mem_cons_of_mem _ hu)⟩
  · rintro ⟨r1, r2⟩ s' ⟨hr, rfl, _⟩
    simp only at hr
    subst hr
    exact wpAny_pure h
theorem tup_byv {k : List κ} {b : Addr} {Q : Bool → Shared → Prop} (hk : IsTupleKey knd s.heap k b) (h : ∀ c, Q c s) : wpAny (model P w) A (hashByValue 8 (.ref b)) Q E s := by
  have hT := hk.typeIs
  obtain ⟨o, its, n, ho, _, hd, hi⟩ := hk
  have flat := hi.byValue
  unfold hashByValue
  refine wpAny_bind (wpAny_specialOf hT F.slot_tuple_hash.lookup ?_)
  show wpAny _ _ (seqItems? (.ref b) >>= _) _ _ s
  refine wpAny_bind (wpAny_seqItems ho hd ?_)
  refine wpAny_bind ?_
  show wpAny _ _ (forIn its _ _) _ _ s
  rw [← Array.forIn_toList]
  refine wpAny_forIn_list _ (fun rest r s' => s' = s ∧ ∀ v ∈ rest, carriedByValue v = true) _ ?_ ?_ _ _ ⟨rfl, flat⟩
  · rintro v rest r s' ⟨rfl, al⟩
    obtain ⟨c, hc⟩ := (flat_of (al v List.mem_cons_self)).2
    rw [hc]
    refine wpAny_bind (wpAny_pure ?_)
    cases c with
    | true =>
      simp only [Bool.not_true, Bool.false_eq_true, if_false]
      exact wpAny_pure ⟨rfl, fun u hu => al u (List.mem_cons_of_mem _ hu)⟩
    | false =>
      simp only [Bool.not_false, if_true]
      exact wpAny_pure (wpAny_pure (h false))
  · rintro ⟨r1, r2⟩ s' ⟨rfl, _⟩
    cases r1 with
    | none => exact wpAny_pure (h _)
    | some c => exact wpAny_pure (h _)
/-- a search among such tuples shows nothing -/
theorem tup_seen {k : List κ} {b : Addr} {Q : Bool → Shared → Prop} (hk : IsTupleKey knd s.heap k b) {ys : List Value} (hy : ∀ y ∈ ys, ∃ k' c, y = Value.ref c ∧ IsTupleKey knd s.heap k' c) (h : Q false s) :
    wpAny (model P w) A (searchCouldBeSeen (.ref b) ys) Q E s := by
  unfold searchCouldBeSeen
  refine wpAny_bind ?_
  refine wpAny_forIn_list _ (fun rest r s' => r.1 = none ∧ s' = s ∧ ∀ y ∈ rest, ∃ k' c, y = Value.ref c ∧ IsTupleKey knd s.heap k' c) _ ?_ ?_ _ _ ⟨rfl, rfl, hy⟩
  · rintro v rest r s' ⟨_, rfl, al⟩
    obtain ⟨k', c, rfl, hc⟩ := al v List.mem_cons_self
    have al' : ∀ y ∈ rest, ∃ k' c, y = Value.ref c ∧ IsTupleKey knd s'.heap k' c := fun u hu => al u (List.mem_cons_of_mem _ hu)
    dsimp only
    by_cases hv : (b == c || (carriedByValue (.ref b) && carriedByValue (.ref c))) = true
    · exact wp_if_pos hv (wpAny_pure ⟨rfl, rfl, al'⟩)
    · refine wp_if_neg hv (wpAny_bind (wpAny_eqIsQuiet_tuple hk ?_))
      simp only [Bool.not_true, Bool.false_eq_true, if_false]
      refine wpAny_bind (wpAny_eqIsQuiet_tuple hc ?_)
      simp only [Bool.not_true, Bool.false_eq_true, if_false]
      refine wpAny_bind (tup_class hk ?_)
      simp only [Bool.false_eq_true, if_false]
      refine wpAny_bind (tup_class hc ?_)
      simp only [Bool.false_eq_true, if_false]
      exact wpAny_pure ⟨rfl, rfl, al'⟩
  · rintro ⟨r1, r2⟩ s' ⟨hr, rfl, _⟩
    simp only at hr
    subst hr
    exact wpAny_pure h

abbrev hsh (knd : KeyKind P w κ) (k : List κ) : Int := tupleKeyHash knd k
def rowsT (knd : KeyKind P w κ) (L : List (Value × List κ)) : List (Int × Value) := L.map fun p => (hsh knd p.2, p.1)
structure TupTab (knd : KeyKind P w κ) (L : List (Value × List κ)) (es : Array (Int × Value)) (t : SetTable) : Prop where
  rows : es.toList = rowsT knd L
  tab : TabOk t (L.map fun p => hsh knd p.2)
  room : L.length * 5 < t.mask * 3
theorem TupTab.size {L : List (Value × List κ)} {es : Array (Int × Value)} {t : SetTable} (R : TupTab knd L es t) : es.size = L.length := by
  have h := congrArg List.length R.rows
  unfold rowsT at h
  rwa [Array.length_toList, List.length_map] at h
theorem TupTab.fits {L : List (Value × List κ)} {es : Array (Int × Value)} {t : SetTable} (R : TupTab knd L es t) : t.fits es.size = true := by
  have h1 := R.tab.sz
  rw [List.length_map] at h1
  have h2 := R.size
  have h3 := R.room
  unfold SetTable.fits SetTable.fill
  rw [R.tab.dm, Bool.and_eq_true, beq_iff_eq, decide_eq_true_eq]
  show t.place.size = es.size ∧ t.place.size + 0 ≤ t.mask
  omega
theorem TupTab.entry {L : List (Value × List κ)} {es : Array (Int × Value)} {t : SetTable} (R : TupTab knd L es t) {i : Nat} {p : Value × List κ} (h : L[i]? = some p) : es[i]? = some (hsh knd p.2, p.1) := by
  rw [← Array.getElem?_toList, R.rows]
  unfold rowsT
  rw [List.getElem?_map, h]; rfl
def tupK (knd : KeyKind P w κ) : SK P w (List κ) where
  isK := fun h k v => ∃ b, v = .ref b ∧ IsTupleKey knd h k b
  tab := TupTab knd
  keep := fun ⟨b, e, o, its, n, ho, hc, hd, hi⟩ q => ⟨b, e, o, its, n, q b o ho (fun es ep t z => by rw [hd] at z; exact nomatch z), hc, hd, hi⟩
  init := fun b => ⟨rfl, ⟨List.Pairwise.nil, rfl, rfl, .inl rfl, fun x hx => (nomatch hx), fun i h j hi => (by simp at hi)⟩, (by decide : 0 * 5 < 7 * 3)⟩
  rows := fun {L es t} R => by
    rw [R.rows]
    unfold rowsT
    rw [List.map_map]; rfl
  fits := fun R => R.fits
  ris := fun R => R.tab.ris

/-- the search on its way from the c-th step -/
theorem tup_search {a : Addr} {L : List (Value × List κ)} {es : Array (Int × Value)} {ep : Nat} {t : SetTable} {o : Obj} (ho : s.heap.get? a = some o) (hd : o.data = .set es ep t) (R : TupTab knd L es t) (ks : ∀ p ∈ L, (tupK knd).isK s.heap p.2 p.1)
    {x : Addr} {k : List κ} (hx : IsTupleKey knd s.heap k x) (hu : A.units < cLine) {Kn : Nat} (hKf : Kn < 10 * SetTable.turns t.mask)
    (hK : way t.mask (hsh knd k) Kn ∉ t.place.toList) (hKb : ∀ c, c < Kn → way t.mask (hsh knd k) c ∈ t.place.toList) {Q : SetFound → Shared → Prop}
    (hin : k ∈ L.map (·.2) → Q (.there none) s) (hout : k ∉ L.map (·.2) → Q (.free (way t.mask (hsh knd k) Kn) false) s) :
    ∀ (f c : Nat) (stand : Option SetTable.Probe), stand.getD (t.probeStart (hsh knd k)) = nth t.mask (runAt t.mask (SetTable.bits (hsh knd k) % (t.mask + 1)) (SetTable.bits (hsh knd k))) c → c ≤ Kn → Kn - c < f →
      (∀ (i : Nat) p, L[i]? = some p → p.2 = k → ∃ c', c ≤ c' ∧ c' < Kn ∧ t.place.toList[i]? = some (way t.mask (hsh knd k) c')) →
      wpAny (model P w) A (setSearchFrom a (.ref x) (hsh knd k) true f stand) Q E s
  | 0, c, stand, _, _, hf, _ => absurd hf (Nat.not_lt_zero _)
  | f + 1, c, stand, hst, hc, hf, hre => by
    have gw : ¬ t.gaveWay = true := by
      unfold SetTable.gaveWay
      rw [mask_odd R.tab.mok]
      decide
    rw [setSearchFrom_succ]
    refine wpAny_bind (wpAny_setState_of ho hd R.fits ?_)
    dsimp only
    refine wp_if_neg gw ?_
    try refine wpAny_bind (wpAny_pure ?_)
    have nodum : ∀ (n : Nat) (p : SetTable.Probe), p.dummy = none → (nth t.mask p n).dummy = none := by
      intro n
      induction n with
      | zero => intro p h; exact h
      | succ n ih =>
        intro p h
        refine ih (adv t.mask p) ?_
        unfold adv
        split <;> exact h
    generalize hst0 : runAt t.mask (SetTable.bits (hsh knd k) % (t.mask + 1)) (SetTable.bits (hsh knd k)) = st0 at hst
    have way0 : ∀ q, way t.mask (hsh knd k) q = (nth t.mask st0 q).j := fun q => by rw [← hst0]
    have hnd : (nth t.mask st0 c).dummy = none := nodum c st0 (by rw [← hst0]; rfl)
    have sh : ∀ q, nth t.mask (nth t.mask st0 c) q = nth t.mask st0 (c + q) := fun q => (nth_add t.mask c _ q).symm
    have e1 : ∀ q, (nth t.mask (nth t.mask st0 c) q).j = way t.mask (hsh knd k) (c + q) := fun q => by rw [sh q, way0]
    have spec := go_spec t R.tab.ris R.tab.dm (fun i => (es[i]?.map (·.1)).getD 0) (hsh knd k) (10 * SetTable.turns t.mask) (Kn - c) _ hnd (by omega)
      (fun q hq => by rw [e1]; exact hKb (c + q) (by omega)) (by rw [e1, show c + (Kn - c) = Kn by omega]; exact hK)
    have hashAt : ∀ (i : Nat) p, L[i]? = some p → (es[i]?.map (·.1)).getD 0 = hsh knd p.2 := fun i p hp => by
      rw [R.entry hp]; rfl
    rcases spec with ⟨q, i, hq, hi, hh, hno, hpr⟩ | ⟨hno, hpr⟩
    · have hpr' : t.probe (fun i => (es[i]?.map (·.1)).getD 0) (hsh knd k) (stand.getD (t.probeStart (hsh knd k))) = some (.candidate (way t.mask (hsh knd k) (c + q)) i (nth t.mask st0 (c + (q + 1)))) := by
        rw [hst, ← e1, ← sh]
        exact hpr
      rw [hpr']
      dsimp only
      rw [e1] at hi
      have hil : i < L.length := by
        have h1 : i < t.place.toList.length := (List.getElem?_eq_some_iff.mp hi).1
        have h2 := R.tab.sz
        rw [List.length_map] at h2
        rw [Array.length_toList] at h1
        omega
      have hp : L[i]? = some L[i] := List.getElem?_eq_getElem hil
      generalize hpe : L[i] = p at hp
      have hmem : p ∈ L := List.mem_of_getElem? hp
      obtain ⟨y, ey, hpt⟩ := ks p hmem
      have rest : wpAny (model P w) A (searchRest a (.ref x) (hsh knd k) true f es t (way t.mask (hsh knd k) (c + q)) i (nth t.mask st0 (c + (q + 1)))) Q E s := by
        unfold searchRest
        rw [R.entry hp, ey]
        dsimp only
        refine wpAny_bind (wpAny_holding (wpAny_eqBool_tuple hu hpt hx ?_))
        refine wpAny_bind (wpAny_setState_of ho hd R.fits ?_)
        dsimp only
        by_cases hkk : p.2 = k
        · refine wp_if_pos (by simp [hkk]) (wpAny_pure (hin ?_))
          exact List.mem_map.mpr ⟨p, hmem, hkk⟩
        · refine wp_if_neg (by simp [hkk]) ?_
          try refine wpAny_bind (wpAny_pure ?_)
          rw [sameMem]
          dsimp only
          have hsl : t.slot (way t.mask (hsh knd k) (c + q)) = .live i := slot_live R.tab.ris hi
          simp only [if_true, hsl, R.entry hp, ey]
          refine wpAny_bind (wpAny_isSame_ref_self (wpAny_bind (wpAny_pure ?_)))
          simp only [if_true]
          refine wp_if_neg (by simp [hkk]) ?_
          refine tup_search ho hd R ks hx hu hKf hK hKb hin hout f (c + (q + 1)) _ (by rw [hst0]; rfl) (by omega) (by omega) fun i0 p0 h0 hk0 => ?_
          obtain ⟨c', a1, a2, a3⟩ := hre i0 p0 h0 hk0
          refine ⟨c', ?_, a2, a3⟩
          rcases Nat.lt_or_ge c' (c + q) with z | z
          · exact absurd ((hashAt i0 p0 h0).trans (congrArg (hsh knd) hk0)) (hno (c' - c) i0 (by omega) (by rw [e1, show c + (c' - c) = c' by omega]; exact a3))
          · rcases Nat.lt_or_ge (c + q) c' with y | y
            · omega
            · have ec : c' = c + q := Nat.le_antisymm y z
              rw [ec] at a3
              have s0 := slot_live R.tab.ris a3
              rw [hsl] at s0
              injection s0 with s0
              rw [← s0, hp] at h0
              exact absurd ((congrArg Prod.snd (Option.some.inj h0)).trans hk0) hkk
      by_cases hl : t.led = true
      · refine wp_if_neg (by simp [hl]) ?_
        try refine wpAny_bind (wpAny_pure ?_)
        exact rest
      · refine wp_if_pos (by simp [hl]) ?_
        refine wpAny_bind (tup_seen hx (fun y hy => ?_) ?_)
        · obtain ⟨e, he, ee⟩ := List.mem_map.mp hy
          have he1 : e ∈ es ∧ e.1 = hsh knd k := by simpa using he
          have he2 : e ∈ es.toList := by simpa using he1.1
          rw [R.rows] at he2
          obtain ⟨p2, hp2, e2⟩ := List.mem_map.mp he2
          obtain ⟨y2, ey2, hk2⟩ := ks p2 hp2
          exact ⟨p2.2, y2, by rw [← ee, ← e2]; exact ey2, hk2⟩
        · refine wp_if_neg (by decide) ?_
          try refine wpAny_bind (wpAny_pure ?_)
          exact rest
    · have hpr' : t.probe (fun i => (es[i]?.map (·.1)).getD 0) (hsh knd k) (stand.getD (t.probeStart (hsh knd k))) = some (.empty (way t.mask (hsh knd k) Kn) none) := by
        have e2 : way t.mask (hsh knd k) Kn = (nth t.mask (nth t.mask st0 c) (Kn - c)).j := by
          rw [e1, show c + (Kn - c) = Kn by omega]
        rw [hst, e2]
        exact hpr
      rw [hpr']
      dsimp only
      refine wpAny_pure (hout fun hm => ?_)
      obtain ⟨p0, h0, hk0⟩ := List.mem_map.mp hm
      obtain ⟨i0, hi0, e0⟩ := List.getElem_of_mem h0
      have h00 : L[i0]? = some p0 := by rw [List.getElem?_eq_getElem hi0, e0]
      obtain ⟨c', a1, a2, a3⟩ := hre i0 p0 h00 hk0
      exact hno (c' - c) i0 (by omega) (by rw [e1, show c + (c' - c) = c' by omega]; exact a3) ((hashAt i0 p0 h00).trans (congrArg (hsh knd) hk0))

theorem keyT_same {h h' : Heap} {k : List κ} {v : Value} {a : Addr} {o : Obj} {es : Array (Int × Value)} {ep : Nat} {t : SetTable} (hb : (tupK knd).isK h k v) (ho : h.get? a = some o) (hd : o.data = .set es ep t) (sb : Heap.SameBut a h h') : (tupK knd).isK h' k v :=
  (tupK knd).keep hb fun b u e ns => by
    have hne : b ≠ a := fun z => by
      subst z
      rw [ho] at e
      cases e
      exact ns _ _ _ hd
    exact (sb.2 b hne).trans e
theorem order_rowsT (L : List (Value × List κ)) (es : Array (Int × Value)) (order : Array Nat) (hr : es.toList = rowsT knd L) (hp : order.toList.Perm (List.range L.length)) :
    ∃ L2, (order.filterMap (es[·]?)).toList = rowsT knd L2 ∧ L2.Perm L ∧ (L2.map fun p => hsh knd p.2) = order.toList.map fun i => (es.map (·.1)).getD i 0 := by
  have ent : ∀ i (h : i < L.length), es[i]? = some (hsh knd (L[i]).2, (L[i]).1) := fun i h => by
    rw [← Array.getElem?_toList, hr]
    unfold rowsT
    rw [List.getElem?_map, List.getElem?_eq_getElem h]; rfl
  have key : ∀ l : List Nat, (∀ i ∈ l, i < L.length) → l.filterMap (fun i => es[i]?) = rowsT knd (l.filterMap fun i => L[i]?) ∧ ((l.filterMap fun i => L[i]?).map fun p => hsh knd p.2) = l.map fun i => (es.map (·.1)).getD i 0 := by
    intro l
    induction l with
    | nil => intro _; exact ⟨rfl, rfl⟩
    | cons i l ih =>
      intro hl
      have hi := hl i List.mem_cons_self
      obtain ⟨e1, e3⟩ := ih fun j hj => hl j (List.mem_cons_of_mem _ hj)
      have e5 : (es.map (·.1))[i]? = some (hsh knd (L[i]).2) := by rw [Array.getElem?_map, ent i hi]; rfl
      rw [List.filterMap_cons_some (ent i hi), List.filterMap_cons_some (List.getElem?_eq_getElem hi), e1, List.map_cons, List.map_cons, e3]
      exact ⟨rfl, by simp [Array.getD_eq_getD_getElem?, e5]⟩
  obtain ⟨e1, e3⟩ := key order.toList fun i hi => List.mem_range.mp (hp.mem_iff.mp hi)
  refine ⟨order.toList.filterMap fun i => L[i]?, by first | (rw [Array.toList_filterMap]; exact e1) | simpa using e1, ?_, e3⟩
  have h2 : ∀ n, n ≤ L.length → (List.range n).filterMap (fun i => L[i]?) = L.take n := by
    intro n
    induction n with
    | zero => intro _; rfl
    | succ n ih =>
      intro hn
      rw [List.range_succ, List.filterMap_append, ih (Nat.le_of_lt hn), List.take_succ, List.getElem?_eq_getElem hn, List.filterMap_cons_some (List.getElem?_eq_getElem hn)]; rfl
  have h1 := hp.filterMap fun i => L[i]?
  rw [h2 L.length (Nat.le_refl _), List.take_length] at h1
  exact h1
theorem relay_tup {a : Addr} {L : List (Value × List κ)} {es : Array (Int × Value)} {ep : Nat} {t : SetTable} {o : Obj} (ho : s.heap.get? a = some o) (hex : o.ExactSet) (hd : o.data = .set es ep t) (hrows : es.toList = rowsT knd L) (hsz : t.place.size = es.size) (hdm : t.dummies = #[]) (hfl : es.size ≤ t.mask)
    (nd : (L.map (·.2)).Nodup) (ks : ∀ p ∈ L, (tupK knd).isK s.heap p.2 p.1) (ld : w.params.followText "set-order" = true ∨ t.led = true) (few : L.length < 64) {wanted M : Nat}
    (hw : SetTable.sizeAbove wanted - 1 = M) (hM : MaskOk M) (hw2 : SetTable.sizeAbove wanted ≤ 128) (hn : L.length * 5 < M * 3) {Q : Unit → Shared → Prop}
    (hQ : ∀ h' L', Heap.SameBut a s.heap h' → At (tupK knd) h' a L' → L'.Perm L → Q () { s with heap := h' }) : wpAny (model P w) A (setRelay a wanted) Q E s := by
  have hsl : es.size = L.length := by
    have h := congrArg List.length hrows
    unfold rowsT at h
    rwa [Array.length_toList, List.length_map] at h
  have hfits : t.fits es.size = true := by
    unfold SetTable.fits SetTable.fill
    rw [hdm, Bool.and_eq_true, beq_iff_eq, decide_eq_true_eq]
    show t.place.size = es.size ∧ t.place.size + 0 ≤ t.mask
    omega
  obtain ⟨t', order, e, hp, T, em, el, ep', ed⟩ := relaid_ok t (hs := es.map (·.1)) (wanted := wanted) hw hM (by rw [Array.size_map, hsl]; omega)
  rw [Array.size_map, hsl] at hp
  obtain ⟨M2, r1, r2, r3⟩ := order_rowsT L es order hrows hp
  rw [← r3] at T
  have hs2 : (order.filterMap (es[·]?)).size = es.size := by
    have h := congrArg List.length r1
    unfold rowsT at h
    rw [Array.length_toList, List.length_map, r2.length_eq] at h
    rw [h, hsl]
  rw [setRelay_eq]
  refine wpAny_bind (wpAny_setState_of ho hd hfits ?_)
  dsimp only
  refine wp_if_neg (by rw [sizeLine_eq]; omega) ?_
  try refine wpAny_bind (wpAny_pure ?_)
  rw [e]
  dsimp only
  refine wpAny_bind (wp_if_neg (by rw [hs2]; simp) ?_)
  try refine wpAny_bind (wpAny_pure ?_)
  refine wpAny_pure ?_
  dsimp only
  refine wpAny_storeSet_of ho hd ?_ (by rw [hs2, hsl, sizeLine_eq]; omega)
  have sb : Heap.SameBut a s.heap (s.heap.update a (Obj.putSet (order.filterMap (es[·]?)) t')) := Heap.SameBut.update ..
  refine hQ _ M2 sb ⟨⟨_, order.filterMap (es[·]?), ep + 1, t', L2.store_at ho hd, ⟨hex.1, hex.2.1, hex.2.2⟩, rfl, ⟨r1, T, by rw [r2.length_eq, em]; exact hn⟩, by rw [el]; exact ld⟩, (r2.map (·.2)).nodup_iff.mpr nd, fun p hpm => keyT_same (ks p (r2.mem_iff.mp hpm)) ho hd sb, by rw [r2.length_eq]; exact few⟩ r2

theorem tup_adds : Adds (tupK knd) := by
  intro A E s a L x k Q hu R hx hfew hQ
  obtain ⟨o, es, ep, t, ho, hex, hd, tb, ld⟩ := R.ob
  obtain ⟨b, rfl, hb⟩ := id hx
  have hsl := tb.size
  have hroom := tb.room
  unfold setAdd
  refine wpAny_holding (wpAny_bind (wpAny_pyHash_tuple hu hb ?_))
  generalize hs1 : ({ s with toks := s.toks + (k.length + 1) } : Shared) = s1
  have hh1 : s1.heap = s.heap := by rw [← hs1]
  have ho1 : s1.heap.get? a = some o := by rw [hh1]; exact ho
  have htk : s.toks ≤ s1.toks := by rw [← hs1]; exact Nat.le_add_right _ _
  have R1 : ∀ p ∈ L, (tupK knd).isK s1.heap p.2 p.1 := by rw [hh1]; exact R.ks
  have hb1 : IsTupleKey knd s1.heap k b := by rw [hh1]; exact hb
  have back : ∀ c h' L', Heap.SameBut a s.heap h' → At (tupK knd) h' a L' → (k ∈ L.map (·.2) → L' = L) → (k ∉ L.map (·.2) → L'.Perm ((Value.ref b, k) :: L)) → Q c { s1 with heap := h' } := fun c h' L' a1 a2 a3 a4 => by
    have := hQ c h' s1.toks L' a1 a2 a3 a4 htk
    rw [← hs1] at this ⊢
    exact this
  unfold setAddHashed
  refine wpAny_holding ?_
  rw [show (100000 : Nat) = 99999 + 1 from rfl, setAddHashedIn_succ]
  refine wpAny_bind (wpAny_setState_of ho1 hd tb.fits ?_)
  dsimp only
  refine wp_if_neg (by simp [byScan, Value.scannable]) ?_
  try refine wpAny_bind (wpAny_pure ?_)
  obtain ⟨Kn, hKf, hK, hKb⟩ := tb.tab.first (by rw [List.length_map]; omega) (hsh knd k)
  have hbig : Kn < 100000 := by
    have : 10 * SetTable.turns t.mask ≤ 1420 := by
      unfold SetTable.turns
      rcases tb.tab.mok with e | e | e <;> omega
    omega
  refine wpAny_bind ?_
  unfold setSearch
  refine tup_search ho1 hd tb R1 hb1 hu hKf hK hKb (fun hm => ?_) (fun hm => ?_) 100000 0 none rfl (Nat.zero_le _) (by omega) fun i p hp hk => ?_
  · dsimp only
    refine wpAny_pure ?_
    have := back false s.heap L (Heap.SameBut.refl a s.heap) R (fun _ => rfl) fun z => absurd hm z
    rw [← hh1] at this
    exact this
  · dsimp only
    refine wpAny_bind (wpAny_setState_of ho1 hd tb.fits ?_)
    dsimp only
    obtain ⟨q1, q2, q3, q4, q5, q6, q7, q8, q9⟩ := tb.tab.put hK hKb
    generalize hpt : t.put (way t.mask (hsh knd k) Kn) = pt at q1 q3 q4 q5 q6 q7 q8 q9 ⊢
    obtain ⟨t1, pl⟩ := pt
    dsimp only at q1 q3 q4 q5 q6 q7 q8 q9 ⊢
    subst q1
    have hin : (SetTable.insertAt es (SetTable.below t.place (way t.mask (hsh knd k) Kn)) (hsh knd k, Value.ref b)).toList = rowsT knd (L.take (SetTable.below t.place (way t.mask (hsh knd k) Kn)) ++ (Value.ref b, k) :: L.drop (SetTable.below t.place (way t.mask (hsh knd k) Kn))) := by
      rw [SetTable.toList_insertAt, tb.rows]
      unfold rowsT
      rw [List.map_append, List.map_cons, List.map_take, List.map_drop]
    generalize hpp : SetTable.below t.place (way t.mask (hsh knd k) Kn) = pl at q2 q3 hin ⊢
    have pm := put_perm L pl (Value.ref b, k)
    have hlen : (L.take pl ++ (Value.ref b, k) :: L.drop pl).length = L.length + 1 := pm.length_eq
    have hhs : (L.take pl ++ (Value.ref b, k) :: L.drop pl).map (fun p => hsh knd p.2) = (L.map fun p => hsh knd p.2).take pl ++ hsh knd k :: (L.map fun p => hsh knd p.2).drop pl := by
      rw [List.map_append, List.map_cons, List.map_take, List.map_drop]
    rw [← hhs] at q3
    have nd1 : ((L.take pl ++ (Value.ref b, k) :: L.drop pl).map (·.2)).Nodup := by
      refine (pm.map (·.2)).nodup_iff.mpr ?_
      rw [List.map_cons]
      exact List.nodup_cons.mpr ⟨hm, R.nd⟩
    have hes : (SetTable.insertAt es pl (hsh knd k, Value.ref b)).size = L.length + 1 := by
      have h := congrArg List.length hin
      unfold rowsT at h
      rwa [Array.length_toList, List.length_map, hlen] at h
    generalize SetTable.insertAt es pl (hsh knd k, Value.ref b) = es1 at hin hes ⊢
    generalize L.take pl ++ (Value.ref b, k) :: L.drop pl = L1 at pm hlen q3 nd1 hin
    -- whatever is found out of its hash, the table is the same but for its mark
    have fin : ∀ t2 : SetTable, t2.mask = t1.mask → t2.place = t1.place → t2.dummies = t1.dummies → t2.led = t1.led → t2.tooFull = t1.tooFull → TabOk t2 (L1.map fun p => hsh knd p.2) → wpAny (model P w) A (do
        storeSet a es1 t2
        if (!false && t2.tooFull) = true then do
            setRelay a (SetTable.grown (es.size + 1))
            pure true
          else pure true) Q E s1 := by
      intro t2 u1 u2 u3 u4 u5 T2
      refine wpAny_bind (wpAny_storeSet_of ho1 hd ?_ (by rw [hes, sizeLine_eq]; omega))
      have sb : Heap.SameBut a s1.heap (s1.heap.update a (Obj.putSet es1 t2)) := Heap.SameBut.update ..
      have ho2 := L2.store_at (es' := es1) (t' := t2) ho1 hd
      generalize s1.heap.update a (Obj.putSet es1 t2) = h1 at sb ho2 ⊢
      have sb0 : Heap.SameBut a s.heap h1 := by rw [← hh1]; exact sb
      have ks1 : ∀ p ∈ L1, (tupK knd).isK h1 p.2 p.1 := fun p hp => by
        rcases List.mem_cons.mp (pm.mem_iff.mp hp) with e | hp
        · rw [e]; exact keyT_same (by rw [hh1]; exact hx) ho1 hd sb
        · exact keyT_same (R1 p hp) ho1 hd sb
      have ld1 : w.params.followText "set-order" = true ∨ t2.led = true := by rw [u4, q5]; exact ld
      by_cases hf : t2.tooFull = true
      · refine wp_if_pos (by simp [hf]) (wpAny_bind ?_)
        have hfull : (L.length + 1) * 5 ≥ t1.mask * 3 := by
          have h := hf
          rw [u5] at h
          unfold SetTable.tooFull at h
          rw [decide_eq_true_eq, q9, List.length_map] at h
          exact h
        rw [hsl]
        have hsz1 : t2.place.size = es1.size := by
          have h := T2.sz
          rw [List.length_map, hlen] at h
          rw [h, hes]
        have cases2 : (t.mask = 7 ∧ L.length = 4) ∨ (t.mask = 31 ∧ L.length = 18) := by
          rcases tb.tab.mok with e | e | e
          · left; rw [q4, e] at hfull; rw [e] at hroom; exact ⟨e, by omega⟩
          · right; rw [q4, e] at hfull; rw [e] at hroom; exact ⟨e, by omega⟩
          · exfalso; rw [q4, e] at hfull; omega
        have go : ∀ M, SetTable.sizeAbove (SetTable.grown (L.length + 1)) - 1 = M → MaskOk M → SetTable.sizeAbove (SetTable.grown (L.length + 1)) ≤ 128 → (L.length + 1) * 5 < M * 3 →
            wpAny (model P w) A (setRelay a (SetTable.grown (L.length + 1))) (fun _ s' => wpAny (model P w) A (pure true) Q E s') E { s1 with heap := h1 } := fun M g1 g2 g3 g4 => by
          refine relay_tup (s := { s1 with heap := h1 }) ho2 ⟨hex.1, hex.2.1, hex.2.2⟩ rfl hin hsz1 T2.dm (by rw [hes, u1, q4]; rcases cases2 with ⟨e, e2⟩ | ⟨e, e2⟩ <;> omega) nd1 ks1 ld1 (by rw [hlen]; exact hfew) g1 g2 g3 (by rw [hlen]; exact g4) ?_
          intro h2 M2 sb2 R2 pm2
          exact wpAny_pure (back true h2 M2 (sb0.trans sb2) R2 (fun z => absurd z hm) fun _ => pm2.trans pm)
        rcases cases2 with ⟨_, e2⟩ | ⟨_, e2⟩
        · exact go 31 (by rw [e2, size_20]) (.inr (.inl rfl)) (by rw [e2, size_20]; decide) (by omega)
        · exact go 127 (by rw [e2, size_76]) (.inr (.inr rfl)) (by rw [e2, size_76]; decide) (by omega)
      · refine wp_if_neg (by simp [hf]) ?_
        refine wpAny_pure (back true h1 L1 sb0 ⟨⟨_, es1, ep + 1, t2, ho2, ⟨hex.1, hex.2.1, hex.2.2⟩, rfl, ⟨hin, T2, ?_⟩, ld1⟩, nd1, ks1, by rw [hlen]; exact hfew⟩ (fun z => absurd z hm) fun _ => pm)
        have h := hf
        rw [u5] at h
        unfold SetTable.tooFull at h
        rw [decide_eq_true_eq, q9, List.length_map] at h
        rw [hlen, u1]
        omega
    have T1 : TabOk { t1 with plain := false } (L1.map fun p => hsh knd p.2) := ⟨q3.ris, q3.dm, q3.sz, q3.mok, q3.bd, q3.reach⟩
    by_cases hpl : t1.plain = true
    · first
        | (refine wpAny_bind ?_; refine wp_if_pos hpl ?_; refine tup_byv hb1 fun c => ?_)
        | refine wp_if_pos hpl (wpAny_bind (tup_byv hb1 fun c => ?_))
      cases c with
      | true => exact fin t1 rfl rfl rfl rfl rfl q3
      | false => exact fin { t1 with plain := false } rfl rfl rfl rfl rfl T1
    · first
        | (refine wpAny_bind ?_; refine wp_if_neg hpl ?_; refine wpAny_pure ?_)
        | refine wp_if_neg hpl (wpAny_bind (wpAny_pure ?_))
      exact fin t1 rfl rfl rfl rfl rfl q3
  · have hi : (L.map fun p => hsh knd p.2)[i]? = some (hsh knd k) := by rw [List.getElem?_map, hp, ← hk]; rfl
    have hil : i < t.place.toList.length := by
      have h1 : i < L.length := (List.getElem?_eq_some_iff.mp hp).1
      have h2 := tb.tab.sz
      rw [List.length_map] at h2
      rw [Array.length_toList]
      omega
    have hj := List.getElem?_eq_getElem hil
    obtain ⟨c, hc, e⟩ := tb.tab.before hK hi hj
    exact ⟨c, Nat.zero_le _, hc, by rw [hj, e]⟩
end
end DSet
set_option Elab.async false
set_option linter.all false
set_option maxRecDepth 100000
set_option maxHeartbeats 2000000
set_option autoImplicit false
/-! An own exception over ValueError whose __init__ says super().__init__(text) and keeps its argument. -/
namespace XI
open PySem L2 PySem.W PyProof.Rows
section
variable {P : Program} {w : World} {K : PySem.W.Frag} {A : Around} {E : Value → Shared → Prop} {g : Array GenState} {d : Drawn} {t : Nat} {os : OsState}
/-- the bound __init__ called: the args are laid anew -/
theorem call_mw {u x C t0 : Addr} {bm : List Value} {nm q : Str} {N : Addr} {bs : List Value} {hdct : Bool} {sn : List Str} {sub : List Value} {ab : Bool} {col : Option Bool} {dd : Option Addr} {k0 k1 k2 k3 k5 : Option Value} {h : Heap} {rest : List Value} {Q : Value → Shared → Prop}
    (hC : h.get? C = some (excClassObj nm q C N bs bm hdct sn sub ab col dd k0 k1 k2 k3 k5 "ValueError.__new__")) (hu : h.get? u = some (kxs_mw "ValueError.__init__" x)) (he : h.get? x = some (excObj C t0 none .none)) (hz : rest.length ≤ sizeLine)
    (hq : ∀ h' t1, (∀ b o, b ≠ x → h.get? b = some o → h'.get? b = some o) → h'.get? x = some (excObj C t1 none .none) → Q .none ⟨h', g, d, t, os⟩) :
    wpAny (model P w) A (call (.ref u) rest) Q E ⟨h, g, d, t, os⟩ := by
  have FB := F.excBase_ValueError
  apply wpAny_call
  apply codeAny_of_tree
  change wpAny _ A.in1 (callAny (.ref u) { pos := rest, kw := [] }) _ _ _
  rw [callAny]
  apply wpAny_bind
  apply wpAny_load hu
  have mw : ∀ y : Value, (y == Value.type "method-wrapper") = true → (y == .type "method" || y == .type "builtin_function_or_method" || y == .type "method-wrapper") = true := fun y h => by rw [h, Bool.or_true]
  simp only [kxs_mw, mw _ (beq_self_eq_true _), if_true]
  apply KFB.if_so (by decide)
  refine wpAny_bind (check_bound_init (e := x) FB.toExcCallFacts hC he rfl (wpAny_bind (wpAny_pure (wpAny_pure ⟨plainId_quiet FB.init.plain _, codeAny_builtin FB.initEntry ?_⟩))))
  exact exc_init_tree (cls := .ref C) (t0 := t0) (dv := none) (c2 := .none) (c3 := .none) (b4 := .bool false) he hz fun h' k e' _ => hq h' _ k e'
end
/-- what the written part says of such a class; C's __init__ at fI -/
structure XiT (P : Program) (K : PySem.W.Frag) (mg : Str → Option Value) (C fI cc cda : Addr) (qual fname : Str) (scope : Scope) : Prop where
  oex : OexC K C
  cell : ∃ cl cld csl, K.lookup cc = some ⟨cl, cld, .cell (some (.ref C)), csl⟩
  code : ∃ ccl cdd vs ccs file tf, K.lookup cda = some ⟨ccl, cdd, .fields vs, ccs⟩ ∧ vs[2]? = some (.str file tf) ∧ ((P.main.file : Str) == file) = true
  htop : (P.main.scope.names.lookup ("super" : Str)).isSome = false
  hsuper : mg "super" = none
  any : nsIn K cStatics "thirdparty.any" = some none
  sup : ks_superIn K C C "__init__" = some (some (.builtin "ValueError.__init__"))
  sub : subIn K (.ref C) (.type "ValueError") = some true
  self : mroIn K C (.ref C) = some true
  no : findIn K (.ref C) fname = some none
  ks : scope.names.lookup ("super" : Str) = some .globalImplicit
  kc : scope.names.lookup ("__class__" : Str) = some .free
  ka : scope.names.lookup ("self" : Str) = some .local
  kf : scope.names.lookup fname = some .local
  nc : ∀ x ∈ scope.names, x.2 ≠ .cell
  kind : scope.kind = .function
  co : scope.isCoroutine = false
  gen : scope.isGenerator = false
def spXi (C : Addr) (f : Str) : Sp := fun vs H Q _ => ∃ (a : Addr) (v : V), vs = [.ref a, v] ∧ H a = some (exo a C none) ∧ ∀ dx, H dx = none → dx ≠ a → Q .non (upd (upd H dx (exd dx [(f, v)])) a (exo a C (some dx)))
theorem xi_ok {P : Program} {w : World} {K : PySem.W.Frag} {mg : Str → Option Value} {base : Heap} {C fI cc cda : Addr} {qual fname msg : Str} {scope : Scope} {params : Arguments} {body : List Stmt} {dV kV doc pm ct oc : Value} {an od : Option Addr} {osl : Array (Option Value)} {ar : Arg}
    {p0 p1 p2 p3 p4 p5 p6 p7 p8 p9 : Pos} {j : Nat}
    (T : XiT P K mg C fI cc cda qual fname scope) (lk : K.lookup fI = some ⟨oc, od, .func (ksFn "__init__" qual params body scope dV kV doc pm an (.ref cda) ct cc), osl⟩) (hcd : codeIn K (.ref cda) qual = true)
    (hbody : body = [.Expr (.Call (.Attribute (.Call (.Name "super" p0) [] [] p1) "__init__" p2) [.Constant (.str msg) j p3] [] p4) p5, .Assign [.Attribute (.Name "self" p6) fname p7] (.Name fname p8) p9])
    (hp : (params.posonlyargs ++ params.args).head? = some ar) (har : ar.arg = "self") (hne : ("self" : Str) ≠ fname) (hf1 : (fname == ("__debug__" : Str)) = false) (hf2 : (fname == ("__classdict__" : Str)) = false)
    (hev : ∀ env : Env, ∃ pl : Sem Bool, eval (.Call (.Attribute (.Call (.Name "super" p0) [] [] p1) "__init__" p2) [.Constant (.str msg) j p3] [] p4) env = (do
      let ov ← attributeBase (.Call (.Name "super" p0) [] [] p1) "__init__" env (eval (.Call (.Name "super" p0) [] [] p1) env)
      standAt p2.atName
      let (f, first) ← holding [ov] (getMethod ov "__init__" pl)
      callWith p4 f first (backTo p4 (starEach [.Constant (.str msg) j p3] env)) [])) :
    FnOk P w K mg base CX0 1 fI (ksFn "__init__" qual params body scope dV kV doc pm an (.ref cda) ct cc) ["self", fname] (spXi C fname) := by
  refine ⟨fun vs H Q E h => ?_, fun A outer s H args us vs Q E hr e0 hb r hsp => ?_⟩
  · obtain ⟨a, v, rfl, _⟩ := h
    rfl
  obtain ⟨x, v, rfl, ex, hQ⟩ := hsp
  obtain ⟨u, hu, rv⟩ : ∃ u, us = [.ref x, u] ∧ RelV v u := by
    cases r with
    | cons r1 r2 =>
      cases r2 with
      | cons r3 r4 =>
        cases r4
        have r1 : _ = Value.ref x := r1
        subst r1
        exact ⟨_, rfl, r3⟩
  subst hu
  have stay : ∀ b o, base.get? b = some o → s.heap.get? b = some o := fun b o e => (e0.bs b o e).1
  have KX := e0.mod.kin.keeps stay
  have lim := e0.mod.nolimit.keeps stay
  obtain ⟨nm, q, N, bs, bm, sn, sub, ab, col, dd, k0, k1, k2, k3, k5, hC, hbm⟩ := T.oex.cls
  obtain ⟨cd, hcl, hmro, hhd⟩ : ∃ cd, clsIn K C = some cd ∧ cd.mro = .ref C :: bm ∧ cd.hasDict = true := by
    unfold clsIn
    rw [hC]
    exact ⟨_, rfl, rfl, rfl⟩
  obtain ⟨cl, cld, csl, hcell⟩ := T.cell
  obtain ⟨ccl, cdd, cvs, ccs, file, tf, hcode, hvs, hfile⟩ := T.code
  obtain ⟨t0, hx⟩ := exo_at e0.hok ex
  have m1 : ((["self", fname] : List Str).zip [Value.ref x, u]).reverse.lookup ("self" : Str) = some (.ref x) := by
    show List.lookup ("self" : Str) [(fname, u), ("self", .ref x)] = _
    rw [List.lookup_cons, show (("self" : Str) == fname) = false by simpa using hne]
    rfl
  have m2 : ((["self", fname] : List Str).zip [Value.ref x, u]).reverse.lookup fname = some u := by
    show List.lookup fname [(fname, u), ("self", .ref x)] = _
    rw [List.lookup_cons, beq_self_eq_true]
  refine ks_codeAny_call_defAt (fd := ksFn "__init__" qual params body scope dV kV doc pm an (.ref cda) ct cc) (body := body) hr.depth (KX _ _ lk) rfl lim (codeRec_of KX hcd) rfl hb T.nc (fun y hy => ?_) (fun h₁ hns hk₁ => ?_) T.co T.gen T.kind
  · rcases List.mem_cons.mp hy with rfl | hy
    · exact T.ka
    · rw [List.mem_singleton.mp hy]; exact T.kf
  show PySem.wpAt (model P w) (A.deeper (ksEnv qual scope s.heap.objs.size fI (.ref cda) cc)) (.func body (ksEnv qual scope s.heap.objs.size fI (.ref cda) cc)) (execs body (ksEnv qual scope s.heap.objs.size fI (.ref cda) cc)) _ _ _
  have bk : ∀ b o, base.get? b = some o → h₁.get? b = some o := fun b o e => hk₁ b o (e0.bs b o e).1
  have K1 : K.In h₁ := KX.keeps hk₁
  have x1 : h₁.get? x = some (excObj C t0 none .none) := hk₁ _ _ hx
  have I1 : InstAt h₁ x (excObj C t0 none .none) C none := ⟨x1, rfl, rfl, trivial⟩
  obtain ⟨mb, hb1, hb2⟩ := e0.mod.blt
  rw [hbody]
  obtain ⟨pl, hev⟩ := hev (ksEnv qual scope s.heap.objs.size fI (.ref cda) cc)
  refine ks_wpAt_execs_cons (ks_wpAt_Expr_any (ks_wpAt_MethodCall (pl := pl) ?_ hev) (by unfold interactive; simp [T.kind]))
  refine ks_wpAt_super_base (env := ksEnv qual scope s.heap.objs.size fI (.ref cda) cc) T.ks T.kc (by decide) rfl (K1 _ _ lk) rfl hp rfl (K1 _ _ hcode) rfl hvs hfile T.htop ?_
  refine ks_loadName_global T.kind T.ks (Calls.loadGlobal_builtin (env := ksEnv qual scope s.heap.objs.size fI (.ref cda) cc) (e0.mod.glob.keeps bk) T.hsuper (hb1.keeps bk) ((hb2 "super" (by decide)).trans (by decide +kernel)) ⟨rfl, ?_⟩)
  refine wpAny_loadName_free T.kind T.kc rfl ⟨_, K1 _ _ hcell, rfl⟩ ?_
  rw [har]
  refine wpAny_loadName_local T.kind T.ka hns m1 ?_
  refine ks_wpAny_isType_cls (K1 _ _ hC) rfl ⟨rfl, ?_⟩
  refine ks_wpAny_call_super (K1 _ _ hC) rfl x1 rfl (fun c e => by cases e) (looks_mroIn K1 T.self) (fun h₂ e2 hk₂ => ?_)
  have K2 : K.In h₂ := K1.keeps hk₂
  have I2 : InstAt h₂ x (excObj C t0 none .none) C none := ⟨hk₂ _ _ x1, rfl, rfl, trivial⟩
  have hI2 : Looks (model P w) h₂ (isInstance (.ref x) (.type "ValueError")) true := I2.type.andThen (looks_subIn K2 T.sub)
  have hm := T.sup
  unfold ks_superIn at hm
  rw [hcl, Option.bind_some, hmro] at hm
  refine kxs_getMethod kxs_ValueError e2 (looks_opaque K2 T.any) (l₀ := .ref C :: bm) (fun A Q E s k q => wpAny_bind ((looks_clsIn K2 hcl) A _ E s k (wpAny_pure (by rw [hmro]; exact q)))) rfl K2 hm hI2 (ks_ne K2 I2 hcl) (by decide) ?_
  have hu3 : (h₂.push (kxs_mw "ValueError.__init__" x)).get? h₂.objs.size = some (kxs_mw "ValueError.__init__" x) := Heap.get?_push_at rfl rfl
  have hk₃ : ∀ b o, h₂.get? b = some o → (h₂.push (kxs_mw "ValueError.__init__" x)).get? b = some o := fun b o e => Heap.get?_push_of_some _ e
  refine kxs_callWith (i := "ValueError.__init__") (x := x) rfl ?_
  refine Calls.evalArgs_plain (Calls.spliced_cons (Calls.Constant_str (k := j) (pos := p3) (Calls.spliced_nil ⟨hu3, ?_⟩)))
  refine call_mw (C := C) (x := x) (t0 := t0) (K2.keeps hk₃ _ _ hC) hu3 (hk₃ _ _ I2.at_) (by show 1 ≤ sizeLine; decide) fun h₄ t1 hk₄ x4 => ?_
  have hxL : s.heap.objs.size ≠ x := Ne.symm (Nat.ne_of_lt (Heap.lt_size hx))
  have k4 : ∀ b o, b ≠ x → h₁.get? b = some o → h₄.get? b = some o := fun b o hb e => hk₄ b o hb (hk₃ b o (hk₂ b o e))
  have ns4 : h₄.Ns s.heap.objs.size (fun y => ((["self", fname] : List Str).zip [Value.ref x, u]).reverse.lookup y) := by
    obtain ⟨oL, es, ep, hL, rL⟩ := hns
    exact ⟨oL, es, ep, k4 _ _ hxL hL, rL⟩
  have K4 : K.In h₄ := fun b o e => k4 b o (fun z => by
    subst z
    have e1 := e0.mod.kin b o e
    have e2 := (e0.bs b o e1).2
    rw [ex] at e2
    cases e2) (K1 b o e)
  show PySem.wpAt _ _ _ (execs _ _) _ _ _
  refine ks_wpAt_execs_cons (ks_wpAt_Assign_Attr (wpAt_of_wpAny (wpAny_Name (wpAny_loadName_local T.kind T.kf ns4 m2 (wpAny_Name (wpAny_loadName_local T.kind T.ka ns4 m1 ?_))) hf1)))
  refine set_plain K4 (ox := excObj C t1 none .none) (od := none) ⟨x4, rfl, rfl, trivial⟩ T.oex.sa ?_
  refine PySem.HandSPX.exc_osa K4 x4 hcl (by rw [hmro]; exact hbm) hhd T.no (fun h₅ tk' dx k5 dn dne hx5 hn5 => ?_)
  show PySem.wpAt _ _ _ (execs [] _) _ _ _
  refine wpAt_of_wpAny (wpAny_pure ?_)
  show CE outer P w H s Q .none _
  have k15 : ∀ b o, b ≠ x → s.heap.get? b = some o → h₅.get? b = some o := fun b o hb e => k5 b o hb (k4 b o hb (hk₁ b o e))
  have hsz : s.heap.objs.size ≤ dx := by
    have h1 : s.heap.objs.size < h₄.objs.size := by
      obtain ⟨oL, es, ep, hL, rL⟩ := ns4
      exact Heap.lt_size hL
    exact Nat.le_trans (Nat.le_of_lt h1) dn
  have hnd : H dx = none := e0.hok.fresh hsz
  have nd : ∀ {b : Addr} {o : Obj}, s.heap.get? b = some o → b ≠ dx := fun {b o} q => Nat.ne_of_lt (Nat.lt_of_lt_of_le (Heap.lt_size q) hsz)
  have na : ∀ {b : Addr}, H b = none → b ≠ x := fun {b} n z => by
    rw [z, ex] at n
    cases n
  have Un1 : Un (frs outer) [] H (upd (upd H dx (exd dx [(fname, v)])) x (exo x C (some dx))) s.heap h₅ := {
    keep := fun b o q n _ _ => k15 b o (na n) q
    slot := fun b o q n _ _ => ⟨o.slots, k15 b o (na n) q⟩
    free := fun b o q n _ => (upd_ne (na n)).trans ((upd_ne (nd q)).trans n)
    there := fun b o q _ => by
      by_cases hb : b = x
      · exact ⟨_, by rw [hb]; exact hx5⟩
      · exact ⟨o, k15 b o hb q⟩
    tups := fun b xs q => by rw [upd_ne (at_ne ex q exo_tup), upd_ne (ne_of_none q hnd)]; exact q
    frzs := fun b o v q => by rw [upd_ne (at_ne ex q exo_frz), upd_ne (ne_of_none q hnd)]; exact q
    tbls := fun b ps q => ⟨#[], by rw [upd_ne (at_ne ex q exo_tbl), upd_ne (ne_of_none q hnd), q]; simp⟩ }
  refine ⟨.non, _, rfl, e0.bare, Un1, fun b o q => ?_, rfl, hQ dx hnd dne⟩
  by_cases hb : b = x
  · subst hb
    rw [upd_same] at q
    cases q
    exact exo_ok hx5
  · rw [upd_ne hb] at q
    by_cases hd : b = dx
    · subst hd
      rw [upd_same] at q
      cases q
      exact exd_ok hn5 (relO_put (fs := []) rv fun g => True.intro)
    · rw [upd_ne hd] at q
      exact (e0.hok b o q).stay (fun c v hc z => k15 c v (by
          rcases hc with hc | hc
          · rw [hc]
            exact hb
          · exact at_ne ex hc exo_own) z)
        (fun c hc => by rw [upd_ne (at_ne ex hc exo_own), upd_ne (ne_of_none hc hnd)]; exact hc) (fun c xs hc => by rw [upd_ne (at_ne ex hc exo_tup), upd_ne (ne_of_none hc hnd)]; exact hc)
end XI
set_option Elab.async false
set_option linter.all false
set_option maxRecDepth 100000
set_option maxHeartbeats 2000000
set_option autoImplicit false
/-! A caught exception that is kept beyond its except suite. -/
namespace XI
open PySem L2
/-- at a stands an exception of the class cls with the dict d -/
def StandsAt (a : Addr) (cls : Value) (d : Option Addr) (h : Heap) : Prop := ∃ (o : Obj) (vs : Array Value), h.get? a = some o ∧ o.cls = cls ∧ o.dict = d ∧ o.data = .fields vs
def exh (a : Addr) (cls : Value) (d : Option Addr) : HO := .ext (StandsAt a cls d)
theorem exh_ok {P : Program} {w : World} {H : Hp} {h : Heap} {a : Addr} {cls : Value} {d : Option Addr} (st : StandsAt a cls d h) : ObjOk P w H h a (exh a cls d) := by
  refine ⟨st, ?_, ?_⟩
  · obtain ⟨o, _, e, _⟩ := st; exact ⟨o, e⟩
  · rintro g1 g2 ⟨o, vs, e, r⟩ k; exact ⟨o, vs, k o e, r⟩
theorem exh_at {P : Program} {w : World} {H : Hp} {h : Heap} {a : Addr} {cls : Value} {d : Option Addr} (ok : HOk P w H h) (e : H a = some (exh a cls d)) : StandsAt a cls d h :=
  (show ObjOk P w H h a (.ext (StandsAt a cls d)) from ok a _ e).1
/-- a state right behind the catch of the exception at a -/
structure Caught (X : Cx) (pins : List (Addr × Obj)) (σ : St) (H : Hp) (a : Addr) (cls : Value) (d : Option Addr) (s : Shared) : Prop where
  inv : Inv X pins σ H s
  st : StandsAt a cls d s.heap
  un : H a = none
  n0 : X.s_0.heap.get? a = none
  nL : a ≠ X.env.locals
  nC : ∀ y c, X.env.cells.lookup y = some c → c ≠ a
  nP : ∀ q ∈ X.pn ++ pins, q.1 ≠ a
section
variable {X : Cx} {pins : List (Addr × Obj)} {σ : St} {H : Hp} {s : Shared} {a : Addr} {cls : Value} {d : Option Addr}
theorem Caught.other (c : Caught X pins σ H a cls d s) {b : Addr} {o : HO} (h : H b = some o) : (upd H a (exh a cls d)) b = some o := by
  rw [upd_ne (fun e => by rw [e, c.un] at h; cases h)]
  exact h
/-- from now on it is one of the things that stand -/
theorem Caught.kept (c : Caught X pins σ H a cls d s) : Inv X pins σ (upd H a (exh a cls d)) s := by
  have I := c.inv
  have un : Un X.fs X.ex X.H_0 (upd H a (exh a cls d)) X.s_0.heap s.heap := by
    constructor
    · exact I.base.keep
    · exact I.base.slot
    · intro b o e n m
      have : b ≠ a := by rintro rfl; rw [c.n0] at e; cases e
      rw [upd_ne this]; exact I.base.free b o e n m
    · exact I.base.there
    · exact fun b l e => c.other (I.base.tups b l e)
    · exact fun b o u e => c.other (I.base.frzs b o u e)
    · intro b l e
      obtain ⟨more, e2⟩ := I.base.tbls b l e
      exact ⟨more, c.other e2⟩
  have ok : HOk X.prog X.w (upd H a (exh a cls d)) s.heap := by
    intro b o e
    rcases Classical.em (b = a) with rfl | n
    · rw [upd_same] at e; cases e; exact exh_ok c.st
    · rw [upd_ne n] at e
      exact (I.hok b o e).stay (fun _ _ _ k => k) (fun _ k => c.other k) fun _ _ k => c.other k
  constructor
  case ok => exact I.ok
  case os => exact I.os
  case bare => exact I.bare
  case base => exact un
  case loc => exact I.loc
  case cell => exact I.cell
  case free => rw [upd_ne (Ne.symm c.nL)]; exact I.free
  case freeC => intro y k e; rw [upd_ne (c.nC y k e)]; exact I.freeC y k e
  case pin => intro q m; rw [upd_ne (c.nP q m)]; exact I.pin q m
  case hok => exact ok
  case len => exact I.len
/-- into a suite, out of it -/
theorem suite_in (I : Inv X pins σ H s) (a : Addr) : Inv (X.suite a (X.pn ++ pins)) [] σ H s := by
  constructor
  case ok => exact I.ok.suite a (X.pn ++ pins)
  case pin => intro q m; rw [List.append_nil] at m; exact I.pin q m
  all_goals first | exact I.os | exact I.bare | exact I.base | exact I.loc | exact I.cell | exact I.free | exact I.freeC | exact I.hok | exact I.len
theorem suite_out {more : List (Addr × Obj)} (ok : X.Ok) (I : Inv (X.suite a (X.pn ++ pins)) more σ H s) : Inv X pins σ H s := by
  constructor
  case ok => exact ok
  case pin => intro q m; exact I.pin q (List.mem_append.mpr (.inl m))
  all_goals first | exact I.os | exact I.bare | exact I.base | exact I.loc | exact I.cell | exact I.free | exact I.freeC | exact I.hok | exact I.len
end
/-- the ends of a suite: its name goes -/
def without (i : Nat) (D : Ends) : Ends := { nx := fun σ H => D.nx (σ.set i none) H, rt := D.rt, bk := fun σ H => D.bk (σ.set i none) H, ct := fun σ H => D.ct (σ.set i none) H }
/-- what is wished of an exception of the body: the clause takes it, it stands from then on -/
def wKeep (K : PySem.W.Frag) (c : Value) (i : Nat) (ts : TS) (D : Ends) : WX := fun cls d σ H => PySem.W.exmOne K cls c = some true ∧ ∀ a, H a = none → ts (without i D) (σ.set i (some (.ref a))) (upd H a (exh a cls d))
section
variable {X : Cx} {x n : Str} {c : Value} {i : Nat} {body bs : List Stmt} {b : Stmt} {np pos ep : Pos} {tb : WX → TS} {ts : TS}
/-- what lies on the ground is not the exception in the air -/
theorem apart {B : Heap} {a : Addr} {Z : Obj → Prop} {h : Heap} {sI : Shared} (own : X.stack = X.env :: X.outer) (fl : HandSPX.FlyingZ B (X.env :: X.outer) a Z h) (gr : ∀ b o, sI.heap.get? b = some o → b ∉ frs X.stack → B.get? b = some o) : a ∉ frs (X.env :: X.outer) ∧ sI.heap.get? a = none := by
  have nf : a ∉ frs (X.env :: X.outer) := by
    intro m
    obtain ⟨o1, v1, e1, _, dd⟩ := fl.there
    obtain ⟨_, o2, e2, no⟩ := fl.2.2.1.mem m
    rw [e1] at e2
    cases e2
    exact no v1 dd
  refine ⟨nf, ?_⟩
  rcases e : sI.heap.get? a with _ | o
  · rfl
  · have := gr a o e (by rw [own]; exact nf)
    rw [fl.2.1] at this
    cases this
theorem try_keep (own : X.stack = X.env :: X.outer) (fr : X.env.frame = some X.env.locals) (noex : X.ex = []) (nd : X.N.Nodup) (slot : X.N[i]? = some n) (isl : X.env.kindOf n = some .local) (gl : Gl X x) (db : (x == ("__debug__" : Str)) = false) (cn : X.mg x = some c)
    (tryB : ∀ (W : WX) (pn : List (Addr × Obj)) (xe : Value → Shared → Prop), Takes (X.tr pn xe) W → PSs (X.tr pn xe) body (tb W)) (suiteB : ∀ (a : Addr) (pn : List (Addr × Obj)), PSs (X.suite a pn) (b :: bs) ts) :
    PS X (.Try body [.ExceptHandler (some (.Name x np)) (some n) (b :: bs) ep] [] [] pos) (fun D σ H => tb (wKeep X.K c i ts D) D σ H) := by
  constructor
  intro pins s σ H D inv want
  have okX := inv.ok
  have frs' : X.A.frames = some (X.env :: X.outer) := own ▸ okX.frames
  refine wpAny_Try_except (wpAny_mono ((tryB (wKeep X.K c i ts D) (X.pn ++ pins) _ ?caught).run [] s σ H D (inv.toTry _) want) ?through fun _ _ z => z)
  case through =>
    intro fl t sp
    match fl, sp with
    | .next, ⟨σ1, H1, J, q⟩ => exact wpAny_execs_nil ⟨σ1, H1, J.ofTry okX, q⟩
    | .brk, ⟨σ1, H1, J, q⟩ => exact ⟨σ1, H1, J.ofTry okX, q⟩
    | .cont, ⟨σ1, H1, J, q⟩ => exact ⟨σ1, H1, J.ofTry okX, q⟩
    | .ret u, ⟨v, σ1, H1, J, r, q⟩ => exact ⟨v, σ1, H1, J.ofTry okX, r, q⟩
  case caught =>
    rintro u t ⟨a, B, sI, pins1, σ1, H1, cls, d, rfl, J1, gr, upS, sky, un, eos, bare, hit, wish⟩
    have J : Inv X pins σ1 H1 sI := J1.ofTry okX
    rw [own] at sky
    refine Sky.land Zc.steady frs' fr sky fun h3 fl3 up3 => ?_
    obtain ⟨nf, nI⟩ := apart own fl3 gr
    have state : ∀ h, HandSPX.FlyingZ B (X.env :: X.outer) a (Zc cls d) h → sI.heap.UpToSlots h → Caught X pins σ1 H1 a cls d { t with heap := h } := fun h fl up => by
      obtain ⟨o, vs, e, z, dd⟩ := fl.there
      refine ⟨J.landed gr fl.1 up eos bare, ⟨o, vs, e, z.1, z.2, dd⟩, un, ?_, fun e => nf ?_, fun y k m e => ?_, fun q m e => ?_⟩
      · rcases e0 : X.s_0.heap.get? a with _ | o0
        · rfl
        · obtain ⟨_, e1⟩ := J.base.there a o0 e0 (by rw [noex]; intro m; cases m)
          rw [nI] at e1; cases e1
      · exact List.mem_filterMap.mpr ⟨X.env, List.mem_cons_self, by rw [fr, e]⟩
      · obtain ⟨_, _, e1, _⟩ := J.cell y k m
        rw [e, nI] at e1; cases e1
      · have e1 := (J.pin q m).1
        rw [e, nI] at e1; cases e1
    have C3 := state h3 fl3 (upS.trans up3)
    obtain ⟨o3, _, at3, cl3, _⟩ := C3.st
    have isA : PySem.W.Looks (model X.prog X.w) h3 (typeOf (.ref a)) cls := by
      intro A1 Q1 E1 s1 k q
      exact wpAny_typeOf_ref (k _ _ at3) (by rw [cl3]; exact q)
    refine wpAny_handleBy_cons (codeAny_handlers_test (ld_glob (X := X.suite a (X.pn ++ pins)) (suite_in C3.inv a) gl cn ((PySem.W.exm_one C3.inv.kIn isA hit).here ?_) db)) (by rintro ⟨⟩)
    refine codeAny_handlers_suite_as (HandSPX.lands_againZ fl3 fun h4 fl4 up4 => ?_)
    have C4 := state h4 fl4 ((upS.trans up3).trans up4)
    refine store_ok (X := X.suite a (X.pn ++ pins)) (v := .ref a) (suite_in C4.kept a) nd slot (.inl isl) rfl (fun s5 S5 => ?_) (.inr isl)
    refine wpAny_mono ((suiteB a (X.pn ++ pins)).run [] s5 _ _ _ S5 (wish a un)) (fun fl t6 sp => ?_) fun _ _ z => z.elim
    match fl, sp with
    | .next, ⟨σ6, H6, S6, q⟩ => exact gone_ok (suite_out okX S6) nd slot isl fun s7 J7 => ⟨_, _, J7, q⟩
    | .brk, ⟨σ6, H6, S6, q⟩ => exact gone_ok (suite_out okX S6) nd slot isl fun s7 J7 => ⟨_, _, J7, q⟩
    | .cont, ⟨σ6, H6, S6, q⟩ => exact gone_ok (suite_out okX S6) nd slot isl fun s7 J7 => ⟨_, _, J7, q⟩
    | .ret u, ⟨v6, σ6, H6, S6, r6, q⟩ => exact gone_ok (suite_out okX S6) nd slot isl fun s7 J7 => ⟨_, _, _, J7, r6, q⟩
end
/-! ### a kept exception's field, its kind -/
section
variable {X : Cx}
theorem inst_kept {pins : List (Addr × Obj)} {σ : St} {H : Hp} {s : Shared} {a C dd : Addr} {fs : List (Str × V)} (I : Inv X pins σ H s) (ea : H a = some (exh a (.ref C) (some dd))) (ed : H dd = some (.xd fs)) :
    ∃ (oe od : Obj) (mA : Str → Option Value), PySem.W.InstAt s.heap a oe C (some od) ∧ (∀ y, PySem.W.lookIn y od = some (mA y)) ∧ ∀ f, RelO (fs.lookup f) (mA f) := by
  obtain ⟨oe, vs, h1, h2, h3, h4⟩ := exh_at I.hok ea
  obtain ⟨mA, ns, rel⟩ := (show ObjOk X.prog X.w H s.heap dd (.xd fs) from I.hok dd _ ed)
  obtain ⟨od, hod, hl⟩ := lookIn_ns ns
  refine ⟨oe, od, mA, ⟨h1, h2, ?_, ?_⟩, hl, rel⟩
  · unfold PySem.W.notCls; rw [h4]
  · rw [h3]; exact hod
def tXh (K : PySem.W.Frag) (f : Str) (te : TE) : TE := fun σ H Q => te σ H fun x H1 => ∃ (a C dd : Addr) (fs : List (Str × V)) (v : V), x = .ref a ∧ H1 a = some (exh a (.ref C) (some dd)) ∧ XfC K C ∧ PySem.W.findIn K (.ref C) f = some none ∧ H1 dd = some (.xd fs) ∧ fs.lookup f = some v ∧ Q v H1
theorem pe_xh {e : Expr} {te : TE} {pos : Pos} {f : Str} (he : PE X e te) (hb : attributeBase e f X.env (eval e X.env) = eval e X.env) : PE X (.Attribute e f pos) (tXh X.K f te) := by
  constructor
  intro pins s σ H Q I h
  apply attr_of hb
  apply thn (he.run pins s σ H _ I h)
  rintro u t ⟨x, H1, J, rx, a, C, dd, fs, v, rfl, ea, T, no, ed, lk, q⟩
  have rx : u = Value.ref a := rx
  rw [rx]
  obtain ⟨oe, od, mA, inst, look, rel⟩ := inst_kept J ea ed
  have rf := rel f
  rw [lk] at rf
  obtain ⟨u2, e2, r2⟩ := RelO.some_of rf
  exact HandSPX.exc_get J.kIn inst T.ga T.gg T.exC (PySem.W.findObj_own T.hdC no rfl (by rw [look f, e2])) (handed_of r2) ⟨v, H1, J.tok _, r2, q⟩
/-- what isinstance asks of the class -/
structure XhC (K : PySem.W.Frag) (D : Addr) : Prop where
  xf : XfC K D
  c1 : PySem.W.findIn K (.ref D) "__class__" = some (some (.builtin "object.__class__"))
  c2 : PySem.W.specialIn K (.builtin "object.__class__") "__get__" = some (some (.builtin "getset_descriptor.__get__"))
  c3 : PySem.W.takesIn K (.builtin "object.__class__") = some true
  c4 : PySem.W.mroIn K D (.type "object") = some true
def rIsH (K : PySem.W.Frag) : List V → Hp → VK → Prop := fun xs H Q => ∃ (a D : Addr) (dd : Addr) (fs : List (Str × V)) (c : V) (cv : Value) (b : Bool), xs = [.ref a, c] ∧ H a = some (exh a (.ref D) (some dd)) ∧ H dd = some (.xd fs) ∧ XhC K D ∧ (∀ u, RelV c u → u = cv) ∧ PySem.W.kitOne K (.ref D) cv = some b ∧ Q (.bl b) H
theorem call_isH : CallR X (.builtin "isinstance") (rIsH X.K) := by
  rintro pins s σ H xs us Q I r ⟨a, D, dd, fs, c, cv, b, rfl, ea, ed, C, hcv, e, q⟩
  obtain ⟨u, rfl⟩ : ∃ u, us = [.ref a, u] := by
    rcases r with _ | ⟨r1, _ | ⟨r2, _ | _⟩⟩
    have r1 : _ = Value.ref a := r1
    rw [r1]; exact ⟨_, rfl⟩
  rcases r with _ | ⟨_, _ | ⟨r2, _⟩⟩
  rw [hcv _ r2]
  obtain ⟨oe, od, mA, inst, _, _⟩ := inst_kept I ea ed
  obtain ⟨cd, hcd, _⟩ := PySem.W.any_some C.xf.hdC
  refine PySem.W.kia_one (PySem.W.kitx_exc (by rw [hcd]; rfl) C.xf.ga C.xf.gg C.xf.exC C.c1 C.c2 C.c3 C.c4) I.kIn inst e (by rintro ⟨⟩) fun tk => ⟨.bl b, H, ?_, rfl, q⟩
  exact I.kept (t' := tk) fun _ _ z => z
end
end XI
set_option Elab.async false
set_option linter.all false
set_option maxRecDepth 100000
set_option maxHeartbeats 1000000
set_option autoImplicit false
/-! dicts whose keys are None, bools, numbers, texts, tuples of these, mixed: at the heap's level. -/
namespace OddD
open PySem
/-- the key at place j -/
def KeyAt (h : Heap) (nks : List NestedKey) (es : Array DictEntry) : Prop := NestedAll h nks (es.toList.map (·.key))
structure Tab (w : World) (h : Heap) (d : Addr) (nks : List NestedKey) (es : Array DictEntry) (ep : Nat) : Prop where
  obj : ∃ o, h.get? d = some o ∧ o.ExactDict ∧ o.data = .dict es ep
  hsh : es.toList.map (·.hash) = nks.map (NestedKey.hash w)
  key : KeyAt h nks es
  nd : nks.Nodup
  dep : ∀ k ∈ nks, k.depth ≤ 8
section
variable {P : Program} {w : World} {A : Around} {E : Value → Shared → Prop} {s : Shared} {h : Heap} {d : Addr} {nks : List NestedKey} {es : Array DictEntry} {ep : Nat}
theorem all_get : ∀ {ks : List NestedKey} {vs : List Value} {j : Nat} {v : Value}, NestedAll h ks vs → vs[j]? = some v → ∃ k, ks[j]? = some k ∧ NestedIs h k v
  | _, _, _, _, .nil, e => by simp at e
  | _, _, 0, _, .cons a b, e => by cases e; exact ⟨_, rfl, a⟩
  | _, _, j + 1, _, .cons a b, e => all_get (j := j) b e
theorem Tab.len (t : Tab w h d nks es ep) : es.size = nks.length := by
  have := congrArg List.length t.hsh
  simpa using this
theorem Tab.at (t : Tab w h d nks es ep) {j : Nat} {e : DictEntry} (hj : es[j]? = some e) : ∃ k, nks[j]? = some k ∧ NestedIs h k e.key ∧ e.hash = k.hash w ∧ k.depth ≤ 8 := by
  have h1 : es.toList[j]? = some e := by rw [Array.getElem?_toList]; exact hj
  obtain ⟨k, hk, hi⟩ := all_get (j := j) (v := e.key) t.key (by rw [List.getElem?_map, h1]; rfl)
  refine ⟨k, hk, hi, ?_, t.dep k (List.mem_of_getElem? hk)⟩
  have h2 := congrArg (·[j]?) t.hsh
  simp only [List.getElem?_map, h1, hk] at h2
  exact Option.some.inj h2
theorem Tab.ent (t : Tab w h d nks es ep) {j : Nat} {k : NestedKey} (hk : nks[j]? = some k) : ∃ e, es[j]? = some e := by
  have hl := t.len
  have := (List.getElem?_eq_some_iff.mp hk).1
  exact ⟨es[j]'(by omega), Array.getElem?_eq_getElem (by omega)⟩
theorem nd_eq {i j : Nat} {k : NestedKey} (nd : nks.Nodup) (a : nks[i]? = some k) (b : nks[j]? = some k) : i = j :=
  (List.getElem?_inj (List.getElem?_eq_some_iff.mp a).1 nd).mp (a.trans b.symm)
/-- the places of one hash -/
theorem place_mem {n : Nat} {f : Nat → Option Int} {x : Int} {j : Nat} : j ∈ placesWithHash n f x ↔ j < n ∧ f j = some x := by
  unfold placesWithHash
  rw [List.mem_filter, List.mem_range]
  simp
theorem Tab.place (t : Tab w h d nks es ep) {k : NestedKey} {j : Nat} (hk : nks[j]? = some k) : j ∈ placesWithHash es.size (fun i => es[i]?.map (·.hash)) (k.hash w) := by
  obtain ⟨e, he⟩ := t.ent hk
  obtain ⟨k', h1, _, h3, _⟩ := t.at he
  rw [hk] at h1
  cases h1
  refine place_mem.mpr ⟨(Array.getElem?_eq_some_iff.mp he).1, ?_⟩
  rw [he]
  exact congrArg some h3
theorem place_nd {n : Nat} {f : Nat → Option Int} {x : Int} : (placesWithHash n f x).Nodup := List.Nodup.sublist List.filter_sublist List.nodup_range
theorem eq_key {x y : NestedKey} {a b : Value} {Q : Bool → Shared → Prop} (hu : A.units + 8 < cLine) (hx : NestedIs s.heap x a) (hy : NestedIs s.heap y b) (dx : x.depth ≤ 8) (h : Q (decide (x = y)) s) : wpAny (model P w) A (eqBool a b) Q E s :=
  eqAt_key x y A s _ _ hx hy (Nat.lt_of_le_of_lt (Nat.add_le_add_left (Nat.le_trans (Nat.min_le_left _ _) dx) _) hu) _ _ _ _ (by rw [← NestedKey.decide_eq]; exact h)
theorem quiet {k : NestedKey} {v : Value} {Q : Bool → Shared → Prop} (hk : NestedIs s.heap k v) (dk : k.depth ≤ 8) (h : Q true s) : wpAny (model P w) A (eqIsQuiet 8 v) Q E s := quiet_key k v 8 s hk dk A E Q h
theorem may_tell {k : NestedKey} {v : Value} {Q : Bool → Shared → Prop} (hk : NestedIs s.heap k v) (dk : k.depth ≤ 8) {vs : List Value} (hv : ∀ u ∈ vs, ∃ k', NestedIs s.heap k' u ∧ k'.depth ≤ 8) (h : Q false s) : wpAny (model P w) A (tableMayTell v vs) Q E s := by
  unfold tableMayTell
  split
  · exact wpAny_pure h
  · refine wpAny_bind (quiet hk dk ?_)
    rw [if_neg (by simp)]
    refine wpAny_bind ?_
    refine wpAny_forIn_list _ (fun l r s' => s' = s ∧ r = (none, ()) ∧ ∀ u ∈ l, ∃ k', NestedIs s.heap k' u ∧ k'.depth ≤ 8) _ ?_ ?_ _ _ ⟨rfl, rfl, hv⟩
    · rintro u l r s' ⟨rfl, rfl, hl⟩
      obtain ⟨k', h1, h2⟩ := hl u List.mem_cons_self
      refine wpAny_bind (quiet h1 h2 ?_)
      rw [if_neg (by simp)]
      exact wpAny_pure ⟨rfl, rfl, fun z hz => hl z (List.mem_cons_of_mem _ hz)⟩
    · rintro r s' ⟨rfl, rfl, _⟩
      exact wpAny_pure h
theorem gone {k : NestedKey} {l : List Nat} (a : ∀ j, nks[j]? = some k → j ∈ l) (b : l = []) : k ∉ nks := fun c => by
  obtain ⟨j, hj⟩ := List.mem_iff_getElem?.mp c
  have := a j hj
  rw [b] at this
  cases this
theorem plain (hu : A.units + 8 < cLine) {k : NestedKey} {v : Value} (hk : NestedIs s.heap k v) (dk : k.depth ≤ 8) (t : Tab w s.heap d nks es ep) {Q : Option Nat → Shared → Prop}
    (h0 : k ∉ nks → Q none s) (h1 : ∀ j, nks[j]? = some k → Q (some j) s) : wpAny (model P w) A (dictWalkPlain d v (k.hash w) es (placesWithHash es.size (fun i => es[i]?.map (·.hash)) (k.hash w))) Q E s := by
  obtain ⟨o, ho, hx, hd⟩ := t.obj
  unfold dictWalkPlain
  refine wpAny_bind ?_
  refine wpAny_forIn_list _ (fun l r s' => s' = s ∧ r = (none, ()) ∧ ∀ j, nks[j]? = some k → j ∈ l) _ ?_ ?_ _ _ ⟨rfl, rfl, fun j hj => t.place hj⟩
  · rintro i l r s' ⟨rfl, rfl, hl⟩
    dsimp only
    have step : ∀ k', nks[i]? = some k' → k' ≠ k → ∀ j, nks[j]? = some k → j ∈ l := fun k' a b j hj => by
      rcases List.mem_cons.mp (hl j hj) with z | z
      · subst z; rw [hj] at a; cases a; exact absurd rfl b
      · exact z
    cases he : es[i]? with
    | none =>
      refine wpAny_pure ⟨rfl, rfl, fun j hj => ?_⟩
      rcases List.mem_cons.mp (hl j hj) with z | z
      · subst z
        obtain ⟨e, he2⟩ := t.ent hj
        rw [he] at he2; cases he2
      · exact z
    | some e =>
      obtain ⟨k', a, b, c, dd⟩ := t.at he
      dsimp only
      by_cases hh : (e.hash == k.hash w) = true
      · rw [if_pos hh]
        refine wpAny_bind (wpAny_dictEpoch ho hd (wpAny_bind (eq_key hu b hk dd (wpAny_bind (wpAny_dictEpoch ho hd ?_)))))
        rw [if_neg (by simp)]
        by_cases hkk : k' = k
        · subst hkk
          rw [decide_eq_true rfl]
          exact wpAny_bind (wpAny_rule (wpAny_pure (wpAny_pure (h1 i a))))
        · rw [decide_eq_false hkk]
          exact wpAny_bind (wpAny_rule (wpAny_pure ⟨rfl, rfl, step k' a hkk⟩))
      · rw [if_neg hh]
        refine wpAny_pure ⟨rfl, rfl, step k' a fun z => hh ?_⟩
        rw [c, z]; simp
  · rintro r s' ⟨rfl, rfl, hl⟩
    exact wpAny_pure (h0 (gone hl rfl))
theorem by_if {α : Type} {M : Model} {c : Prop} [Decidable c] {a b : Sem α} {Q : α → Shared → Prop} (h1 : c → wpAny M A a Q E s) (h2 : ¬ c → wpAny M A b Q E s) : wpAny M A (if c then a else b) Q E s := by
  split
  · exact h1 ‹_›
  · exact h2 ‹_›
/-- where the key stands -/
theorem find (hu : A.units + 8 < cLine) {k : NestedKey} {v : Value} (hk : NestedIs s.heap k v) (dk : k.depth ≤ 8) (t : Tab w s.heap d nks es ep) {Q : Option Nat → Shared → Prop}
    (h0 : k ∉ nks → Q none s) (h1 : ∀ j, nks[j]? = some k → Q (some j) s) : wpAny (model P w) A (dictFind d v (k.hash w)) Q E s := by
  obtain ⟨o, ho, hx, hd⟩ := t.obj
  have stored : ∀ u ∈ (placesWithHash es.size (fun i => es[i]?.map (·.hash)) (k.hash w)).filterMap (fun i => es[i]?.map (·.key)), ∃ k', NestedIs s.heap k' u ∧ k'.depth ≤ 8 := by
    intro u hm
    obtain ⟨i, _, hi⟩ := List.mem_filterMap.mp hm
    cases he : es[i]? with
    | none => rw [he] at hi; cases hi
    | some e =>
      rw [he] at hi
      cases hi
      obtain ⟨k', _, h2, _, h4⟩ := t.at he
      exact ⟨k', h2, h4⟩
  have pl := plain (P := P) (E := E) hu hk dk t h0 h1
  have odd : ¬ (es.any fun e => e.key == v && e.hash != k.hash w) = true := by
    rw [← Array.any_toList, List.any_eq_true]
    rintro ⟨e, hin, hc⟩
    obtain ⟨j, hj⟩ := List.mem_iff_getElem?.mp hin
    rw [Array.getElem?_toList] at hj
    obtain ⟨k', _, b, c, _⟩ := t.at hj
    rw [Bool.and_eq_true, beq_iff_eq, bne_iff_ne] at hc
    rw [hc.1] at b
    exact hc.2 (by rw [c, NestedIs.inj _ _ _ b hk])
  unfold dictFind
  refine wpAny_holding (wpAny_bind (wpAny_dictEntries ho hd ?_))
  dsimp only
  by_cases hs : ∃ x u, v = .str x u
  · obtain ⟨x, u, rfl⟩ := hs
    dsimp only
    by_cases hall : (es.all fun e => isExactStrKey e.key) = true
    · rw [if_pos hall]
      have ek : k = .text x := by cases hk; rfl
      have own : ∀ {j : Nat} {e : DictEntry}, es[j]? = some e → (e.key.isStr x = true ↔ nks[j]? = some k) := fun {j e} he => by
        obtain ⟨k', a, b, _, _⟩ := t.at he
        have hst : isExactStrKey e.key = true := by
          rw [← Array.all_toList, List.all_eq_true] at hall
          exact hall e (by rw [Array.mem_toList_iff]; exact Array.mem_of_getElem? he)
        rw [a, ek]
        generalize e.key = z at b hst
        cases b with
        | text y u =>
          rw [Option.some.injEq, NestedKey.text.injEq]
          show (y == x) = true ↔ _
          rw [beq_iff_eq]
        | _ => cases hst
      unfold foundByValue
      cases hf : es.findIdx? (fun e => e.key.isStr x) with
      | none =>
        dsimp only
        refine wpAny_pure (h0 fun z => ?_)
        obtain ⟨j, hj⟩ := List.mem_iff_getElem?.mp z
        obtain ⟨e, he⟩ := t.ent hj
        have := Array.findIdx?_eq_none_iff.mp hf e (Array.mem_of_getElem? he)
        rw [(own he).mpr hj] at this
        cases this
      | some i =>
        obtain ⟨hlt, hi, _⟩ := Array.findIdx?_eq_some_iff_getElem.mp hf
        have he : es[i]? = some es[i] := Array.getElem?_eq_getElem hlt
        have hik := (own he).mp hi
        obtain ⟨k', a, b, c, dd⟩ := t.at he
        rw [hik] at a
        cases a
        dsimp only
        rw [he]
        dsimp only
        refine wpAny_bind (wpAny_dictEpoch ho hd (wpAny_bind (eq_key hu b hk dd (wpAny_bind (wpAny_dictEpoch ho hd ?_)))))
        rw [if_neg (by simp), decide_eq_true rfl, if_pos rfl]
        exact wpAny_bind (wpAny_rule (wpAny_pure (h1 i hik)))
    · rw [if_neg hall]
      refine by_if (fun _ => pl) fun hb => ?_
      · by_cases hone : ((placesWithHash es.size (fun i => es[i]?.map (·.hash)) (k.hash w)).filterMap (fun i => es[i]?.map (·.key)) == [Value.str x u]) = true <;>
        (first | rw [if_pos hone] | rw [if_neg hone]) <;> (first | refine wpAny_bind (wpAny_pure ?_) | refine wpAny_bind (may_tell hk dk stored ?_)) <;>
        (
          rw [if_neg (by simp)]
          refine wpAny_bind ?_
          refine wpAny_forIn_list _ (fun l r s' => s' = s ∧ l.Nodup ∧ ∃ hit : Option Nat, r = (none, hit) ∧ ((hit = none ∧ ∀ j, nks[j]? = some k → j ∈ l) ∨ ∃ j, hit = some j ∧ nks[j]? = some k ∧ j ∉ l)) _ ?_ ?_ _ _ ⟨rfl, place_nd, none, rfl, .inl ⟨rfl, fun j hj => t.place hj⟩⟩
          · rintro i l r s' ⟨rfl, nl, hit, rfl, hl⟩
            obtain ⟨ni, nl⟩ := List.nodup_cons.mp nl
            dsimp only
            have step : (∀ k', nks[i]? = some k' → k' ≠ k) → ((hit = none ∧ ∀ j, nks[j]? = some k → j ∈ l) ∨ ∃ j, hit = some j ∧ nks[j]? = some k ∧ j ∉ l) := fun a => by
              rcases hl with ⟨e0, hl⟩ | ⟨j, e0, e1, e2⟩
              · refine .inl ⟨e0, fun j hj => ?_⟩
                rcases List.mem_cons.mp (hl j hj) with z | z
                · subst z; exact absurd rfl (a k hj)
                · exact z
              · exact .inr ⟨j, e0, e1, fun z => e2 (List.mem_cons_of_mem _ z)⟩
            cases he : es[i]? with
            | none =>
              refine wpAny_pure ⟨rfl, nl, hit, rfl, step fun k' a => ?_⟩
              obtain ⟨e, he2⟩ := t.ent a
              rw [he] at he2; cases he2
            | some e =>
              obtain ⟨k', a, b, c, dd⟩ := t.at he
              dsimp only
              by_cases hh : (e.hash == k.hash w) = true
              · rw [if_pos hh]
                refine wpAny_bind (wpAny_dictEpoch ho hd (wpAny_bind (eq_key hu b hk dd (wpAny_bind (wpAny_dictEpoch ho hd ?_)))))
                rw [if_neg (by simp)]
                by_cases hkk : k' = k
                · subst hkk
                  rw [decide_eq_true rfl, if_pos rfl]
                  have hn : hit = none := by
                    rcases hl with ⟨e0, _⟩ | ⟨j, e0, e1, e2⟩
                    · exact e0
                    · exact absurd (by rw [nd_eq t.nd e1 a]; exact List.mem_cons_self) e2
                  subst hn
                  rw [if_neg (by simp)]
                  refine wpAny_bind (wpAny_rule ?_)
                  split
                  · exact wpAny_pure (wpAny_pure (h1 i a))
                  · exact wpAny_pure ⟨rfl, nl, some i, rfl, .inr ⟨i, rfl, a, ni⟩⟩
                · rw [decide_eq_false hkk, if_neg Bool.false_ne_true]
                  refine wpAny_bind (wpAny_rule ?_)
                  rw [if_neg (by simp)]
                  exact wpAny_pure ⟨rfl, nl, hit, rfl, step fun k2 a2 => by rw [a] at a2; cases a2; exact hkk⟩
              · rw [if_neg hh]
                refine wpAny_pure ⟨rfl, nl, hit, rfl, step fun k2 a2 z => hh ?_⟩
                rw [a] at a2; cases a2
                rw [c, z]; simp
          · rintro r s' ⟨rfl, nl, hit, rfl, hl⟩
            rcases hl with ⟨rfl, hl⟩ | ⟨j, rfl, e1, _⟩
            · exact wpAny_pure (h0 (gone hl rfl))
            · exact wpAny_pure (h1 j e1))
  by_cases hr : ∃ a, v = .ref a
  · obtain ⟨a, rfl⟩ := hr
    dsimp only
    rw [if_neg (by simp [carriedByValue]), if_neg odd]
    by_cases hone : ((placesWithHash es.size (fun i => es[i]?.map (·.hash)) (k.hash w)).filterMap (fun i => es[i]?.map (·.key)) == [Value.ref a]) = true <;>
    (first | rw [if_pos hone] | rw [if_neg hone]) <;> (first | refine wpAny_bind (wpAny_pure ?_) | refine wpAny_bind (may_tell hk dk stored ?_)) <;>
    (
      rw [if_neg (by simp)]
      refine wpAny_bind ?_
      refine wpAny_forIn_list _ (fun l r s' => s' = s ∧ l.Nodup ∧ ∃ hit : Option Nat, r = (none, hit) ∧ ((hit = none ∧ ∀ j, nks[j]? = some k → j ∈ l) ∨ ∃ j, hit = some j ∧ nks[j]? = some k ∧ j ∉ l)) _ ?_ ?_ _ _ ⟨rfl, place_nd, none, rfl, .inl ⟨rfl, fun j hj => t.place hj⟩⟩
      · rintro i l r s' ⟨rfl, nl, hit, rfl, hl⟩
        obtain ⟨ni, nl⟩ := List.nodup_cons.mp nl
        dsimp only
        have step : (∀ k', nks[i]? = some k' → k' ≠ k) → ((hit = none ∧ ∀ j, nks[j]? = some k → j ∈ l) ∨ ∃ j, hit = some j ∧ nks[j]? = some k ∧ j ∉ l) := fun a => by
          rcases hl with ⟨e0, hl⟩ | ⟨j, e0, e1, e2⟩
          · refine .inl ⟨e0, fun j hj => ?_⟩
            rcases List.mem_cons.mp (hl j hj) with z | z
            · subst z; exact absurd rfl (a k hj)
            · exact z
          · exact .inr ⟨j, e0, e1, fun z => e2 (List.mem_cons_of_mem _ z)⟩
        cases he : es[i]? with
        | none =>
          refine wpAny_pure ⟨rfl, nl, hit, rfl, step fun k' a => ?_⟩
          obtain ⟨e, he2⟩ := t.ent a
          rw [he] at he2; cases he2
        | some e =>
          obtain ⟨k', a, b, c, dd⟩ := t.at he
          dsimp only
          by_cases hh : (e.hash == k.hash w) = true
          · rw [if_pos hh]
            refine wpAny_bind (wpAny_dictEpoch ho hd (wpAny_bind (eq_key hu b hk dd (wpAny_bind (wpAny_dictEpoch ho hd ?_)))))
            rw [if_neg (by simp)]
            by_cases hkk : k' = k
            · subst hkk
              rw [decide_eq_true rfl, if_pos rfl]
              have hn : hit = none := by
                rcases hl with ⟨e0, _⟩ | ⟨j, e0, e1, e2⟩
                · exact e0
                · exact absurd (by rw [nd_eq t.nd e1 a]; exact List.mem_cons_self) e2
              subst hn
              rw [if_neg (by simp)]
              refine wpAny_bind (wpAny_rule ?_)
              split
              · exact wpAny_pure (wpAny_pure (h1 i a))
              · exact wpAny_pure ⟨rfl, nl, some i, rfl, .inr ⟨i, rfl, a, ni⟩⟩
            · rw [decide_eq_false hkk, if_neg Bool.false_ne_true]
              refine wpAny_bind (wpAny_rule ?_)
              rw [if_neg (by simp)]
              exact wpAny_pure ⟨rfl, nl, hit, rfl, step fun k2 a2 => by rw [a] at a2; cases a2; exact hkk⟩
          · rw [if_neg hh]
            refine wpAny_pure ⟨rfl, nl, hit, rfl, step fun k2 a2 z => hh ?_⟩
            rw [a] at a2; cases a2
            rw [c, z]; simp
      · rintro r s' ⟨rfl, nl, hit, rfl, hl⟩
        rcases hl with ⟨rfl, hl⟩ | ⟨j, rfl, e1, _⟩
        · exact wpAny_pure (h0 (gone hl rfl))
        · exact wpAny_pure (h1 j e1))
  split
  · exact absurd ⟨_, _, rfl⟩ hs
  · refine by_if (fun _ => pl) fun hb => ?_
    · split
      · exact absurd ⟨_, rfl⟩ hr
      · by_cases hone : ((placesWithHash es.size (fun i => es[i]?.map (·.hash)) (k.hash w)).filterMap (fun i => es[i]?.map (·.key)) == [v]) = true <;>
      (first | rw [if_pos hone] | rw [if_neg hone]) <;> (first | refine wpAny_bind (wpAny_pure ?_) | refine wpAny_bind (may_tell hk dk stored ?_)) <;>
      (
        rw [if_neg (by simp)]
        refine wpAny_bind ?_
        refine wpAny_forIn_list _ (fun l r s' => s' = s ∧ l.Nodup ∧ ∃ hit : Option Nat, r = (none, hit) ∧ ((hit = none ∧ ∀ j, nks[j]? = some k → j ∈ l) ∨ ∃ j, hit = some j ∧ nks[j]? = some k ∧ j ∉ l)) _ ?_ ?_ _ _ ⟨rfl, place_nd, none, rfl, .inl ⟨rfl, fun j hj => t.place hj⟩⟩
        · rintro i l r s' ⟨rfl, nl, hit, rfl, hl⟩
          obtain ⟨ni, nl⟩ := List.nodup_cons.mp nl
          dsimp only
          have step : (∀ k', nks[i]? = some k' → k' ≠ k) → ((hit = none ∧ ∀ j, nks[j]? = some k → j ∈ l) ∨ ∃ j, hit = some j ∧ nks[j]? = some k ∧ j ∉ l) := fun a => by
            rcases hl with ⟨e0, hl⟩ | ⟨j, e0, e1, e2⟩
            · refine .inl ⟨e0, fun j hj => ?_⟩
              rcases List.mem_cons.mp (hl j hj) with z | z
              · subst z; exact absurd rfl (a k hj)
              · exact z
            · exact .inr ⟨j, e0, e1, fun z => e2 (List.mem_cons_of_mem _ z)⟩
          cases he : es[i]? with
          | none =>
            refine wpAny_pure ⟨rfl, nl, hit, rfl, step fun k' a => ?_⟩
            obtain ⟨e, he2⟩ := t.ent a
            rw [he] at he2; cases he2
          | some e =>
            obtain ⟨k', a, b, c, dd⟩ := t.at he
            dsimp only
            by_cases hh : (e.hash == k.hash w) = true
            · rw [if_pos hh]
              refine wpAny_bind (wpAny_dictEpoch ho hd (wpAny_bind (eq_key hu b hk dd (wpAny_bind (wpAny_dictEpoch ho hd ?_)))))
              rw [if_neg (by simp)]
              by_cases hkk : k' = k
              · subst hkk
                rw [decide_eq_true rfl, if_pos rfl]
                have hn : hit = none := by
                  rcases hl with ⟨e0, _⟩ | ⟨j, e0, e1, e2⟩
                  · exact e0
                  · exact absurd (by rw [nd_eq t.nd e1 a]; exact List.mem_cons_self) e2
                subst hn
                rw [if_neg (by simp)]
                refine wpAny_bind (wpAny_rule ?_)
                split
                · exact wpAny_pure (wpAny_pure (h1 i a))
                · exact wpAny_pure ⟨rfl, nl, some i, rfl, .inr ⟨i, rfl, a, ni⟩⟩
              · rw [decide_eq_false hkk, if_neg Bool.false_ne_true]
                refine wpAny_bind (wpAny_rule ?_)
                rw [if_neg (by simp)]
                exact wpAny_pure ⟨rfl, nl, hit, rfl, step fun k2 a2 => by rw [a] at a2; cases a2; exact hkk⟩
            · rw [if_neg hh]
              refine wpAny_pure ⟨rfl, nl, hit, rfl, step fun k2 a2 z => hh ?_⟩
              rw [a] at a2; cases a2
              rw [c, z]; simp
        · rintro r s' ⟨rfl, nl, hit, rfl, hl⟩
          rcases hl with ⟨rfl, hl⟩ | ⟨j, rfl, e1, _⟩
          · exact wpAny_pure (h0 (gone hl rfl))
          · exact wpAny_pure (h1 j e1))
/-- d[key] -/
theorem get (hu : A.units + 8 < cLine) {k : NestedKey} {v : Value} (hk : NestedIs s.heap k v) (dk : k.depth ≤ 8) (t : Tab w s.heap d nks es ep) {j : Nat} {e : DictEntry} (hj : nks[j]? = some k) (he : es[j]? = some e) {Q : Option Value → Shared → Prop}
    (h : Q (some e.val) { s with toks := s.toks + k.draws }) : wpAny (model P w) A (dictGet d v) Q E s := by
  obtain ⟨o, ho, hx, hd⟩ := t.obj
  unfold dictGet
  refine wpAny_holding (wpAny_bind (pyHash_key k v A s _ hk (by omega) ?_))
  refine wpAny_bind (find (s := { s with toks := s.toks + k.draws }) hu hk dk t (fun z => absurd (List.mem_of_getElem? hj) z) fun i hi => ?_)
  rw [nd_eq t.nd hi hj]
  refine wpAny_bind (wpAny_dictEntries (s := { s with toks := s.toks + k.draws }) ho hd ?_)
  rw [he]
  exact wpAny_pure h
/-- the table behind a store -/
def putT (w : World) (nks : List NestedKey) (es : Array DictEntry) (k : NestedKey) (v x : Value) : List NestedKey × Array DictEntry :=
  match nks.idxOf? k with
  | some j => (nks, es.modify j fun e => { e with val := x })
  | none => (nks ++ [k], es.push ⟨k.hash w, v, x⟩)
theorem Tab.stay {h' : Heap} (t : Tab w h d nks es ep) (k : ∀ b o, h.get? b = some o → h'.get? b = some o) : Tab w h' d nks es ep :=
  ⟨let ⟨o, a, b⟩ := t.obj; ⟨o, k _ _ a, b⟩, t.hsh, NestedAll.at (fun a o _ _ e _ => k a o e) _ _ t.key, t.nd, t.dep⟩
theorem modify_map {β : Type} (f : DictEntry → β) (j : Nat) (g : DictEntry → DictEntry) (hg : ∀ e, f (g e) = f e) : ((es.modify j g).toList.map f) = es.toList.map f := by
  refine List.ext_getElem? fun i => ?_
  simp only [List.getElem?_map, Array.getElem?_toList, Array.getElem?_modify]
  split
  · cases es[i]? with
    | none => rfl
    | some e => exact congrArg some (hg e)
  · rfl
theorem all_snoc {h : Heap} : ∀ {ks : List NestedKey} {vs : List Value} {k : NestedKey} {v : Value}, NestedAll h ks vs → NestedIs h k v → NestedAll h (ks ++ [k]) (vs ++ [v])
  | _, _, _, _, .nil, a => .cons a .nil
  | _, _, _, _, .cons b c, a => .cons b (all_snoc c a)
theorem set (hu : A.units + 8 < cLine) {k : NestedKey} {v x : Value} (hk : NestedIs s.heap k v) (dk : k.depth ≤ 8) (t : Tab w s.heap d nks es ep) (hz : es.size ≤ sizeLine) {Q : Unit → Shared → Prop}
    (h : ∀ h' ep', Tab w h' d (putT w nks es k v x).1 (putT w nks es k v x).2 ep' → Heap.SameBut d s.heap h' → Q () { s with heap := h', toks := s.toks + k.draws }) : wpAny (model P w) A (dictSet d v x) Q E s := by
  obtain ⟨o, ho, hx, hd⟩ := t.obj
  have nk : ∀ (h' : Heap), Heap.SameBut d s.heap h' → ∀ {q : NestedKey} {u : Value}, NestedIs s.heap q u → NestedIs h' q u := fun h' sb q u z => NestedIs.at (fun b ob vs n e1 e2 => by
    refine (sb.2 b fun e => ?_).trans e1
    subst e
    rw [ho] at e1
    cases e1
    rw [hd] at e2
    cases e2) q u z
  have nks' : ∀ (h' : Heap), Heap.SameBut d s.heap h' → ∀ {q : List NestedKey} {u : List Value}, NestedAll s.heap q u → NestedAll h' q u := fun h' sb q u z => NestedAll.at (fun b ob vs n e1 e2 => by
    refine (sb.2 b fun e => ?_).trans e1
    subst e
    rw [ho] at e1
    cases e1
    rw [hd] at e2
    cases e2) q u z
  unfold dictSet
  refine wpAny_holding (wpAny_bind (pyHash_key k v A s _ hk (by omega) ?_))
  unfold dictSetHashed
  refine wpAny_holding (wpAny_bind (find (s := { s with toks := s.toks + k.draws }) hu hk dk t (fun hn => ?_) fun j hj => ?_))
  · refine wpAny_bind (wpAny_rule (wpAny_updateDictKeys (hz := hz) (s := { s with toks := s.toks + k.draws }) ho hd (h _ (ep + 1) ?_ (Heap.SameBut.update ..))))
    have e1 : nks.idxOf? k = none := List.idxOf?_eq_none_iff.mpr hn
    unfold putT
    rw [e1]
    refine ⟨⟨_, Heap.get?_update_self _ ho (Obj.isFreed_of_dict (Obj.data_mapDictKeys hd _)), hx.mapDictKeys _, Obj.data_mapDictKeys hd _⟩, ?_, ?_, ?_, ?_⟩
    · simp [t.hsh]
    · show NestedAll _ (nks ++ [k]) _
      rw [Array.toList_push, List.map_append]
      exact all_snoc (nks' _ (Heap.SameBut.update ..) t.key) (nk _ (Heap.SameBut.update ..) hk)
    · exact List.nodup_append.mpr ⟨t.nd, List.nodup_cons.mpr ⟨List.not_mem_nil, List.nodup_nil⟩, fun a ha b hb e => hn (by rw [← List.mem_singleton.mp hb, ← e]; exact ha)⟩
    · intro q hq
      rcases List.mem_append.mp hq with z | z
      · exact t.dep q z
      · rw [List.mem_singleton.mp z]; exact dk
  · refine wpAny_bind (wpAny_rule (wpAny_bind (wpAny_updateDict (s := { s with toks := s.toks + k.draws }) ho hd (wpAny_point (h _ ep ?_ (Heap.SameBut.update ..))))))
    have e1 : nks.idxOf? k = some j := by
      cases e : nks.idxOf? k with
      | none => exact absurd (List.mem_of_getElem? hj) (List.idxOf?_eq_none_iff.mp e)
      | some i =>
        have : nks[i]? = some k := by
          have := List.of_findIdx?_eq_some (p := (· == k)) e
          cases hq : nks[i]? with
          | none => rw [hq] at this; exact absurd this Bool.false_ne_true
          | some q => rw [hq] at this; rw [beq_iff_eq.mp this]
        rw [nd_eq t.nd this hj]
    unfold putT
    rw [e1]
    refine ⟨⟨_, Heap.get?_update_self _ ho (Obj.isFreed_of_dict (Obj.data_mapDict hd _)), hx.mapDict _, Obj.data_mapDict hd _⟩, ?_, ?_, t.nd, t.dep⟩
    · exact (modify_map (fun e => e.hash) j (fun e => { e with val := x }) fun e => rfl).trans t.hsh
    · show NestedAll _ nks ((es.modify j fun e => { e with val := x }).toList.map (·.key))
      rw [modify_map (fun e => e.key) j (fun e => { e with val := x }) fun e => rfl]
      exact nks' _ (Heap.SameBut.update ..) t.key
end
end OddD
set_option Elab.async false
set_option linter.all false
set_option maxRecDepth 100000
set_option maxHeartbeats 1000000
set_option autoImplicit false
/-! dicts of mixed keys, by values: made once, read only. -/
namespace OddD
open PySem L2 PyProof.Rows
mutual
inductive NkV (K : PySem.W.Frag) (H : Hp) : NestedKey → V → Prop
  | non : NkV K H .none .non
  | bl (b : Bool) : NkV K H (.num (if b = true then 1 else 0)) (.bl b)
  | int (i : Int) : NkV K H (.num i) (.int i)
  | str (x : Str) : NkV K H (.text x) (.str x)
  | tup {a : Addr} {ks : List NestedKey} {vs : List V} : SqT K H a vs → NkVs K H ks vs → NkV K H (.tup ks) (.ref a)
inductive NkVs (K : PySem.W.Frag) (H : Hp) : List NestedKey → List V → Prop
  | nil : NkVs K H [] []
  | cons {k : NestedKey} {v : V} {ks : List NestedKey} {vs : List V} : NkV K H k v → NkVs K H ks vs → NkVs K H (k :: ks) (v :: vs)
end
section
variable {X : Cx} {pins : List (Addr × Obj)} {σ : L2.St} {H : Hp} {s : Shared}
mutual
theorem NkV.is (I : Inv X pins σ H s) : ∀ {k : NestedKey} {v : V} {u : Value}, NkV X.K H k v → RelV v u → NestedIs s.heap k u
  | _, _, _, .non, r => by cases r; exact .none
  | _, _, _, .bl b, r => by cases r; exact .bool rfl
  | _, _, _, .int i, r => by obtain ⟨t, rfl⟩ := r; exact .int i t
  | _, _, _, .str x, r => by obtain ⟨t, rfl⟩ := r; exact .text x t
  | _, _, _, .tup h hs, r => by
    cases r
    obtain ⟨its, rv, ⟨o, e1, c, n, e2⟩, _⟩ := I.tuple h
    exact .tup e1 c e2 (by simpa using NkVs.are I hs rv)
theorem NkVs.are (I : Inv X pins σ H s) : ∀ {ks : List NestedKey} {vs : List V} {us : List Value}, NkVs X.K H ks vs → Vals vs us → NestedAll s.heap ks us
  | _, _, _, .nil, r => by cases r; exact .nil
  | _, _, _, .cons a b, r => by
    cases r with
    | cons r1 r2 => exact .cons (NkV.is I a r1) (NkVs.are I b r2)
end
end
def OddU (a : Addr) : HO := .ext fun h => ∃ o, h.get? a = some o
structure OddO (w : World) (o : Obj) (a : Addr) (nks : List NestedKey) (us ws : List V) : Prop where
  low : (a == sysModules) = false
  ex : o.ExactDict
  dat : ∃ (es : Array DictEntry) (ep : Nat), o.data = .dict es ep ∧ es.toList.map (·.hash) = nks.map (NestedKey.hash w) ∧ Vals us (es.toList.map (·.key)) ∧ Vals ws (es.toList.map (·.val))
  nd : nks.Nodup
  dep : ∀ k ∈ nks, k.depth ≤ 8
  few : nks.length ≤ 64
def Odd (K : PySem.W.Frag) (w : World) (H : Hp) (a : Addr) (o : Obj) (nks : List NestedKey) (us ws : List V) : Prop := H a = some (.frz o (OddU a)) ∧ OddO w o a nks us ws ∧ NkVs K H nks us
section
variable {X : Cx} {pins : List (Addr × Obj)} {σ : L2.St} {H : Hp} {s : Shared} {a : Addr} {o : Obj} {nks : List NestedKey} {us ws : List V}
theorem odd_at (I : Inv X pins σ H s) (h : Odd X.K X.w H a o nks us ws) : ∃ (es : Array DictEntry) (ep : Nat), s.heap.get? a = some o ∧ o.data = .dict es ep ∧ Tab X.w s.heap a nks es ep ∧ Vals us (es.toList.map (·.key)) ∧ Vals ws (es.toList.map (·.val)) := by
  obtain ⟨h1, h2, h3⟩ := h
  have e1 : s.heap.get? a = some o := (I.hok a _ h1).1
  obtain ⟨es, ep, e2, e3, e4, e5⟩ := h2.dat
  exact ⟨es, ep, e1, e2, ⟨⟨o, e1, h2.ex, e2⟩, e3, h3.are I e4, h2.nd, h2.dep⟩, e4, e5⟩
/-! ### dict(pairs) -/
abbrev T3 := List NestedKey × List V × List V
def pushV (t : T3) (q : NestedKey × V × V) : T3 := match t.1.idxOf? q.1 with
  | some j => (t.1, t.2.1, t.2.2.set j q.2.2)
  | none => (t.1 ++ [q.1], t.2.1 ++ [q.2.1], t.2.2 ++ [q.2.2])
def allV (t : T3) (qs : List (NestedKey × V × V)) : T3 := qs.foldl pushV t
def rOdd (K : PySem.W.Frag) (w : World) : List V → Hp → VK → Prop := fun xs H Q => ∃ (a : Addr) (ps : List Addr) (qs : List (NestedKey × V × V)), xs = [.ref a] ∧ SqL K H a (ps.map V.ref) ∧
  Paired (fun p q => SqT K H p [q.2.1, q.2.2] ∧ NkV K H q.1 q.2.1 ∧ q.1.depth ≤ 8) ps qs ∧ qs.length ≤ 64 ∧
  ∀ p o, H p = none → OddO w o p (allV ([], [], []) qs).1 (allV ([], [], []) qs).2.1 (allV ([], [], []) qs).2.2 → Q (.ref p) (upd H p (.frz o (OddU p)))
theorem prs_of (I : Inv X pins σ H s) : ∀ {ps : List Addr} {qs : List (NestedKey × V × V)}, Paired (fun p q => SqT X.K H p [q.2.1, q.2.2] ∧ NkV X.K H q.1 q.2.1 ∧ q.1.depth ≤ 8) ps qs →
    ∃ rs : List (NestedKey × Value × Value), Paired (fun (q : NestedKey × V × V) (r : NestedKey × Value × Value) => r.1 = q.1 ∧ RelV q.2.1 r.2.1 ∧ RelV q.2.2 r.2.2) qs rs ∧ (∀ r ∈ rs, NestedIs s.heap r.1 r.2.1 ∧ r.1.depth ≤ 8) ∧ rs.length = ps.length ∧
      ∀ (j : Nat) (r : NestedKey × Value × Value), rs[j]? = some r → ∃ b, ps[j]? = some b ∧ IsTup s.heap b #[r.2.1, r.2.2]
  | _, _, .nil => ⟨[], .nil, fun r h => (nomatch h), rfl, fun j q e => by simp at e⟩
  | _, _, .cons (a := p) (b := q) h t => by
    obtain ⟨rs, r, hk, hl, hp⟩ := prs_of I t
    obtain ⟨h1, h2, h3⟩ := h
    obtain ⟨its, rv, ht, _⟩ := I.tuple h1
    obtain ⟨u, y, ei, ru, ry⟩ := vals2 rv
    subst ei
    refine ⟨(q.1, u, y) :: rs, .cons ⟨rfl, ru, ry⟩ r, fun r hr => ?_, by rw [List.length_cons, List.length_cons, hl], fun j r e => ?_⟩
    · rcases List.mem_cons.mp hr with rfl | hr
      · exact ⟨h2.is I ru, h3⟩
      · exact hk r hr
    · cases j with
      | zero => cases e; exact ⟨p, rfl, ht⟩
      | succ j =>
        obtain ⟨b, e1, e2⟩ := hp j r (by simpa using e)
        exact ⟨b, by simpa using e1, e2⟩
/-- the tables on both sides -/
structure Both (w : World) (t : T3) (nks : List NestedKey) (es : Array DictEntry) : Prop where
  nk : t.1 = nks
  ks : Vals t.2.1 (es.toList.map (·.key))
  vs : Vals t.2.2 (es.toList.map (·.val))
theorem vals_set : ∀ {vs : List V} {us : List Value} {v : V} {u : Value} (j : Nat), Vals vs us → RelV v u → Vals (vs.set j v) (us.set j u)
  | _, _, _, _, _, .nil, _ => .nil
  | _, _, _, _, 0, .cons a b, r => .cons r b
  | _, _, _, _, j + 1, .cons a b, r => .cons a (vals_set j b r)
theorem Both.put {w : World} {t : T3} {nks : List NestedKey} {es : Array DictEntry} (b : Both w t nks es) {q : NestedKey × V × V} {u x : Value} (ru : RelV q.2.1 u) (rx : RelV q.2.2 x) : Both w (pushV t q) (putT w nks es q.1 u x).1 (putT w nks es q.1 u x).2 := by
  obtain ⟨e, ks, vs⟩ := b
  subst e
  unfold pushV putT
  cases hj : t.1.idxOf? q.1 with
  | none =>
    refine ⟨rfl, ?_, ?_⟩
    · show Vals (t.2.1 ++ [q.2.1]) _
      rw [Array.toList_push, List.map_append]
      exact ks.append (.cons ru .nil)
    · show Vals (t.2.2 ++ [q.2.2]) _
      rw [Array.toList_push, List.map_append]
      exact vs.append (.cons rx .nil)
  | some j =>
    refine ⟨rfl, ?_, ?_⟩
    · show Vals t.2.1 ((es.modify j fun e => { e with val := x }).toList.map (·.key))
      rw [modify_map (fun e => e.key) j (fun e => { e with val := x }) fun e => rfl]
      exact ks
    · show Vals (t.2.2.set j q.2.2) ((es.modify j fun e => { e with val := x }).toList.map (·.val))
      have e2 : ((es.modify j fun e => { e with val := x }).toList.map (·.val)) = (es.toList.map (·.val)).set j x := by
        refine List.ext_getElem? fun i => ?_
        simp only [List.getElem?_map, Array.getElem?_toList, Array.getElem?_modify, List.getElem?_set]
        by_cases hij : j = i
        · subst hij
          simp only [if_true, List.length_map, Array.length_toList]
          by_cases hl : j < es.size
          · rw [if_pos hl, Array.getElem?_eq_getElem hl]; rfl
          · rw [if_neg hl, Array.getElem?_eq_none (by omega)]; rfl
        · rw [if_neg hij, if_neg hij]
      rw [e2]
      exact vals_set j vs rx
def fillT (w : World) (t : List NestedKey × Array DictEntry) (rs : List (NestedKey × Value × Value)) : List NestedKey × Array DictEntry := rs.foldl (fun t r => putT w t.1 t.2 r.1 r.2.1 r.2.2) t
theorem fill_snoc {w : World} {rs : List (NestedKey × Value × Value)} {i : Nat} {r : NestedKey × Value × Value} (t : List NestedKey × Array DictEntry) (h : rs[i]? = some r) : fillT w t (rs.take (i + 1)) = putT w (fillT w t (rs.take i)).1 (fillT w t (rs.take i)).2 r.1 r.2.1 r.2.2 := by
  unfold fillT
  rw [DSet.take_more h, List.foldl_append]
  rfl
theorem both_all {w : World} : ∀ {qs : List (NestedKey × V × V)} {rs : List (NestedKey × Value × Value)} {t : T3} {nks : List NestedKey} {es : Array DictEntry}, Both w t nks es → Paired (fun (q : NestedKey × V × V) (r : NestedKey × Value × Value) => r.1 = q.1 ∧ RelV q.2.1 r.2.1 ∧ RelV q.2.2 r.2.2) qs rs →
    Both w (allV t qs) (fillT w (nks, es) rs).1 (fillT w (nks, es) rs).2
  | _, _, _, _, _, b, .nil => b
  | q :: qs, r :: rs, t, nks, es, b, .cons h p => by
    obtain ⟨h1, h2, h3⟩ := h
    have := both_all (b.put (q := q) h2 h3) p
    rw [← h1] at this
    exact this
theorem put_size (w : World) (nks : List NestedKey) (es : Array DictEntry) (k : NestedKey) (v x : Value) : (putT w nks es k v x).2.size ≤ es.size + 1 := by
  unfold putT
  split
  · simp
  · simp
theorem fill_size (w : World) : ∀ (rs : List (NestedKey × Value × Value)) (t : List NestedKey × Array DictEntry), (fillT w t rs).2.size ≤ t.2.size + rs.length
  | [], t => Nat.le_refl _
  | r :: rs, t => by
    have := fill_size w rs (putT w t.1 t.2 r.1 r.2.1 r.2.2)
    have h2 := put_size w t.1 t.2 r.1 r.2.1 r.2.2
    show (fillT w (putT w t.1 t.2 r.1 r.2.1 r.2.2) rs).2.size ≤ _
    rw [List.length_cons]
    omega
theorem put_keys {h : Heap} {w : World} {nks : List NestedKey} {es : Array DictEntry} {k : NestedKey} {v x : Value} (a : NestedAll h nks (es.toList.map (·.key))) (b : NestedIs h k v) : NestedAll h (putT w nks es k v x).1 ((putT w nks es k v x).2.toList.map (·.key)) := by
  unfold putT
  split
  · show NestedAll h nks ((es.modify _ fun e => { e with val := x }).toList.map (·.key))
    rw [modify_map (fun e => e.key) _ (fun e => { e with val := x }) fun e => rfl]
    exact a
  · show NestedAll h (nks ++ [k]) ((es.push ⟨k.hash w, v, x⟩).toList.map (·.key))
    rw [Array.toList_push, List.map_append]
    exact all_snoc a b
theorem fill_keys {h : Heap} {w : World} : ∀ {rs : List (NestedKey × Value × Value)} {nks : List NestedKey} {es : Array DictEntry}, NestedAll h nks (es.toList.map (·.key)) → (∀ r ∈ rs, NestedIs h r.1 r.2.1) → NestedAll h (fillT w (nks, es) rs).1 ((fillT w (nks, es) rs).2.toList.map (·.key))
  | [], _, _, a, _ => a
  | r :: rs, nks, es, a, b => fill_keys (rs := rs) (nks := (putT w nks es r.1 r.2.1 r.2.2).1) (es := (putT w nks es r.1 r.2.1 r.2.2).2) (put_keys a (b r List.mem_cons_self)) fun z hz => b z (List.mem_cons_of_mem _ hz)
theorem call_odd (hc : X.calm = true) (hu : X.A.units + 64 < cLine) : CallR X (.type "dict") (rOdd X.K X.w) := by
  intro pins s σ H xs us Q I r q
  obtain ⟨a, ps, qs, ex, hq, hp, hf, q⟩ := q
  subst ex
  obtain ⟨u, eu, rx⟩ := vals1 r
  subst eu
  cases rx
  obtain ⟨its, rv, pl, hz⟩ := I.list hq
  have ei := refs_at rv
  subst ei
  obtain ⟨rs, rel, hk, hl, hpr⟩ := prs_of I hp
  have hlq : qs.length = rs.length := Paired.length rel
  obtain ⟨o, n, ho, hco, hd, hdat⟩ := pl
  have PA := PairArg.list (prog := X.prog) (w := X.w) a (ps.map Value.ref).toArray (fun j => (ps[j]?).getD 0) (rs.map (·.2))
  have ok : PlainSeq "list" s.heap a (ps.map Value.ref).toArray ∧ PairItems s.heap (ps.map Value.ref).toArray (fun j => (ps[j]?).getD 0) (rs.map (·.2)) := by
    refine ⟨⟨o, n, ho, hco, hd, hdat⟩, by simp [hl], fun j k v e => ?_⟩
    rw [List.getElem?_map] at e
    cases er : rs[j]? with
    | none => rw [er] at e; cases e
    | some r =>
      obtain ⟨r1, r2, r3⟩ := r
      rw [er] at e
      cases e
      obtain ⟨b, e1, e2⟩ := hpr j _ er
      simp only [List.getElem?_toArray, List.getElem?_map, e1]
      exact ⟨rfl, .inl e2⟩
  refine call_dict_arg PA ok fun s1 hs1 hdf ok1 => ?_
  subst hs1
  have len : (rs.map (·.2)).length = rs.length := by simp
  refine updateFrom_arg (A := X.A.in1) (Tab := fun i h => (∃ ep, Tab X.w h s.heap.objs.size (fillT X.w ([], #[]) (rs.take i)).1 (fillT X.w ([], #[]) (rs.take i)).2 ep) ∧ ∀ b o, b ≠ s.heap.objs.size → s.heap.get? b = some o → h.get? b = some o) PA .none (I.ok.hd hc) ok1 hdf ?_ ?_ ?_ ?_ ?_
  · refine ⟨⟨0, ⟨_, Heap.get?_push_size _ rfl, ⟨rfl, rfl, rfl⟩, rfl⟩, rfl, .nil, List.nodup_nil, fun k z => nomatch z⟩, fun b o _ e => Heap.get?_push_of_some _ e⟩
  · rintro i h ⟨⟨ep, t⟩, _⟩
    obtain ⟨o, e, _⟩ := t.obj
    exact Heap.lt_size e
  · rintro i h h' wr' hd' hw ⟨⟨ep, t⟩, kp⟩ hk'
    have all : ∀ b o, h.get? b = some o → b ∉ wr' → h'.get? b = some o := fun b o e nb => hk' b o nb e
    have old : ∀ b o, s.heap.get? b = some o → b ∉ wr' := fun b o e z => by
      rcases hw b z with y | y
      · cases y
      · rw [Heap.get?_push_of_some _ e] at y; cases y
    have hd1 := fun o e => all s.heap.objs.size o e hd'
    refine ⟨⟨ep, ⟨let ⟨o, e, r⟩ := t.obj; ⟨o, hd1 o e, r⟩, t.hsh, ?_, t.nd, t.dep⟩⟩, fun b o nb e => all b o (kp b o nb e) (old b o e)⟩
    have base : NestedAll s.heap (fillT X.w ([], #[]) (rs.take i)).1 ((fillT X.w ([], #[]) (rs.take i)).2.toList.map (·.key)) := fill_keys .nil fun r hr => (hk r (List.mem_of_mem_take hr)).1
    exact NestedAll.at (fun b ob vs n e _ => all b ob (kp b ob (Nat.ne_of_lt (Heap.lt_size e)) e) (old b ob e)) _ _ base
  · intro i key v s' Q' E' hi hrel ⟨⟨ep, t⟩, kp⟩ _ hQ
    have hrel : (rs.map (·.2))[i]? = some (key, v) := hrel
    rw [List.getElem?_map] at hrel
    cases er : rs[i]? with
    | none => rw [er] at hrel; cases hrel
    | some r =>
      obtain ⟨r1, r2, r3⟩ := r
      rw [er] at hrel
      cases hrel
      obtain ⟨hk1, hk2⟩ := hk _ (List.mem_of_getElem? er)
      have hk3 : NestedIs s'.heap r1 key := NestedIs.at (fun b ob vs n e1 e2 => kp b ob (Nat.ne_of_lt (Heap.lt_size e1)) e1) _ _ hk1
      refine set (s := s') (by show X.A.units + 1 + 1 + 8 < cLine; omega) hk3 hk2 t ?_ fun h' ep' t' sb => hQ h' _ ⟨⟨ep', ?_⟩, fun b o nb e => sb.extBut b o nb (kp b o nb e)⟩ sb
      · have := fill_size X.w (rs.take i) ([], #[])
        rw [List.length_take] at this
        have : (fillT X.w ([], #[]) (rs.take i)).2.size ≤ 64 := by
          have h0 : (([], #[]) : List NestedKey × Array DictEntry).2.size = 0 := rfl
          omega
        exact Nat.le_trans this (by decide)
      · rw [fill_snoc _ er]; exact t'
  · rintro h' tk ⟨⟨ep, t⟩, kp⟩ _
    rw [len, List.take_of_length_le (Nat.le_refl _)] at t
    have bo := both_all (w := X.w) (t := ([], [], [])) (nks := []) (es := #[]) ⟨rfl, .nil, .nil⟩ rel
    obtain ⟨od, eo, exo, edat⟩ := t.obj
    have hm : (s.heap.objs.size == sysModules) = false := beq_eq_false_iff_ne.mpr (Nat.ne_of_gt I.big)
    have few : (fillT X.w ([], #[]) rs).1.length ≤ 64 := by
      have := fill_size X.w rs ([], #[])
      have h0 : (([], #[]) : List NestedKey × Array DictEntry).2.size = 0 := rfl
      have := t.len
      omega
    have oo : OddO X.w od s.heap.objs.size (allV ([], [], []) qs).1 (allV ([], [], []) qs).2.1 (allV ([], [], []) qs).2.2 :=
      ⟨hm, exo, ⟨_, _, edat, by rw [bo.nk]; exact t.hsh, bo.ks, bo.vs⟩, by rw [bo.nk]; exact t.nd, by rw [bo.nk]; exact t.dep, by rw [bo.nk]; exact few⟩
    refine ⟨rfl, .ref s.heap.objs.size, _, I.laid (t' := tk) (o := .frz od (OddU s.heap.objs.size)) (fun b u e => kp b u (Nat.ne_of_lt (Heap.lt_size e)) e) (Nat.le_refl _) ⟨eo, ⟨od, eo⟩, ⟨od, eo⟩, fun h1 h2 ⟨o1, e1⟩ k => ⟨o1, k _ e1⟩⟩, rfl, q _ _ (I.hok.fresh (Nat.le_refl _)) oo⟩
end
end OddD
set_option Elab.async false
set_option linter.all false
set_option maxRecDepth 100000
set_option maxHeartbeats 1000000
set_option autoImplicit false
/-! DL: data trees over the hand layer. -/
namespace DL
open PySem L2

inductive D where
  | non | bl (b : Bool) | int (i : Int) | str (s : Str) | ty (n : String) | con (a : Addr) | pot
  | tup (l : List D) | lst (l : List D) | dct (l : List (Key × D)) | ins (C : Addr) (l : List (Str × D))
  | exc (C : Addr) (l : List (Str × D)) | dlk (l : List (Key × D)) | odd (w : World) (ks vs : List D)

def WrT (K : PySem.W.Frag) (a : Addr) (xs : List V) : Prop :=
  ∃ (o : Obj) (its : Array Value) (n : Nat), K.lookup a = some o ∧ o.cls = .type "tuple" ∧ o.data = .seq its n ∧ its.size ≤ sizeLine ∧ Vals xs its.toList

mutual
/-- what may be a key of such a dict -/
def nkD : D → Option NestedKey
  | .non => some .none
  | .bl b => some (.num (if b = true then 1 else 0))
  | .int i => some (.num i)
  | .str s => some (.text s)
  | .tup l => (nkL l).map .tup
  | _ => none
def nkL : List D → Option (List NestedKey)
  | [] => some []
  | d :: l => (nkD d).bind fun k => (nkL l).map (k :: ·)
end
section
variable (K : PySem.W.Frag) (Z : Addr → Prop) (p : Addr) (H : Hp)
mutual
def Rep : D → V → Prop
  | .non, v => v = .non
  | .bl b, v => v = .bl b
  | .int i, v => v = .int i
  | .str s, v => v = .str s
  | .ty n, v => v = .ty n
  | .con a, v => v = .ref a
  | .pot, v => v = .ref p
  | .tup l, v => ∃ a vs, v = .ref a ∧ ((¬ Z a ∧ Rd H a (.tup vs)) ∨ WrT K a vs) ∧ Reps l vs
  | .lst l, v => ∃ a vs, v = .ref a ∧ (¬ Z a ∧ H a = some (.lst vs)) ∧ Reps l vs
  | .dct l, v => ∃ a kvs, v = .ref a ∧ (¬ Z a ∧ H a = some (.dK kvs)) ∧ RepK l kvs
  | .ins C l, v => ∃ a dx fs, v = .ref a ∧ (¬ Z a ∧ H a = some (.ins C dx fs)) ∧ RepF l fs
  | .dlk l, v => ∃ a o kvs, v = .ref a ∧ (¬ Z a ∧ H a = some (.frz o (.dK kvs))) ∧ RepK l kvs
  | .odd w ks vs, v => ∃ a o nks us ws, v = .ref a ∧ (¬ Z a ∧ H a = some (.frz o (OddD.OddU a))) ∧ OddD.OddO w o a nks us ws ∧ nkL ks = some nks ∧ Reps ks us ∧ Reps vs ws
  | .exc C l, v => ∃ a dx fs, v = .ref a ∧ (¬ Z a ∧ H a = some (XI.exh a (.ref C) (some dx))) ∧ (¬ Z dx ∧ H dx = some (.xd fs)) ∧ RepF l fs
def Reps : List D → List V → Prop
  | [], vs => vs = []
  | d :: l, vs => ∃ v r, vs = v :: r ∧ Rep d v ∧ Reps l r
def RepK : List (Key × D) → List (Key × V) → Prop
  | [], vs => vs = []
  | q :: l, vs => ∃ v r, vs = (q.1, v) :: r ∧ Rep q.2 v ∧ RepK l r
def RepF : List (Str × D) → List (Str × V) → Prop
  | [], vs => vs = []
  | q :: l, vs => ∃ v r, vs = (q.1, v) :: r ∧ Rep q.2 v ∧ RepF l r
end
end

/-- what stood and could not change stands and cannot change -/
def Mv (Z : Addr → Prop) (H : Hp) (Z' : Addr → Prop) (H' : Hp) : Prop := ∀ a o, ¬ Z a → H a = some o → ¬ Z' a ∧ H' a = some o
theorem Mv.refl {Z : Addr → Prop} {H : Hp} : Mv Z H Z H := fun _ _ z h => ⟨z, h⟩
theorem Mv.trans {Z Z1 Z2 : Addr → Prop} {H H1 H2 : Hp} (m : Mv Z H Z1 H1) (n : Mv Z1 H1 Z2 H2) : Mv Z H Z2 H2 := fun a o z h => n a o (m a o z h).1 (m a o z h).2
theorem Mv.rd {Z Z' : Addr → Prop} {H H' : Hp} (m : Mv Z H Z' H') {a : Addr} {o : HO} (z : ¬ Z a) (h : Rd H a o) : ¬ Z' a ∧ Rd H' a o := by
  rcases h with h | ⟨u, h⟩
  · exact ⟨(m a _ z h).1, .inl (m a _ z h).2⟩
  · exact ⟨(m a _ z h).1, .inr ⟨u, (m a _ z h).2⟩⟩

section
variable {K : PySem.W.Frag} {Z Z' : Addr → Prop} {p : Addr} {H H' : Hp}
mutual
theorem Rep.mv (m : Mv Z H Z' H') : ∀ {d : D} {v : V}, Rep K Z p H d v → Rep K Z' p H' d v
  | .non, _, h => h
  | .bl _, _, h => h
  | .int _, _, h => h
  | .str _, _, h => h
  | .ty _, _, h => h
  | .con _, _, h => h
  | .pot, _, h => h
  | .tup l, _, ⟨a, vs, e, w, r⟩ => ⟨a, vs, e, w.imp (fun q => m.rd q.1 q.2) id, Reps.mv m r⟩
  | .lst l, _, ⟨a, vs, e, w, r⟩ => ⟨a, vs, e, m a _ w.1 w.2, Reps.mv m r⟩
  | .dct l, _, ⟨a, vs, e, w, r⟩ => ⟨a, vs, e, m a _ w.1 w.2, RepK.mv m r⟩
  | .ins C l, _, ⟨a, dx, fs, e, w, r⟩ => ⟨a, dx, fs, e, m a _ w.1 w.2, RepF.mv m r⟩
  | .dlk l, _, ⟨a, o, vs, e, w, r⟩ => ⟨a, o, vs, e, m a _ w.1 w.2, RepK.mv m r⟩
  | .odd w ks vs, _, ⟨a, o, nks, us, ws, e, q, oo, nk, r1, r2⟩ => ⟨a, o, nks, us, ws, e, m a _ q.1 q.2, oo, nk, Reps.mv m r1, Reps.mv m r2⟩
  | .exc C l, _, ⟨a, dx, fs, e, w, w2, r⟩ => ⟨a, dx, fs, e, m a _ w.1 w.2, m dx _ w2.1 w2.2, RepF.mv m r⟩
theorem Reps.mv (m : Mv Z H Z' H') : ∀ {l : List D} {v : List V}, Reps K Z p H l v → Reps K Z' p H' l v
  | [], _, h => h
  | _ :: _, _, ⟨v, r, e, a, b⟩ => ⟨v, r, e, Rep.mv m a, Reps.mv m b⟩
theorem RepK.mv (m : Mv Z H Z' H') : ∀ {l : List (Key × D)} {v : List (Key × V)}, RepK K Z p H l v → RepK K Z' p H' l v
  | [], _, h => h
  | _ :: _, _, ⟨v, r, e, a, b⟩ => ⟨v, r, e, Rep.mv m a, RepK.mv m b⟩
theorem RepF.mv (m : Mv Z H Z' H') : ∀ {l : List (Str × D)} {v : List (Str × V)}, RepF K Z p H l v → RepF K Z' p H' l v
  | [], _, h => h
  | _ :: _, _, ⟨v, r, e, a, b⟩ => ⟨v, r, e, Rep.mv m a, RepF.mv m b⟩
end
theorem Reps.len : ∀ {l : List D} {v : List V}, Reps K Z p H l v → l.length = v.length
  | [], _, h => by rw [show _ = [] from h]; rfl
  | _ :: _, _, ⟨v, r, e, a, b⟩ => by rw [e, List.length_cons, List.length_cons, Reps.len b]
theorem Reps.get : ∀ {l : List D} {v : List V} {i : Nat} {d : D}, Reps K Z p H l v → l[i]? = some d → ∃ x, v[i]? = some x ∧ Rep K Z p H d x
  | [], _, i, d, h, e => by simp at e
  | _ :: _, _, 0, d, ⟨v, r, e, a, b⟩, q => ⟨v, by rw [e]; rfl, by rw [← Option.some.inj q]; exact a⟩
  | _ :: _, _, i + 1, d, ⟨v, r, e, a, b⟩, q => by rw [e]; exact Reps.get (i := i) b q
theorem Reps.getv : ∀ {l : List D} {v : List V} {i : Nat} {x : V}, Reps K Z p H l v → v[i]? = some x → ∃ d, l[i]? = some d ∧ Rep K Z p H d x
  | [], _, i, d, h, e => by rw [show _ = [] from h] at e; simp at e
  | d :: _, _, 0, x, ⟨v, r, e, a, b⟩, q => ⟨d, rfl, by rw [e] at q; rw [← Option.some.inj q]; exact a⟩
  | _ :: _, _, i + 1, d, ⟨v, r, e, a, b⟩, q => by rw [e] at q; exact Reps.getv (i := i) b q
theorem Reps.app : ∀ {l m : List D} {v w : List V}, Reps K Z p H l v → Reps K Z p H m w → Reps K Z p H (l ++ m) (v ++ w)
  | [], _, _, _, h, k => by rw [show _ = [] from h]; exact k
  | _ :: _, _, _, _, ⟨v, r, e, a, b⟩, k => by rw [e]; exact ⟨v, _, rfl, a, Reps.app b k⟩
theorem Reps.one {d : D} {v : V} (h : Rep K Z p H d v) : Reps K Z p H [d] [v] := ⟨v, [], rfl, h, rfl⟩
theorem Reps.take : ∀ {l : List D} {v : List V} (k : Nat), Reps K Z p H l v → Reps K Z p H (l.take k) (v.take k)
  | _, _, 0, _ => rfl
  | [], _, k + 1, h => by rw [show _ = [] from h]; exact rfl
  | _ :: _, _, k + 1, ⟨v, r, e, a, b⟩ => by rw [e]; exact ⟨v, _, rfl, a, Reps.take k b⟩
theorem Reps.drop : ∀ {l : List D} {v : List V} (k : Nat), Reps K Z p H l v → Reps K Z p H (l.drop k) (v.drop k)
  | _, _, 0, h => h
  | [], _, k + 1, h => by rw [show _ = [] from h]; exact rfl
  | _ :: _, _, k + 1, ⟨v, r, e, a, b⟩ => by rw [e]; exact Reps.drop k b
theorem Reps.rev : ∀ {l : List D} {v : List V}, Reps K Z p H l v → Reps K Z p H l.reverse v.reverse
  | [], _, h => by rw [show _ = [] from h]; exact rfl
  | d :: l, _, ⟨v, r, e, a, b⟩ => by rw [e, List.reverse_cons, List.reverse_cons]; exact (Reps.rev b).app (.one a)
theorem RepF.look : ∀ {l : List (Str × D)} {fs : List (Str × V)} {f : Str} {d : D}, RepF K Z p H l fs → l.lookup f = some d → ∃ v, fs.lookup f = some v ∧ Rep K Z p H d v
  | [], _, f, d, h, e => by simp at e
  | (g, q) :: l, _, f, d, ⟨v, r, e, a, b⟩, k => by
    rw [e]
    by_cases hf : f == g
    · simp only [List.lookup_cons, hf] at k ⊢
      exact ⟨v, rfl, by rw [← Option.some.inj k]; exact a⟩
    · simp only [List.lookup_cons, hf] at k ⊢
      exact RepF.look b k
theorem RepF.none : ∀ {l : List (Str × D)} {fs : List (Str × V)} {f : Str}, RepF K Z p H l fs → l.lookup f = Option.none → fs.lookup f = Option.none
  | [], _, f, h, e => by rw [show _ = [] from h]; rfl
  | (g, q) :: l, _, f, ⟨v, r, e, a, b⟩, k => by
    rw [e]
    by_cases hf : f == g
    · simp only [List.lookup_cons, hf] at k; cases k
    · simp only [List.lookup_cons, hf] at k ⊢
      exact RepF.none b k
end

/-! ### the pot, the world -/
def PotAt (H : Hp) (p : Addr) (n : Nat) : Prop :=
  ∃ o s c : Int, H p = some (.lst [.int o, .int s, .int c]) ∧ 0 ≤ o ∧ o < 10 ^ 300 ∧ 0 ≤ s ∧ s < 2 ^ 61 ∧ 0 ≤ c ∧ c + n ≤ 1000000
/-- all but the pot is kept -/
def Kp (p : Addr) (H H' : Hp) : Prop := ∀ a o, a ≠ p → H a = some o → H' a = some o
theorem Kp.refl {p : Addr} {H : Hp} : Kp p H H := fun _ _ _ h => h
theorem Kp.trans {p : Addr} {H H1 H2 : Hp} (a : Kp p H H1) (b : Kp p H1 H2) : Kp p H H2 := fun x o n h => b x o n (a x o n h)
def Xt (H H' : Hp) : Prop := ∀ a o, H a = some o → H' a = some o
theorem Xt.refl {H : Hp} : Xt H H := fun _ _ h => h
theorem Xt.trans {H H1 H2 : Hp} (a : Xt H H1) (b : Xt H1 H2) : Xt H H2 := fun x o h => b x o (a x o h)
theorem Xt.kp {p : Addr} {H H' : Hp} (a : Xt H H') : Kp p H H' := fun x o _ h => a x o h
theorem Xt.new {H : Hp} {q : Addr} {o : HO} (h : H q = none) : Xt H (upd H q o) := fun a u e => by
  rw [upd_ne (ne_of_none e h)]; exact e
theorem Xt.pot {H H' : Hp} {p : Addr} {n : Nat} (a : Xt H H') (h : PotAt H p n) : PotAt H' p n := by
  obtain ⟨o, s, c, e, r⟩ := h
  exact ⟨o, s, c, a _ _ e, r⟩
theorem Kp.mv {p : Addr} {H H' : Hp} {Z : Addr → Prop} (zp : Z p) (k : Kp p H H') : Mv Z H Z H' := fun a o z h => ⟨z, k a o (fun e => z (e ▸ zp)) h⟩

inductive Sl where
  | val (d : D) | own (l : List D) | ownD (l : List (Key × D))
def Sl.owned : Sl → Bool
  | .val _ => false
  | _ => true
abbrev DSt := List (Option Sl)
abbrev DX := Addr → List (Str × D) → Nat → Prop
abbrev DQ := D → Nat → Prop
abbrev TD := DSt → Nat → DQ → DX → Prop
abbrev TDT := DSt → Nat → (Bool → Nat → Prop) → DX → Prop
abbrev TDA := DSt → Nat → (List D → Nat → Prop) → DX → Prop
structure DEnds where
  nx : DSt → Nat → Prop
  rt : DQ
  bk : DSt → Nat → Prop := fun _ _ => False
  ct : DSt → Nat → Prop := fun _ _ => False
abbrev TDS := DEnds → DSt → Nat → DX → Prop
abbrev DF := List D → Nat → DQ → DX → Prop

def SlOk (K : PySem.W.Frag) (Z : Addr → Prop) (p : Addr) (H0 H : Hp) : Sl → V → Prop
  | .val d, v => Rep K Z p H d v
  | .own l, v => ∃ a vs, v = .ref a ∧ Z a ∧ H0 a = none ∧ H a = some (.lst vs) ∧ Reps K Z p H l vs
  | .ownD l, v => ∃ a kvs, v = .ref a ∧ Z a ∧ H0 a = none ∧ H a = some (.dK kvs) ∧ RepK K Z p H l kvs

structure Wd (K : PySem.W.Frag) (p : Addr) (H0 : Hp) (Z0 : Addr → Prop) (ρ : DSt) (n : Nat) (Z : Addr → Prop) (σ : St) (H : Hp) : Prop where
  pot : PotAt H p n
  zp : Z0 p
  d0 : ∀ a, Z0 a → H0 a ≠ none
  sub : ∀ a, Z0 a → Z a
  dom : ∀ a, Z a → H a ≠ none
  keep : Kp p H0 H
  len : σ.length = ρ.length
  env : ∀ (i : Nat) (s : Sl), ρ[i]? = some (some s) → ∃ v, σ[i]? = some (some v) ∧ SlOk K Z p H0 H s v
  dis : ∀ (i j : Nat) (a : Addr) (s t : Sl), i ≠ j → ρ[i]? = some (some s) → ρ[j]? = some (some t) → s.owned = true → t.owned = true → σ[i]? = some (some (.ref a)) → σ[j]? ≠ some (some (.ref a))

section
variable {K : PySem.W.Frag} {p : Addr} {H0 H H' : Hp} {Z0 Z Z' : Addr → Prop} {ρ : DSt} {n n' : Nat} {σ : St}
theorem PotAt.ne (h : PotAt H p n) : H p ≠ none := by
  obtain ⟨o, s, c, e, _⟩ := h
  rw [e]; exact fun z => nomatch z
theorem Wd.zpp (w : Wd K p H0 Z0 ρ n Z σ H) : Z p := w.sub p w.zp
theorem Wd.mv (w : Wd K p H0 Z0 ρ n Z σ H) (k : Kp p H H') : Mv Z H Z H' := k.mv w.zpp
theorem Wd.own_ne (w : Wd K p H0 Z0 ρ n Z σ H) {a : Addr} (h : H0 a = none) : a ≠ p := fun e => by
  subst e
  exact w.d0 a w.zp h
/-- behind what keeps all but the pot -/
theorem Wd.kp (w : Wd K p H0 Z0 ρ n Z σ H) (k : Kp p H H') (q : PotAt H' p n') : Wd K p H0 Z0 ρ n' Z σ H' where
  pot := q
  zp := w.zp
  d0 := w.d0
  sub := w.sub
  dom := fun a z e => by
    by_cases h : a = p
    · subst h; exact q.ne e
    · cases hh : H a with
      | none => exact w.dom a z hh
      | some o => rw [k a o h hh] at e; cases e
  keep := w.keep.trans k
  len := w.len
  env := fun i s h => by
    obtain ⟨v, e, r⟩ := w.env i s h
    refine ⟨v, e, ?_⟩
    cases s with
    | val d => exact Rep.mv (w.mv k) r
    | own l =>
      obtain ⟨a, vs, e1, z, h0, h1, r⟩ := r
      exact ⟨a, vs, e1, z, h0, k a _ (w.own_ne h0) h1, r.mv (w.mv k)⟩
    | ownD l =>
      obtain ⟨a, vs, e1, z, h0, h1, r⟩ := r
      exact ⟨a, vs, e1, z, h0, k a _ (w.own_ne h0) h1, r.mv (w.mv k)⟩
  dis := w.dis
theorem Wd.xt (w : Wd K p H0 Z0 ρ n Z σ H) (k : Xt H H') : Wd K p H0 Z0 ρ n Z σ H' := w.kp k.kp (k.pot w.pot)
theorem Wd.val (w : Wd K p H0 Z0 ρ n Z σ H) {i : Nat} {d : D} (h : ρ[i]? = some (some (.val d))) : ∃ v, σ[i]? = some (some v) ∧ Rep K Z p H d v := w.env i _ h
/-- a slot is set to a value -/
theorem Wd.set (w : Wd K p H0 Z0 ρ n Z σ H) (i : Nat) {d : D} {v : V} (r : Rep K Z p H d v) : Wd K p H0 Z0 (ρ.set i (some (.val d))) n Z (σ.set i (some v)) H where
  pot := w.pot
  zp := w.zp
  d0 := w.d0
  sub := w.sub
  dom := w.dom
  keep := w.keep
  len := by rw [List.length_set, List.length_set]; exact w.len
  env := fun j s h => by
    by_cases e : i = j
    · subst e
      have hl : i < ρ.length := by
        have := (List.getElem?_eq_some_iff.mp h).1
        rwa [List.length_set] at this
      rw [List.getElem?_set_self hl] at h
      cases h
      exact ⟨v, List.getElem?_set_self (by rw [w.len]; exact hl), r⟩
    · rw [List.getElem?_set_ne e] at h ⊢
      exact w.env j s h
  dis := fun j k a s t ne hj hk sj sk e => by
    have nj : i ≠ j := fun z => by
      subst z
      have hl : i < ρ.length := by
        have := (List.getElem?_eq_some_iff.mp hj).1
        rwa [List.length_set] at this
      rw [List.getElem?_set_self hl] at hj
      cases hj; cases sj
    have nk : i ≠ k := fun z => by
      subst z
      have hl : i < ρ.length := by
        have := (List.getElem?_eq_some_iff.mp hk).1
        rwa [List.length_set] at this
      rw [List.getElem?_set_self hl] at hk
      cases hk; cases sk
    rw [List.getElem?_set_ne nj] at hj e
    rw [List.getElem?_set_ne nk] at hk ⊢
    exact w.dis j k a s t ne hj hk sj sk e
/-- a slot is forgotten -/
theorem Wd.clr (w : Wd K p H0 Z0 ρ n Z σ H) (i : Nat) : Wd K p H0 Z0 (ρ.set i none) n Z (σ.set i none) H where
  pot := w.pot
  zp := w.zp
  d0 := w.d0
  sub := w.sub
  dom := w.dom
  keep := w.keep
  len := by rw [List.length_set, List.length_set]; exact w.len
  env := fun j s h => by
    by_cases e : i = j
    · subst e
      have hl : i < ρ.length := by
        have := (List.getElem?_eq_some_iff.mp h).1
        rwa [List.length_set] at this
      rw [List.getElem?_set_self hl] at h
      cases h
    · rw [List.getElem?_set_ne e] at h ⊢
      exact w.env j s h
  dis := fun j k a s t ne hj hk sj sk e => by
    have nj : i ≠ j := fun z => by
      subst z
      have hl : i < ρ.length := by
        have := (List.getElem?_eq_some_iff.mp hj).1
        rwa [List.length_set] at this
      rw [List.getElem?_set_self hl] at hj
      cases hj
    have nk : i ≠ k := fun z => by
      subst z
      have hl : i < ρ.length := by
        have := (List.getElem?_eq_some_iff.mp hk).1
        rwa [List.length_set] at this
      rw [List.getElem?_set_self hl] at hk
      cases hk
    rw [List.getElem?_set_ne nj] at hj e
    rw [List.getElem?_set_ne nk] at hk ⊢
    exact w.dis j k a s t ne hj hk sj sk e
def wipeD (ρ : DSt) : List Nat → DSt
  | [] => ρ
  | v :: vs => (wipeD ρ vs).set v none
theorem Wd.wipe (w : Wd K p H0 Z0 ρ n Z σ H) : ∀ vs : List Nat, Wd K p H0 Z0 (wipeD ρ vs) n Z (wipe σ vs) H
  | [] => w
  | v :: vs => (Wd.wipe w vs).clr v
/-- a new address joins what may change -/
def zAdd (Z : Addr → Prop) (q : Addr) : Addr → Prop := fun a => Z a ∨ a = q
theorem mv_add {q : Addr} {o : HO} (hq : H q = none) : Mv Z H (zAdd Z q) (upd H q o) := fun a u z h =>
  ⟨fun y => y.elim z fun e => (by rw [e, hq] at h; exact nomatch h), Xt.new hq a u h⟩
theorem Wd.add (w : Wd K p H0 Z0 ρ n Z σ H) {q : Addr} {o : HO} (hq : H q = none) : Wd K p H0 Z0 ρ n (zAdd Z q) σ (upd H q o) where
  pot := (Xt.new hq).pot w.pot
  zp := w.zp
  d0 := w.d0
  sub := fun a z => .inl (w.sub a z)
  dom := fun a z e => by
    rcases z with z | z
    · cases hh : H a with
      | none => exact w.dom a z hh
      | some u => rw [Xt.new hq a u hh] at e; cases e
    · rw [z, upd_same] at e; cases e
  keep := w.keep.trans (Xt.new hq).kp
  len := w.len
  env := fun i s h => by
    obtain ⟨v, e, r⟩ := w.env i s h
    refine ⟨v, e, ?_⟩
    cases s with
    | val d => exact Rep.mv (mv_add hq) r
    | own l =>
      obtain ⟨a, vs, e1, z, h0, h1, r⟩ := r
      exact ⟨a, vs, e1, .inl z, h0, Xt.new hq _ _ h1, r.mv (mv_add hq)⟩
    | ownD l =>
      obtain ⟨a, vs, e1, z, h0, h1, r⟩ := r
      exact ⟨a, vs, e1, .inl z, h0, Xt.new hq _ _ h1, r.mv (mv_add hq)⟩
  dis := w.dis
theorem Wd.new0 (w : Wd K p H0 Z0 ρ n Z σ H) {q : Addr} (hq : H q = none) : H0 q = none := by
  cases h : H0 q with
  | none => rfl
  | some o =>
    by_cases e : q = p
    · subst e; exact absurd hq w.pot.ne
    · rw [w.keep q o e h] at hq; cases hq
theorem Wd.notin (w : Wd K p H0 Z0 ρ n Z σ H) {q : Addr} (hq : H q = none) : ¬ Z q := fun z => w.dom q z hq
end
end DL
set_option Elab.async false
set_option linter.all false
set_option maxRecDepth 100000
set_option maxHeartbeats 1000000
set_option autoImplicit false
/-! DL: judgements and the rules for expressions. -/
namespace DL
open PySem L2

/-- how a raised error is wished for -/
def HE (K : PySem.W.Frag) (p : Addr) (H0 : Hp) (Z0 : Addr → Prop) (x : DX) (E : XK) : Prop :=
  ∀ (C : Addr) (l : List (Str × D)) (n : Nat) (dx : Addr) (fs : List (Str × V)) (H' : Hp), x C l n → PotAt H' p n → Kp p H0 H' → H' dx = some (.xd fs) → ¬ Z0 dx → RepF K Z0 p H' l fs → E (.ref C) (some dx) H'
def x0 : DX := fun _ _ _ => False
theorem HE.zero {K : PySem.W.Frag} {p : Addr} {H0 : Hp} {Z0 : Addr → Prop} {E : XK} : HE K p H0 Z0 x0 E := fun _ _ _ _ _ _ h => h.elim

def EvD (K : PySem.W.Frag) (E : XK) (te : TE) (t : TD) : Prop :=
  ∀ {p : Addr} {H0 : Hp} {Z0 : Addr → Prop} {ρ : DSt} {n : Nat} {Z : Addr → Prop} {σ : St} {H : Hp} {x : DX} {Q : DQ} {Qv : VK}, Wd K p H0 Z0 ρ n Z σ H → HE K p H0 Z0 x E → t ρ n Q x →
    (∀ v H' d n', Wd K p H0 Z0 ρ n' Z σ H' → Kp p H H' → Rep K Z p H' d v → Q d n' → Qv v H') → te σ H Qv
def EvT (K : PySem.W.Frag) (E : XK) (te : TT) (t : TDT) : Prop :=
  ∀ {p : Addr} {H0 : Hp} {Z0 : Addr → Prop} {ρ : DSt} {n : Nat} {Z : Addr → Prop} {σ : St} {H : Hp} {x : DX} {Q : Bool → Nat → Prop} {Qv : Bool → Hp → Prop}, Wd K p H0 Z0 ρ n Z σ H → HE K p H0 Z0 x E → t ρ n Q x →
    (∀ b H' n', Wd K p H0 Z0 ρ n' Z σ H' → Kp p H H' → Q b n' → Qv b H') → te σ H Qv
def EvA (K : PySem.W.Frag) (E : XK) (te : TA) (t : TDA) : Prop :=
  ∀ {p : Addr} {H0 : Hp} {Z0 : Addr → Prop} {ρ : DSt} {n : Nat} {Z : Addr → Prop} {σ : St} {H : Hp} {x : DX} {Q : List D → Nat → Prop} {Qv : List V → Hp → Prop}, Wd K p H0 Z0 ρ n Z σ H → HE K p H0 Z0 x E → t ρ n Q x →
    (∀ vs H' ds n', Wd K p H0 Z0 ρ n' Z σ H' → Kp p H H' → Reps K Z p H' ds vs → Q ds n' → Qv vs H') → te σ H Qv
def StD (K : PySem.W.Frag) (E : XK) (ts : TS) (t : TDS) : Prop :=
  ∀ {p : Addr} {H0 : Hp} {Z0 : Addr → Prop} {ρ : DSt} {n : Nat} {Z : Addr → Prop} {σ : St} {H : Hp} {x : DX} {De : DEnds} {Dv : Ends}, Wd K p H0 Z0 ρ n Z σ H → HE K p H0 Z0 x E → t De ρ n x →
    (∀ ρ' n' Z' σ' H', Wd K p H0 Z0 ρ' n' Z' σ' H' → Mv Z H Z' H' → De.nx ρ' n' → Dv.nx σ' H') →
    (∀ v H' d n', PotAt H' p n' → Kp p H0 H' → Rep K Z0 p H' d v → De.rt d n' → Dv.rt v H') →
    (∀ ρ' n' Z' σ' H', Wd K p H0 Z0 ρ' n' Z' σ' H' → Mv Z H Z' H' → De.bk ρ' n' → Dv.bk σ' H') →
    (∀ ρ' n' Z' σ' H', Wd K p H0 Z0 ρ' n' Z' σ' H' → Mv Z H Z' H' → De.ct ρ' n' → Dv.ct σ' H') → ts Dv σ H

section
variable {ι : Type}
def DE (Xs : ι → Cx) (K : PySem.W.Frag) (E : XK) (e : Expr) (t : TD) : Prop := ∃ te, (∀ i, PE (Xs i) e te) ∧ EvD K E te t
def DT (Xs : ι → Cx) (K : PySem.W.Frag) (E : XK) (e : Expr) (t : TDT) : Prop := ∃ te, (∀ i, PT (Xs i) e te) ∧ EvT K E te t
def DW (Xs : ι → Cx) (K : PySem.W.Frag) (E : XK) (e : Expr) (t : TDT) : Prop := ∃ te, (∀ i, PW (Xs i) e te) ∧ EvT K E te t
def DA (Xs : ι → Cx) (K : PySem.W.Frag) (E : XK) (es : List Expr) (t : TDA) : Prop := ∃ te, (∀ i, PA (Xs i) es te) ∧ EvA K E te t
def DS (Xs : ι → Cx) (K : PySem.W.Frag) (E : XK) (s : Stmt) (t : TDS) : Prop := ∃ te, (∀ i, PS (Xs i) s te) ∧ StD K E te t
def DSs (Xs : ι → Cx) (K : PySem.W.Frag) (E : XK) (s : List Stmt) (t : TDS) : Prop := ∃ te, (∀ i, PSs (Xs i) s te) ∧ StD K E te t

variable {Xs : ι → Cx} {K : PySem.W.Frag} {E : XK} {pos : Pos} {a b c e : Expr} {es : List Expr} {ta tb tc te : TD} {t : TDA}

/-! ### names, constants -/
def dVar (i : Nat) : TD := fun ρ n Q _ => ∃ d, ρ[i]? = some (some (.val d)) ∧ Q d n
theorem de_var (i : Nat) {x : Str} (hN : ∀ j, (Xs j).N[i]? = some x) (hv : ∀ j, Vis (Xs j).env.scope x) (hd : (x == ("__debug__" : Str)) = false := by decide) (hcd : (x == ("__classdict__" : Str)) = false := by decide) : DE Xs K E (.Name x pos) (dVar i) :=
  ⟨tVar i, fun j => pe_var (hN j) (hv j) hd hcd, fun w _ h q => by
    obtain ⟨d, e, h⟩ := h
    obtain ⟨v, ev, r⟩ := w.val e
    exact ⟨v, ev, q v _ d _ w Kp.refl r h⟩⟩
def dC (d : D) : TD := fun _ n Q _ => Q d n
theorem de_c {v : V} {d : D} (h : ∀ i, PE (Xs i) e (tC v)) (r : ∀ Z p H, Rep K Z p H d v) : DE Xs K E e (dC d) :=
  ⟨tC v, h, fun w _ h q => q v _ d _ w Kp.refl (r _ _ _) h⟩
theorem de_int {i : Int} {j : Nat} : DE Xs K E (.Constant (.int i) j pos) (dC (.int i)) := de_c (fun _ => pe_int) fun _ _ _ => rfl
theorem de_bl {i : Bool} {j : Nat} : DE Xs K E (.Constant (.bool i) j pos) (dC (.bl i)) := de_c (fun _ => pe_bl) fun _ _ _ => rfl
theorem de_non {j : Nat} : DE Xs K E (.Constant .none j pos) (dC .non) := de_c (fun _ => pe_non) fun _ _ _ => rfl
theorem de_str {i : Str} {j : Nat} : DE Xs K E (.Constant (.str i) j pos) (dC (.str i)) := de_c (fun _ => pe_str) fun _ _ _ => rfl

/-! ### argument lists, displays -/
def dNil : TDA := fun _ n Q _ => Q [] n
def dCons (ta : TD) (tr : TDA) : TDA := fun ρ n Q x => ta ρ n (fun d n1 => tr ρ n1 (fun ds n2 => Q (d :: ds) n2) x) x
theorem da_nil : DA Xs K E [] dNil := ⟨tNil, fun _ => pa_nil, fun w _ h q => q [] _ [] _ w Kp.refl rfl h⟩
theorem da_cons (ha : DE Xs K E e te) (hr : DA Xs K E es t) (hs : ∀ i, starEach (e :: es) (Xs i).env = (false, eval e (Xs i).env) :: starEach es (Xs i).env := by intro _; rfl) : DA Xs K E (e :: es) (dCons te t) := by
  obtain ⟨ve, pe, ee⟩ := ha
  obtain ⟨vr, pr, er⟩ := hr
  exact ⟨tCons ve vr, fun i => pa_cons (pe i) (pr i) (hs i), fun w x h q => ee w x h fun v H1 d n1 w1 k1 r1 h1 => er w1 x h1 fun vs H2 ds n2 w2 k2 r2 h2 =>
    q (v :: vs) H2 (d :: ds) n2 w2 (k1.trans k2) ⟨v, vs, rfl, r1.mv (w1.mv k2), r2⟩ h2⟩
/-- a new tuple, a new list stand for what was asked -/
theorem rep_tup {Z : Addr → Prop} {p q : Addr} {H : Hp} {l : List D} {vs : List V} (z : ¬ Z q) (n : H q = none) (r : Reps K Z p H l vs) : Rep K Z p (upd H q (.tup vs)) (.tup l) (.ref q) :=
  ⟨q, vs, rfl, .inl ⟨z, .inl upd_same⟩, r.mv fun a o z h => ⟨z, Xt.new n a o h⟩⟩
theorem rep_lst {Z : Addr → Prop} {p q : Addr} {H : Hp} {l : List D} {vs : List V} (z : ¬ Z q) (n : H q = none) (r : Reps K Z p H l vs) : Rep K Z p (upd H q (.lst vs)) (.lst l) (.ref q) :=
  ⟨q, vs, rfl, ⟨z, upd_same⟩, r.mv fun a o z h => ⟨z, Xt.new n a o h⟩⟩
def most : Nat := 1000000
theorem most_le {n : Nat} (h : n ≤ most) : n ≤ sizeLine := Nat.le_trans h (by decide)
theorem most_lt {n : Nat} (h : n ≤ most) : n < sizeLine := Nat.lt_of_le_of_lt h (by decide)
def dTup (t : TDA) : TD := fun ρ n Q x => t ρ n (fun ds n1 => ds.length ≤ most ∧ Q (.tup ds) n1) x
def dLst (t : TDA) : TD := fun ρ n Q x => t ρ n (fun ds n1 => ds.length ≤ most ∧ Q (.lst ds) n1) x
theorem de_tup {x1} (h : DA Xs K E es t) : DE Xs K E (.Tuple es x1 pos) (dTup t) := by
  obtain ⟨ve, pe, ee⟩ := h
  refine ⟨tTup ve, fun i => pe_tup (pe i), fun w x h q => ee w x h fun vs H1 ds n1 w1 k1 r1 h1 => ⟨by rw [← r1.len]; exact most_le h1.1, fun a na => ?_⟩⟩
  exact q _ _ (.tup ds) n1 (w1.xt (Xt.new na)) (k1.trans (Xt.new na).kp) (rep_tup (w1.notin na) na r1) h1.2
theorem de_lst (h : DA Xs K E es t) : DE Xs K E (.List es pos) (dLst t) := by
  obtain ⟨ve, pe, ee⟩ := h
  refine ⟨tLst ve, fun i => pe_lst (pe i), fun w x h q => ee w x h fun vs H1 ds n1 w1 k1 r1 h1 => ⟨by rw [← r1.len]; exact most_le h1.1, fun a na => ?_⟩⟩
  exact q _ _ (.lst ds) n1 (w1.xt (Xt.new na)) (k1.trans (Xt.new na).kp) (rep_lst (w1.notin na) na r1) h1.2

/-! ### operators, by values -/
/-- a two-place operation by values: f tells its data -/
def OpD (K : PySem.W.Frag) (r : R2) (f : D → D → Option D) : Prop :=
  ∀ {Z : Addr → Prop} {p : Addr} {H : Hp} {d1 d2 d : D} {x y : V} {Q : VK}, (∀ a, H a = none → ¬ Z a) → Rep K Z p H d1 x → Rep K Z p H d2 y → f d1 d2 = some d → (∀ v H', Xt H H' → Rep K Z p H' d v → Q v H') → r x y H Q
def UnD (K : PySem.W.Frag) (r : V → Hp → VK → Prop) (f : D → Option D) : Prop :=
  ∀ {Z : Addr → Prop} {p : Addr} {H : Hp} {d1 d : D} {x : V} {Q : VK}, (∀ a, H a = none → ¬ Z a) → Rep K Z p H d1 x → f d1 = some d → (∀ v H', Xt H H' → Rep K Z p H' d v → Q v H') → r x H Q
def ClD (K : PySem.W.Frag) (r : List V → Hp → VK → Prop) (f : List D → Option D) : Prop :=
  ∀ {Z : Addr → Prop} {p : Addr} {H : Hp} {ds : List D} {d : D} {xs : List V} {Q : VK}, (∀ a, H a = none → ¬ Z a) → Reps K Z p H ds xs → f ds = some d → (∀ v H', Xt H H' → Rep K Z p H' d v → Q v H') → r xs H Q
def dOp (f : D → D → Option D) (ta tb : TD) : TD := fun ρ n Q x => ta ρ n (fun d1 n1 => tb ρ n1 (fun d2 n2 => ∃ d, f d1 d2 = some d ∧ Q d n2) x) x
def dUn (f : D → Option D) (ta : TD) : TD := fun ρ n Q x => ta ρ n (fun d1 n1 => ∃ d, f d1 = some d ∧ Q d n1) x
def dCl (f : List D → Option D) (t : TDA) : TD := fun ρ n Q x => t ρ n (fun ds n1 => ∃ d, f ds = some d ∧ Q d n1) x
theorem ev_op {r : R2} {f : D → D → Option D} {va vb : TE} (o : OpD K r f) (ha : EvD K E va ta) (hb : EvD K E vb tb) : EvD K E (tOp r va vb) (dOp f ta tb) := fun w x h q =>
  ha w x h fun v1 H1 d1 n1 w1 k1 r1 h1 => hb w1 x h1 fun v2 H2 d2 n2 w2 k2 r2 ⟨d, e, h2⟩ => o (fun _ => w2.notin) (r1.mv (w1.mv k2)) r2 e fun v H' xt r => q v H' d n2 (w2.xt xt) ((k1.trans k2).trans xt.kp) r h2
theorem de_op {op : Operator} {r : R2} {f : D → D → Option D} (ho : ∀ i, OpR (Xs i) (binaryOp op) r) (o : OpD K r f) (ha : DE Xs K E a ta) (hb : DE Xs K E b tb) : DE Xs K E (.BinOp a op b pos) (dOp f ta tb) := by
  obtain ⟨va, pa, ea⟩ := ha
  obtain ⟨vb, pb, eb⟩ := hb
  exact ⟨tOp r va vb, fun i => pe_op (ho i) (pa i) (pb i), ev_op o ea eb⟩
theorem de_un {op : UnaryOp} {r : V → Hp → VK → Prop} {f : D → Option D} (ho : ∀ i, UnR (Xs i) (unaryOp op) r) (o : UnD K r f) (ha : DE Xs K E a ta) : DE Xs K E (.UnaryOp op a pos) (dUn f ta) := by
  obtain ⟨va, pa, ea⟩ := ha
  exact ⟨tUn r va, fun i => pe_un (ho i) (pa i), fun w x h q => ea w x h fun v1 H1 d1 n1 w1 k1 r1 ⟨d, e, h1⟩ => o (fun _ => w1.notin) r1 e fun v H' xt r => q v H' d n1 (w1.xt xt) (k1.trans xt.kp) r h1⟩
theorem de_cmp {op : CmpOp} {r : R2} {f : D → D → Option D} (ho : ∀ i, OpR (Xs i) (compareOp op) r) (o : OpD K r f) (ha : DE Xs K E a ta) (hb : DE Xs K E b tb) (hm : behindInMarks op b = false) : DE Xs K E (.Compare a [op] [b] pos) (dOp f ta tb) := by
  obtain ⟨va, pa, ea⟩ := ha
  obtain ⟨vb, pb, eb⟩ := hb
  exact ⟨tOp r va vb, fun i => pe_cmpR (ho i) (pa i) (pb i) hm, ev_op o ea eb⟩
/-- as a test -/
def dTest (t : TD) : TDT := fun ρ n Q x => t ρ n (fun d n1 => ∃ k, d = .bl k ∧ Q k n1) x
theorem ev_test {va : TE} (ha : EvD K E va ta) : EvT K E (tTest va) (dTest ta) := fun w x h q => ha w x h fun v1 H1 d1 n1 w1 k1 r1 ⟨k, e, h1⟩ => by
  subst e
  exact ⟨k, r1, q k H1 n1 w1 k1 h1⟩
theorem dt_cmp {op : CmpOp} {r : R2} {f : D → D → Option D} (ho : ∀ i, OpR (Xs i) (compareOp op) r) (o : OpD K r f) (ha : DE Xs K E a ta) (hb : DE Xs K E b tb) (hm : behindInMarks op b = false) : DT Xs K E (.Compare a [op] [b] pos) (dTest (dOp f ta tb)) := by
  obtain ⟨va, pa, ea⟩ := ha
  obtain ⟨vb, pb, eb⟩ := hb
  exact ⟨_, fun i => pt_cmpR (ho i) (pa i) (pb i) hm, ev_test (ev_op o ea eb)⟩
theorem dt_val (h : DE Xs K E e te) (he : ∀ i whole, isTrue e (Xs i).env whole = (do let v ← whole; standAt e.pos; holding [v] (truthy v)) := by intro _ _; rfl) : DT Xs K E e (dTest te) := by
  obtain ⟨ve, pe, ee⟩ := h
  exact ⟨tB ve, fun i => pt_val (pe i) (he i), fun w x h q => ee w x h fun v1 H1 d1 n1 w1 k1 r1 ⟨k, e, h1⟩ => by
    subst e
    exact ⟨k, r1, q k H1 n1 w1 k1 h1⟩⟩
/-! ### and, or, not; a chain -/
variable {tt uu : TDT} {rest : List Expr}
def dAnd (t u : TDT) : TDT := fun ρ n Q x => t ρ n (fun c n1 => if c = true then u ρ n1 Q x else Q false n1) x
def dOr (t u : TDT) : TDT := fun ρ n Q x => t ρ n (fun c n1 => if c = true then Q true n1 else u ρ n1 Q x) x
def dNot (t : TDT) : TDT := fun ρ n Q x => t ρ n (fun c n1 => Q (!c) n1) x
theorem dw_and1 (ha : DT Xs K E a tt) : DW Xs K E (.BoolOp .And [a] pos) tt := let ⟨v, p, h⟩ := ha; ⟨v, fun i => pw_and1 (p i), h⟩
theorem dw_or1 (ha : DT Xs K E a tt) : DW Xs K E (.BoolOp .Or [a] pos) tt := let ⟨v, p, h⟩ := ha; ⟨v, fun i => pw_or1 (p i), h⟩
theorem dw_and (ha : DT Xs K E a tt) (hb : DW Xs K E (.BoolOp .And (b :: rest) pos) uu) : DW Xs K E (.BoolOp .And (a :: b :: rest) pos) (dAnd tt uu) := by
  obtain ⟨va, pa, ea⟩ := ha
  obtain ⟨vb, pb, eb⟩ := hb
  refine ⟨tAnd va vb, fun i => pw_and (pa i) (pb i), fun w x h q => ea w x h fun c H1 n1 w1 k1 h1 => ?_⟩
  cases c with
  | true => exact eb w1 x h1 fun c H2 n2 w2 k2 h2 => q c H2 n2 w2 (k1.trans k2) h2
  | false => exact q false H1 n1 w1 k1 h1
theorem dw_or (ha : DT Xs K E a tt) (hb : DW Xs K E (.BoolOp .Or (b :: rest) pos) uu) : DW Xs K E (.BoolOp .Or (a :: b :: rest) pos) (dOr tt uu) := by
  obtain ⟨va, pa, ea⟩ := ha
  obtain ⟨vb, pb, eb⟩ := hb
  refine ⟨tOr va vb, fun i => pw_or (pa i) (pb i), fun w x h q => ea w x h fun c H1 n1 w1 k1 h1 => ?_⟩
  cases c with
  | true => exact q true H1 n1 w1 k1 h1
  | false => exact eb w1 x h1 fun c H2 n2 w2 k2 h2 => q c H2 n2 w2 (k1.trans k2) h2
theorem DW.dt (h : DW Xs K E e tt) : DT Xs K E e tt := let ⟨v, p, h⟩ := h; ⟨v, fun i => (p i).pt, h⟩
theorem dt_not (ha : DT Xs K E a tt) : DT Xs K E (.UnaryOp .Not a pos) (dNot tt) := by
  obtain ⟨va, pa, ea⟩ := ha
  exact ⟨tNot va, fun i => pt_not (pa i), fun w x h q => ea w x h fun c H1 n1 w1 k1 h1 => q (!c) H1 n1 w1 k1 h1⟩
def dAndV (ta tb : TD) : TD := fun ρ n Q x => ta ρ n (fun d n1 => ∃ c, d = .bl c ∧ if c = true then tb ρ n1 Q x else Q (.bl false) n1) x
def dOrV (ta tb : TD) : TD := fun ρ n Q x => ta ρ n (fun d n1 => ∃ c, d = .bl c ∧ if c = true then Q (.bl true) n1 else tb ρ n1 Q x) x
def dNotV (ta : TD) : TD := fun ρ n Q x => ta ρ n (fun d n1 => ∃ c, d = .bl c ∧ Q (.bl (!c)) n1) x
theorem de_one {op} (h : DE Xs K E a ta) : DE Xs K E (.BoolOp op [a] pos) ta := let ⟨v, p, h⟩ := h; ⟨v, fun i => pe_one (p i), h⟩
theorem de_and (ha : DE Xs K E a ta) (hb : DE Xs K E (.BoolOp .And (b :: rest) pos) tb) : DE Xs K E (.BoolOp .And (a :: b :: rest) pos) (dAndV ta tb) := by
  obtain ⟨va, pa, ea⟩ := ha
  obtain ⟨vb, pb, eb⟩ := hb
  refine ⟨tAndV va vb, fun i => pe_and (pa i) (pb i), fun w x h q => ea w x h fun v1 H1 d1 n1 w1 k1 r1 ⟨c, e, h1⟩ => ?_⟩
  subst e
  refine ⟨c, r1, ?_⟩
  cases c with
  | true => exact eb w1 x h1 fun v H2 d n2 w2 k2 r h2 => q v H2 d n2 w2 (k1.trans k2) r h2
  | false => exact q _ H1 (.bl false) n1 w1 k1 rfl h1
theorem de_or (ha : DE Xs K E a ta) (hb : DE Xs K E (.BoolOp .Or (b :: rest) pos) tb) : DE Xs K E (.BoolOp .Or (a :: b :: rest) pos) (dOrV ta tb) := by
  obtain ⟨va, pa, ea⟩ := ha
  obtain ⟨vb, pb, eb⟩ := hb
  refine ⟨tOrV va vb, fun i => pe_or (pa i) (pb i), fun w x h q => ea w x h fun v1 H1 d1 n1 w1 k1 r1 ⟨c, e, h1⟩ => ?_⟩
  subst e
  refine ⟨c, r1, ?_⟩
  cases c with
  | true => exact q _ H1 (.bl true) n1 w1 k1 rfl h1
  | false => exact eb w1 x h1 fun v H2 d n2 w2 k2 r h2 => q v H2 d n2 w2 (k1.trans k2) r h2
theorem de_not (ha : DE Xs K E a ta) : DE Xs K E (.UnaryOp .Not a pos) (dNotV ta) := by
  obtain ⟨va, pa, ea⟩ := ha
  refine ⟨tNotV va, fun i => pe_not (pa i), fun w x h q => ea w x h fun v1 H1 d1 n1 w1 k1 r1 ⟨c, e, h1⟩ => ?_⟩
  subst e
  exact ⟨c, r1, q _ H1 (.bl (!c)) n1 w1 k1 rfl h1⟩
def dIf (t : TDT) (ta tb : TD) : TD := fun ρ n Q x => t ρ n (fun c n1 => if c = true then ta ρ n1 Q x else tb ρ n1 Q x) x
theorem de_if (hc : DT Xs K E c tt) (ha : DE Xs K E a ta) (hb : DE Xs K E b tb) : DE Xs K E (.IfExp c a b pos) (dIf tt ta tb) := by
  obtain ⟨vc, pc, ec⟩ := hc
  obtain ⟨va, pa, ea⟩ := ha
  obtain ⟨vb, pb, eb⟩ := hb
  refine ⟨tIf vc va vb, fun i => pe_ifExp (pc i) (pa i) (pb i), fun w x h q => ec w x h fun c H1 n1 w1 k1 h1 => ?_⟩
  cases c with
  | true => exact ea w1 x h1 fun v H2 d n2 w2 k2 r h2 => q v H2 d n2 w2 (k1.trans k2) r h2
  | false => exact eb w1 x h1 fun v H2 d n2 w2 k2 r h2 => q v H2 d n2 w2 (k1.trans k2) r h2
def dChain (f g : D → D → Option D) (ta tb tc : TD) : TD := fun ρ n Q x => ta ρ n (fun d1 n1 => tb ρ n1 (fun d2 n2 => ∃ k, f d1 d2 = some (.bl k) ∧ if k = true then tc ρ n2 (fun d3 n3 => ∃ d, g d2 d3 = some d ∧ Q d n3) x else Q (.bl false) n2) x) x
theorem ev_chain {r r' : R2} {f g : D → D → Option D} {va vb vc : TE} (o : OpD K r f) (o' : OpD K r' g) (ha : EvD K E va ta) (hb : EvD K E vb tb) (hc : EvD K E vc tc) : EvD K E (tChain r r' va vb vc) (dChain f g ta tb tc) := fun w x h q =>
  ha w x h fun v1 H1 d1 n1 w1 k1 r1 h1 => hb w1 x h1 fun v2 H2 d2 n2 w2 k2 r2 ⟨k, e, h2⟩ => o (fun _ => w2.notin) (r1.mv (w1.mv k2)) r2 e fun v H3 xt r => ⟨k, r, by
    have w3 := w2.xt xt
    cases k with
    | true => exact hc w3 x h2 fun v3 H4 d3 n4 w4 k4 r4 ⟨d, e4, h4⟩ => o' (fun _ => w4.notin) (r2.mv (w2.mv (xt.kp.trans k4))) r4 e4 fun v5 H5 xt5 r5 => q v5 H5 d n4 (w4.xt xt5) ((((k1.trans k2).trans xt.kp).trans k4).trans xt5.kp) r5 h4
    | false => exact q _ H3 (.bl false) n2 w3 ((k1.trans k2).trans xt.kp) rfl h2⟩
theorem de_chain {op op' : CmpOp} {r r' : R2} {f g : D → D → Option D} (ho : ∀ i, OpR (Xs i) (compareOp op) r) (o : OpD K r f) (ho' : ∀ i, OpR (Xs i) (compareOp op') r') (o' : OpD K r' g) (ha : DE Xs K E a ta) (hb : DE Xs K E b tb) (hc : DE Xs K E c tc)
    (hm : lastMarks [op, op'] [b, c] = false := by with_unfolding_all rfl) : DE Xs K E (.Compare a [op, op'] [b, c] pos) (dChain f g ta tb tc) := by
  obtain ⟨va, pa, ea⟩ := ha
  obtain ⟨vb, pb, eb⟩ := hb
  obtain ⟨vc, pc, ec⟩ := hc
  exact ⟨_, fun i => pe_chain (ho i) (ho' i) (pa i) (pb i) (pc i) hm, ev_chain o o' ea eb ec⟩
theorem dt_chain {op op' : CmpOp} {r r' : R2} {f g : D → D → Option D} (ho : ∀ i, OpR (Xs i) (compareOp op) r) (o : OpD K r f) (ho' : ∀ i, OpR (Xs i) (compareOp op') r') (o' : OpD K r' g) (ha : DE Xs K E a ta) (hb : DE Xs K E b tb) (hc : DE Xs K E c tc)
    (hm : lastMarks [op, op'] [b, c] = false := by with_unfolding_all rfl) : DT Xs K E (.Compare a [op, op'] [b, c] pos) (dTest (dChain f g ta tb tc)) := by
  obtain ⟨va, pa, ea⟩ := ha
  obtain ⟨vb, pb, eb⟩ := hb
  obtain ⟨vc, pc, ec⟩ := hc
  exact ⟨_, fun i => pt_chain (ho i) (ho' i) (pa i) (pb i) (pc i) hm, ev_test (ev_chain o o' ea eb ec)⟩
end
end DL
set_option Elab.async false
set_option linter.all false
set_option maxRecDepth 100000
set_option maxHeartbeats 1000000
set_option autoImplicit false
/-! DL: calls, targets, statements, loops, comprehensions. -/
namespace DL
open PySem L2

/-- a def's promise over data -/
def spD (K : PySem.W.Frag) (F : DF) : Sp := fun vs H Q E => ∃ (ds : List D) (Z : Addr → Prop) (p : Addr) (n : Nat) (x : DX) (Qd : DQ), PotAt H p n ∧ Z p ∧ (∀ a, Z a → H a ≠ none) ∧ Reps K Z p H ds vs ∧ F ds n Qd x ∧
  (∀ d n' v H', PotAt H' p n' → Kp p H H' → Rep K Z p H' d v → Qd d n' → Q v H') ∧ HE K p H Z x E

section
variable {ι : Type} {Xs : ι → Cx} {K : PySem.W.Frag} {E : XK} {pos : Pos} {a b c e o : Expr} {es : List Expr} {ta tb tc te to : TD} {t : TDA}
theorem HE.later {p : Addr} {H0 H : Hp} {Z0 Z : Addr → Prop} {x : DX} (h : HE K p H0 Z0 x E) (k : Kp p H0 H) (s : ∀ a, Z0 a → Z a) : HE K p H Z x E := fun C l n dx fs H' hx hp hk hd nz r =>
  h C l n dx fs H' hx hp (k.trans hk) hd (fun z => nz (s dx z)) (r.mv fun a o z h => ⟨fun q => z (s a q), h⟩)
theorem sp_of {p : Addr} {H0 H : Hp} {Z0 Z : Addr → Prop} {ρ : DSt} {σ : St} {n : Nat} {x : DX} {F : DF} {ds : List D} {vs : List V} {Q : DQ} {Qv : VK} (w : Wd K p H0 Z0 ρ n Z σ H) (hx : HE K p H0 Z0 x E) (r : Reps K Z p H ds vs) (h : F ds n Q x)
    (q : ∀ v H' d n', Wd K p H0 Z0 ρ n' Z σ H' → Kp p H H' → Rep K Z p H' d v → Q d n' → Qv v H') : spD K F vs H Qv E :=
  ⟨ds, Z, p, n, x, Q, w.pot, w.zpp, w.dom, r, h, fun d n' v H' hp k r hq => q v H' d n' (w.kp k hp) k r hq, hx.later w.keep w.sub⟩
def dCall (F : DF) (dd : List D) (t : TDA) : TD := fun ρ n Q x => t ρ n (fun ds n1 => F (ds ++ dd) n1 Q x) x
theorem ev_call {F : DF} {dd : List D} {dvs : List V} {vt : TA} (rd : ∀ Z p H, Reps K Z p H dd dvs) (h : EvA K E vt t) : EvD K E (tCall (spD K F) dvs E vt) (dCall F dd t) := fun w x hh q =>
  h w x hh fun vs H1 ds n1 w1 k1 r1 h1 => sp_of w1 x (r1.app (rd _ _ _)) h1 fun v H' d n' w' k' r' h' => q v H' d n' w' (k1.trans k') r' h'
theorem de_call {k : Nat} {f : Addr} {fd : FuncData} {ps : List Str} {F : DF} {dd : List D} {dvs : List V} {ds : List Value} {x : Str} {q : Pos} {CX : CXT} (G : ∀ i, FnOk (Xs i).prog (Xs i).w (Xs i).K (Xs i).mg (Xs i).base CX k f fd ps (spD K F)) (hr : ∀ i, Room k (Xs i).A) (hg : ∀ i, Gl (Xs i) x) (hm : ∀ i, (Xs i).mg x = some (.ref f)) (hk : ∀ i, PySem.W.keepIn (Xs i).K (.ref f) = true)
    (hb : ∀ i, Binds (Xs i).K fd ps ds) (hd : Vals dvs ds) (rd : ∀ Z p H, Reps K Z p H dd dvs) (hx : ∀ i, Passes CX (Xs i) E) (ha : DA Xs K E (e :: es) t) (hdb : (x == ("__debug__" : Str)) = false := by decide)
    (he : ∀ i, starEach (e :: es) (Xs i).env = (false, eval e (Xs i).env) :: starEach es (Xs i).env := by intro _; rfl) (hpl : ∀ i, (backTo pos (starEach es (Xs i).env)).any (·.1) = false := by intro _; rfl) :
    DE Xs K E (.Call (.Name x q) (e :: es) [] pos) (dCall F dd t) := by
  obtain ⟨va, pa, ea⟩ := ha
  exact ⟨_, fun i => pe_call (G i) (hr i) (hg i) (hm i) (hk i) (hb i) hd (hx i) (pa i) hdb (he i) (hpl i), ev_call rd ea⟩
theorem de_call0 {k : Nat} {f : Addr} {fd : FuncData} {ps : List Str} {F : DF} {dd : List D} {dvs : List V} {ds : List Value} {x : Str} {q : Pos} {CX : CXT} (G : ∀ i, FnOk (Xs i).prog (Xs i).w (Xs i).K (Xs i).mg (Xs i).base CX k f fd ps (spD K F)) (hr : ∀ i, Room k (Xs i).A) (hg : ∀ i, Gl (Xs i) x) (hm : ∀ i, (Xs i).mg x = some (.ref f)) (hk : ∀ i, PySem.W.keepIn (Xs i).K (.ref f) = true)
    (hb : ∀ i, Binds (Xs i).K fd ps ds) (hd : Vals dvs ds) (rd : ∀ Z p H, Reps K Z p H dd dvs) (hx : ∀ i, Passes CX (Xs i) E) (hdb : (x == ("__debug__" : Str)) = false := by decide) :
    DE Xs K E (.Call (.Name x q) [] [] pos) (dCall F dd dNil) :=
  ⟨_, fun i => pe_call0 (G i) (hr i) (hg i) (hm i) (hk i) (hb i) hd (hx i) hdb, ev_call rd fun w _ h q => q [] _ [] _ w Kp.refl rfl h⟩
/-- a built-in, by values -/
theorem ev_cb {r : List V → Hp → VK → Prop} {f : List D → Option D} {vt : TA} (o : ClD K r f) (h : EvA K E vt t) : EvD K E (tCB r vt) (dCl f t) := fun w x hh q =>
  h w x hh fun vs H1 ds n1 w1 k1 r1 ⟨d, e1, h1⟩ => o (fun _ => w1.notin) r1 e1 fun v H' xt r' => q v H' d n1 (w1.xt xt) (k1.trans xt.kp) r' h1
theorem de_callB {id : String} {r : List V → Hp → VK → Prop} {f : List D → Option D} {x : Str} {q : Pos} (hc : ∀ i, CallR (Xs i) (.builtin id) r) (o : ClD K r f) (hg : ∀ i, Gl (Xs i) x) (hm : ∀ i, (Xs i).mg x = none) (hv : bootBuiltins x = some (.builtin id)) (ha : DA Xs K E (e :: es) t)
    (hn : x ≠ "__name__" := by decide) (hdb : (x == ("__debug__" : Str)) = false := by decide)
    (he : ∀ i, starEach (e :: es) (Xs i).env = (false, eval e (Xs i).env) :: starEach es (Xs i).env := by intro _; rfl) (hpl : ∀ i, (backTo pos (starEach es (Xs i).env)).any (·.1) = false := by intro _; rfl) :
    DE Xs K E (.Call (.Name x q) (e :: es) [] pos) (dCl f t) := by
  obtain ⟨va, pa, ea⟩ := ha
  exact ⟨_, fun i => pe_callB (hc i) (hg i) (hm i) hv (pa i) hn hdb (he i) (hpl i), ev_cb o ea⟩
theorem de_callT {T : String} {r : List V → Hp → VK → Prop} {f : List D → Option D} {x : Str} {q : Pos} (hc : ∀ i, CallR (Xs i) (.type T) r) (o : ClD K r f) (hg : ∀ i, Gl (Xs i) x) (hm : ∀ i, (Xs i).mg x = none) (hv : bootBuiltins x = some (.type T)) (ha : DA Xs K E (e :: es) t)
    (hn : x ≠ "__name__" := by decide) (hdb : (x == ("__debug__" : Str)) = false := by decide)
    (he : ∀ i, starEach (e :: es) (Xs i).env = (false, eval e (Xs i).env) :: starEach es (Xs i).env := by intro _; rfl) (hpl : ∀ i, (backTo pos (starEach es (Xs i).env)).any (·.1) = false := by intro _; rfl) :
    DE Xs K E (.Call (.Name x q) (e :: es) [] pos) (dCl f t) := by
  obtain ⟨va, pa, ea⟩ := ha
  exact ⟨_, fun i => pe_callTy (hc i) (hg i) (hm i) hv (pa i) hn hdb (he i) (hpl i), ev_cb o ea⟩
/-- a[i] -/
theorem de_ix {r : R2} {f : D → D → Option D} (hr : ∀ i, IxR (Xs i) r) (o : OpD K r f) (ha : DE Xs K E a ta) (hb : DE Xs K E b tb) (hs : PlainIx b) : DE Xs K E (.Subscript a b pos) (dOp f ta tb) := by
  obtain ⟨va, pa, ea⟩ := ha
  obtain ⟨vb, pb, eb⟩ := hb
  exact ⟨tOp r va vb, fun i => pe_ix (hr i) (pa i) (pb i) hs, ev_op o ea eb⟩
/-- a field -/
def dFld (C : Addr) (f : Str) (ta : TD) : TD := fun ρ n Q x => ta ρ n (fun d n1 => ∃ l r, d = .ins C l ∧ l.lookup f = some r ∧ Q r n1) x
theorem de_fld {f : Str} {C : Addr} (hK : ∀ i, (Xs i).K = K) (hC : Cls K C) (hA : NoAttr K C f) (ha : DE Xs K E a ta) (hb : ∀ i, attributeBase a f (Xs i).env (eval a (Xs i).env) = eval a (Xs i).env) : DE Xs K E (.Attribute a f pos) (dFld C f ta) := by
  obtain ⟨va, pa, ea⟩ := ha
  refine ⟨tFld K va f, fun i => ?_, fun w x h q => ea w x h fun v1 H1 d1 n1 w1 k1 r1 ⟨l, r, e1, e2, h1⟩ => ?_⟩
  · have := pe_fld (pos := pos) (f := f) (pa i) (hb i)
    rw [hK i] at this
    exact this
  · subst e1
    obtain ⟨a1, dx, fs, ev, ⟨z, hh⟩, rf⟩ := r1
    obtain ⟨u, lu, ru⟩ := rf.look e2
    exact ⟨a1, C, dx, fs, u, ev, hh, hC, hA, lu, q u H1 r n1 w1 k1 ru h1⟩
end

/-! ### targets -/
def Tch (ts : List Nat) (σ σ' : St) : Prop := σ'.length = σ.length ∧ ∀ i, i ∉ ts → σ'[i]? = σ[i]?
theorem Tch.refl {ts : List Nat} {σ : St} : Tch ts σ σ := ⟨rfl, fun _ _ => rfl⟩
theorem Tch.trans {ts us : List Nat} {σ σ1 σ2 : St} (a : Tch ts σ σ1) (b : Tch us σ1 σ2) : Tch (ts ++ us) σ σ2 := ⟨b.1.trans a.1, fun i h => (b.2 i fun z => h (List.mem_append_right _ z)).trans (a.2 i fun z => h (List.mem_append_left _ z))⟩
theorem wipe_at (σ : St) (i : Nat) : ∀ vs : List Nat, (wipe σ vs)[i]? = if i ∈ vs ∧ i < σ.length then some none else σ[i]?
  | [] => by simp [wipe]
  | v :: vs => by
    unfold wipe
    have ih := wipe_at σ i vs
    by_cases e : v = i
    · subst e
      by_cases hl : v < σ.length
      · rw [List.getElem?_set_self (by rw [wipe_length]; exact hl)]
        simp [hl]
      · rw [List.getElem?_eq_none (by rw [List.length_set, wipe_length]; omega), List.getElem?_eq_none (show σ.length ≤ v by omega)]
        simp [hl]
    · rw [List.getElem?_set_ne e, ih]
      simp [Ne.symm e]
theorem Tch.wipe {ts vs : List Nat} {σ σ' : St} (h : Tch ts σ σ') (s : ∀ i ∈ ts, i ∈ vs) : wipe σ' vs = wipe σ vs := by
  refine List.ext_getElem? fun i => ?_
  rw [wipe_at, wipe_at, h.1]
  by_cases hi : i ∈ vs ∧ i < σ.length
  · rw [if_pos hi, if_pos hi]
  · rw [if_neg hi, if_neg hi]
    by_cases ht : i ∈ ts
    · have hl : σ.length ≤ i := by
        have := s i ht
        by_cases q : i < σ.length
        · exact absurd ⟨this, q⟩ hi
        · omega
      rw [List.getElem?_eq_none hl, List.getElem?_eq_none (by rw [h.1]; exact hl)]
    · exact h.2 i ht
theorem wipe_wipe (σ : St) (vs : List Nat) : wipe (wipe σ vs) vs = wipe σ vs := by
  refine List.ext_getElem? fun i => ?_
  rw [wipe_at, wipe_length, wipe_at]
  by_cases hi : i ∈ vs ∧ i < σ.length
  · rw [if_pos hi]; simp [hi]
  · rw [if_neg hi]; try simp [hi]
abbrev TDG := D → DSt → Option DSt
def GvD (K : PySem.W.Frag) (g : TG) (ts : List Nat) (f : TDG) : Prop :=
  ∀ {p : Addr} {H0 : Hp} {Z0 : Addr → Prop} {ρ ρ' : DSt} {n : Nat} {Z : Addr → Prop} {σ : St} {H : Hp} {d : D} {v : V} {Qv : St → Hp → Prop}, Wd K p H0 Z0 ρ n Z σ H → Rep K Z p H d v → f d ρ = some ρ' →
    (∀ σ', Wd K p H0 Z0 ρ' n Z σ' H → Tch ts σ σ' → Qv σ' H) → g v σ H Qv
def GsD (K : PySem.W.Frag) (g : TGs) (ts : List Nat) (f : List D → DSt → Option DSt) : Prop :=
  ∀ {p : Addr} {H0 : Hp} {Z0 : Addr → Prop} {ρ ρ' : DSt} {n : Nat} {Z : Addr → Prop} {σ : St} {H : Hp} {d : List D} {v : List V} {Qv : St → Hp → Prop}, Wd K p H0 Z0 ρ n Z σ H → Reps K Z p H d v → f d ρ = some ρ' →
    (∀ σ', Wd K p H0 Z0 ρ' n Z σ' H → Tch ts σ σ' → Qv σ' H) → g v σ H Qv
section
variable {ι : Type} {Xs : ι → Cx} {K : PySem.W.Frag} {E : XK} {pos : Pos} {tg : Expr} {tgs : List Expr} {ts us : List Nat} {f : TDG} {fs : List D → DSt → Option DSt}
def DG (Xs : ι → Cx) (K : PySem.W.Frag) (tg : Expr) (ts : List Nat) (f : TDG) : Prop := ∃ g, (∀ i, PG (Xs i) tg g) ∧ GvD K g ts f
def DGs (Xs : ι → Cx) (K : PySem.W.Frag) (tg : List Expr) (ts : List Nat) (f : List D → DSt → Option DSt) : Prop := ∃ g, (∀ i, PGs (Xs i) tg g) ∧ GsD K g ts f
def gN (i : Nat) : TDG := fun d ρ => some (ρ.set i (some (.val d)))
theorem dg_name {i : Nat} {x : Str} (hN : ∀ j, (Xs j).N.Nodup) (hi : ∀ j, (Xs j).N[i]? = some x) (hx : ∀ j, Loc (Xs j).env.scope x) (hf : ∀ j, (Xs j).fn x = true ∨ (Xs j).env.scope.names.lookup x = some .local) : DG Xs K (.Name x pos) [i] (gN i) :=
  ⟨gName i, fun j => pg_name (hN j) (hi j) (hx j) (hf j), fun w r e q => by
    cases e
    exact q _ (w.set i r) ⟨List.length_set, fun j h => List.getElem?_set_ne (fun z => h (by rw [z]; exact List.mem_singleton.mpr rfl))⟩⟩
def gsNil : List D → DSt → Option DSt := fun ds ρ => match ds with | [] => some ρ | _ => none
def gsCons (f : TDG) (g : List D → DSt → Option DSt) : List D → DSt → Option DSt := fun ds ρ => match ds with | d :: r => (f d ρ).bind fun ρ' => g r ρ' | _ => none
theorem dgs_nil : DGs Xs K [] [] gsNil := ⟨gNil, fun _ => pgs_nil, fun {p H0 Z0 ρ ρ' n Z σ H d v Qv} w r e q => by
  cases d with
  | nil => cases e; exact ⟨r, q _ w .refl⟩
  | cons _ _ => cases e⟩
theorem dgs_cons (h1 : DG Xs K tg ts f) (h2 : DGs Xs K tgs us fs) (hs : ∀ i, (assignEach (tg :: tgs) (Xs i).env).map (·.2) = assign tg (Xs i).env :: (assignEach tgs (Xs i).env).map (·.2) := by intro _; rfl) : DGs Xs K (tg :: tgs) (ts ++ us) (gsCons f fs) := by
  obtain ⟨g1, p1, e1⟩ := h1
  obtain ⟨g2, p2, e2⟩ := h2
  refine ⟨gCons g1 g2, fun i => pgs_cons (p1 i) (p2 i) (hs i), fun {p H0 Z0 ρ ρ' n Z σ H d v Qv} w r e q => ?_⟩
  cases d with
  | nil => cases e
  | cons d0 dr =>
    obtain ⟨v0, vr, ev, r0, rr⟩ := r
    have e : (f d0 ρ).bind (fun ρ' => fs dr ρ') = some ρ' := e
    cases h : f d0 ρ with
    | none => rw [h] at e; cases e
    | some ρ1 =>
      rw [h] at e
      exact ⟨v0, vr, ev, e1 w r0 h fun σ1 w1 t1 => e2 w1 rr e fun σ2 w2 t2 => q σ2 w2 (t1.trans t2)⟩
def gT (k : Nat) (fs : List D → DSt → Option DSt) : TDG := fun d ρ => match d with | .tup ds => if ds.length = k then fs ds ρ else none | _ => none
theorem sqT_of {Z : Addr → Prop} {H : Hp} {a : Addr} {vs : List V} (h : (¬ Z a ∧ Rd H a (.tup vs)) ∨ WrT K a vs) : SqT K H a vs := h.imp (fun q => q.2) id
theorem sqL_of {Z : Addr → Prop} {H : Hp} {a : Addr} {vs : List V} (h : ¬ Z a ∧ H a = some (.lst vs)) : SqL K H a vs := .inl (.inl h.2)
theorem dg_tup {k : Nat} {j : Nat} (hK : ∀ i, (Xs i).K = K) (hc : ∀ i, (Xs i).calm = true) (h : DGs Xs K tgs ts fs) (hn : ∀ i, (assignEach tgs (Xs i).env).length = k := by intro _; rfl) (hst : ∀ i, (assignEach tgs (Xs i).env).findIdx? (·.1) = none := by intro _; rfl) : DG Xs K (.Tuple tgs j pos) ts (gT k fs) := by
  obtain ⟨g, pg, eg⟩ := h
  refine ⟨gTup K k g, fun i => ?_, fun {p H0 Z0 ρ ρ' n Z σ H d v Qv} w r e q => ?_⟩
  · have := pg_tup (pos := pos) (k := j) (hc i) (pg i) (hn i) (hst i)
    rw [hK i] at this
    exact this
  · cases d with
    | tup ds =>
      obtain ⟨a, vs, ev, hs, rs⟩ := r
      have e : (if ds.length = k then fs ds ρ else none) = some ρ' := e
      by_cases hl : ds.length = k
      · rw [if_pos hl] at e
        exact ⟨a, vs, ev, sqT_of hs, by rw [← rs.len]; exact hl, eg w rs e q⟩
      · rw [if_neg hl] at e; cases e
    | _ => cases e

/-! ### statements -/
variable {st : Stmt} {rest : List Stmt} {s1 s2 : TDS} {e c : Expr} {te : TD} {tt : TDT}
def dSeq (s u : TDS) : TDS := fun De ρ n x => s { De with nx := fun ρ' n' => u De ρ' n' x } ρ n x
def dNext : TDS := fun De ρ n _ => De.nx ρ n
theorem dss_nil : DSs Xs K E [] dNext := ⟨tNext, fun _ => pss_nil, fun w _ h q _ _ _ => q _ _ _ _ _ w .refl h⟩
theorem dss_one (h : DS Xs K E st s1) : DSs Xs K E [st] s1 := let ⟨v, p, h⟩ := h; ⟨v, fun i => pss_one (p i), h⟩
theorem dss_cons (h : DS Xs K E st s1) (h2 : DSs Xs K E rest s2) : DSs Xs K E (st :: rest) (dSeq s1 s2) := by
  obtain ⟨v1, p1, e1⟩ := h
  obtain ⟨v2, p2, e2⟩ := h2
  refine ⟨tSeq v1 v2, fun i => pss_cons (p1 i) (p2 i), fun {p H0 Z0 ρ n Z σ H x De Dv} w x h qn qr qb qc => ?_⟩
  refine e1 (De := { De with nx := fun ρ' n' => s2 De ρ' n' _ }) w x h (fun ρ1 n1 Z1 σ1 H1 w1 m1 h1 => ?_) qr qb qc
  exact e2 w1 x h1 (fun ρ2 n2 Z2 σ2 H2 w2 m2 => qn ρ2 n2 Z2 σ2 H2 w2 (m1.trans m2)) qr (fun ρ2 n2 Z2 σ2 H2 w2 m2 => qb ρ2 n2 Z2 σ2 H2 w2 (m1.trans m2)) (fun ρ2 n2 Z2 σ2 H2 w2 m2 => qc ρ2 n2 Z2 σ2 H2 w2 (m1.trans m2))
def dRet (t : TD) : TDS := fun De ρ n x => t ρ n De.rt x
theorem ds_ret (h : DE Xs K E e te) : DS Xs K E (.Return (some e) pos) (dRet te) := by
  obtain ⟨v, p, h⟩ := h
  exact ⟨tRet v, fun i => ps_ret (p i), fun w x hh _ qr _ _ => h w x hh fun u H' d n' w' k' r' h' => qr u H' d n' w'.pot w'.keep (r'.mv fun a o z h => ⟨fun q => z (w'.sub a q), h⟩) h'⟩
def dIfS (t : TDT) (s u : TDS) : TDS := fun De ρ n x => t ρ n (fun b n1 => if b = true then s De ρ n1 x else u De ρ n1 x) x
theorem ds_if {as bs : List Stmt} (hc : DT Xs K E c tt) (ha : DSs Xs K E as s1) (hb : DSs Xs K E bs s2) : DS Xs K E (.If c as bs pos) (dIfS tt s1 s2) := by
  obtain ⟨vc, pc, ec⟩ := hc
  obtain ⟨va, pa, ea⟩ := ha
  obtain ⟨vb, pb, eb⟩ := hb
  refine ⟨tIfS vc va vb, fun i => ps_if (pc i) (pa i) (pb i), fun {p H0 Z0 ρ n Z σ H x De Dv} w x h qn qr qb qc => ec w x h fun b H1 n1 w1 k1 h1 => ?_⟩
  have m := w.mv k1
  cases b with
  | true => exact ea w1 x h1 (fun ρ2 n2 Z2 σ2 H2 w2 m2 => qn ρ2 n2 Z2 σ2 H2 w2 (m.trans m2)) qr (fun ρ2 n2 Z2 σ2 H2 w2 m2 => qb ρ2 n2 Z2 σ2 H2 w2 (m.trans m2)) (fun ρ2 n2 Z2 σ2 H2 w2 m2 => qc ρ2 n2 Z2 σ2 H2 w2 (m.trans m2))
  | false => exact eb w1 x h1 (fun ρ2 n2 Z2 σ2 H2 w2 m2 => qn ρ2 n2 Z2 σ2 H2 w2 (m.trans m2)) qr (fun ρ2 n2 Z2 σ2 H2 w2 m2 => qb ρ2 n2 Z2 σ2 H2 w2 (m.trans m2)) (fun ρ2 n2 Z2 σ2 H2 w2 m2 => qc ρ2 n2 Z2 σ2 H2 w2 (m.trans m2))
def dAsg (t : TD) (f : TDG) : TDS := fun De ρ n x => t ρ n (fun d n1 => ∃ ρ', f d ρ = some ρ' ∧ De.nx ρ' n1) x
theorem ev_asg {ve : TE} {g : TG} (h : EvD K E ve te) (hg : GvD K g ts f) : StD K E (tAsg ve g) (dAsg te f) := fun {p H0 Z0 ρ n Z σ H x De Dv} w x hh qn qr qb qc =>
  h w x hh fun u H1 d n1 w1 k1 r1 ⟨ρ', ef, h1⟩ => hg w1 r1 ef fun σ' w' _ => qn ρ' n1 Z σ' H1 w' (w.mv k1) h1
/-- x = e -/
theorem ds_set {i : Nat} {x : Str} {pos' : Pos} (hN : ∀ j, (Xs j).N.Nodup) (hi : ∀ j, (Xs j).N[i]? = some x) (hx : ∀ j, Loc (Xs j).env.scope x) (hf : ∀ j, (Xs j).fn x = true ∨ (Xs j).env.scope.names.lookup x = some .local) (he : DE Xs K E e te) (hs : ∀ j, swapsWith e (some (.Name x pos')) pos.line (Xs j).env = pure false := by intro _; rfl) :
    DS Xs K E (.Assign [.Name x pos'] e pos) (dAsg te (gN i)) := by
  obtain ⟨v, p, h⟩ := he
  obtain ⟨g, pg, eg⟩ := dg_name (K := K) (pos := pos') hN hi hx hf
  refine ⟨tAsg v (gName i), fun j => ps_set (hN j) (hi j) (hx j) (p j) (hs j) (hf j), ev_asg h (ts := [i]) fun w r e q => ?_⟩
  cases e
  exact q _ (w.set i r) ⟨List.length_set, fun j h => List.getElem?_set_ne (fun z => h (by rw [z]; exact List.mem_singleton.mpr rfl))⟩
/-- target = e -/
theorem ds_asg (he : DE Xs K E e te) (hg : DG Xs K tg ts f) (hs : ∀ j, swapsWithSole [tg] e pos.line (Xs j).env = pure false := by intro _; rfl) (hw : ∀ j, swappedStores [tg] e (Xs j).env = pure none := by intro _; rfl)
    (h1 : ∀ j, (assignEach [tg] (Xs j).env).map (·.2) = [assign tg (Xs j).env] := by intro _; rfl) : DS Xs K E (.Assign [tg] e pos) (dAsg te f) := by
  obtain ⟨v, p, h⟩ := he
  obtain ⟨g, pg, eg⟩ := hg
  exact ⟨tAsg v g, fun j => ps_asg (p j) (pg j) (hs j) (hw j) (h1 j), ev_asg h eg⟩
/-- a, b = x, y -/
def dPar (i j : Nat) (t : TDA) : TDS := fun De ρ n x => t ρ n (fun ds n1 => ∃ d1 d2, ds = [d1, d2] ∧ De.nx ((ρ.set i (some (.val d1))).set j (some (.val d2))) n1) x
theorem ds_par {i j : Nat} {x y : Str} {a b : Expr} {t : TDA} {px py pt : Pos} {kt k2 pt2} (hc : ∀ k, (Xs k).calm = true) (hN : ∀ k, (Xs k).N.Nodup) (hi : ∀ k, (Xs k).N[i]? = some x) (hj : ∀ k, (Xs k).N[j]? = some y) (hij : i ≠ j)
    (hx : ∀ k, (Xs k).env.scope.names.lookup x = some .local) (hy : ∀ k, (Xs k).env.scope.names.lookup y = some .local) (ha : DA Xs K E [a, b] t)
    (hw : ∀ k, swappedStores [.Tuple [.Name x px, .Name y py] kt pt] (.Tuple [a, b] k2 pt2) (Xs k).env = pure (some [x, y]))
    (hs : ∀ k, swapsWithSole [.Tuple [.Name x px, .Name y py] kt pt] (.Tuple [a, b] k2 pt2) pos.line (Xs k).env = pure false := by intro _; rfl) : DS Xs K E (.Assign [.Tuple [.Name x px, .Name y py] kt pt] (.Tuple [a, b] k2 pt2) pos) (dPar i j t) := by
  obtain ⟨v, p, h⟩ := ha
  refine ⟨tPar i j v, fun k => ps_par (hc k) (hN k) (hi k) (hj k) hij (hx k) (hy k) (p k) (hw k) (hs k), fun {p H0 Z0 ρ n Z σ H x De Dv} w x hh qn qr qb qc => h w x hh fun vs H1 ds n1 w1 k1 r1 ⟨d1, d2, e1, h1⟩ => ?_⟩
  subst e1
  obtain ⟨v1, r, e1, ra, v2, r', e2, rb, e3⟩ := r1
  have e3 : r' = [] := e3
  subst e3 e2 e1
  exact ⟨v1, v2, rfl, qn _ n1 Z _ H1 ((w1.set i ra).set j rb) (w.mv k1) h1⟩
/-- e as a statement -/
def dDrop (t : TD) : TDS := fun De ρ n x => t ρ n (fun _ n1 => De.nx ρ n1) x
theorem ds_expr (he : DE Xs K E e te) (hs : ∀ j, swapsWith e none pos.line (Xs j).env = pure false := by intro _; rfl) : DS Xs K E (.Expr e pos) (dDrop te) := by
  obtain ⟨v, p, h⟩ := he
  exact ⟨tDrop v, fun j => ps_expr (p j) (hs j), fun {p H0 Z0 ρ n Z σ H x De Dv} w x hh qn _ _ _ => h w x hh fun u H1 d n1 w1 k1 _ h1 => qn ρ n1 Z σ H1 w1 (w.mv k1) h1⟩
def dNever : TDS := fun _ _ _ _ => False
theorem ds_never : DS Xs K E st dNever := ⟨tNever, fun _ => ps_never, fun _ _ h => h.elim⟩
theorem ds_pass : DS Xs K E (.Pass pos) dNext := ⟨tNext, fun _ => ps_pass, fun w _ h q _ _ _ => q _ _ _ _ _ w .refl h⟩
end
end DL
set_option Elab.async false
set_option linter.all false
set_option maxRecDepth 100000
set_option maxHeartbeats 1000000
set_option autoImplicit false
/-! DL: loops, comprehensions, defs. -/
namespace DL
open PySem L2

abbrev TDL := DSt → Nat → (List D → Nat → Prop) → DX → Prop
/-- what is walked gives these items, while what cannot change stands -/
structure ItD (K : PySem.W.Frag) (Z : Addr → Prop) (p : Addr) (H : Hp) (J : It) (l : List D) : Prop where
  go : ∀ (i : Nat) (Z' : Addr → Prop) (H' : Hp), Mv Z H Z' H' → i < l.length → J.go i H'
  yld : ∀ (i : Nat) (Z' : Addr → Prop) (H' : Hp) (x : V) (H2 : Hp), Mv Z H Z' H' → (∀ a, H' a = none → ¬ Z' a) → i < l.length → J.yld i H' x H2 → ∃ d, l[i]? = some d ∧ Xt H' H2 ∧ Rep K Z' p H2 d x
  stop : ∀ (Z' : Addr → Prop) (H' : Hp), Mv Z H Z' H' → J.stop l.length H'
def IvD (K : PySem.W.Frag) (E : XK) (wi : TI) (t : TDL) : Prop :=
  ∀ {p : Addr} {H0 : Hp} {Z0 : Addr → Prop} {ρ : DSt} {n : Nat} {Z : Addr → Prop} {σ : St} {H : Hp} {x : DX} {Q : List D → Nat → Prop} {R : It → Hp → Prop}, Wd K p H0 Z0 ρ n Z σ H → HE K p H0 Z0 x E → t ρ n Q x →
    (∀ J H' l n', Wd K p H0 Z0 ρ n' Z σ H' → Kp p H H' → ItD K Z p H' J l → Q l n' → R J H') → wi σ H R
section
variable {ι : Type} {Xs : ι → Cx} {K : PySem.W.Frag} {E : XK} {pos : Pos} {tg e iter : Expr} {ts : List Nat} {f : TDG} {te : TD} {ti : TDL} {tb : TDS}
def DI (Xs : ι → Cx) (K : PySem.W.Frag) (E : XK) (tg iter : Expr) (t : TDL) : Prop := ∃ wi, (∀ i, PI (Xs i) tg iter wi) ∧ IvD K E wi t
def dSeqL (t : TD) : TDL := fun ρ n Q x => t ρ n (fun d n1 => ∃ l, d = .lst l ∧ Q l n1) x
def dSeqT (t : TD) : TDL := fun ρ n Q x => t ρ n (fun d n1 => ∃ l, d = .tup l ∧ Q l n1) x
theorem di_list (hK : ∀ i, (Xs i).K = K) (h : DE Xs K E e te) : DI Xs K E tg e (dSeqL te) := by
  obtain ⟨v, pe, ev⟩ := h
  refine ⟨iList K v, fun i => ?_, fun {p H0 Z0 ρ n Z σ H x Q R} w x hh q => ev w x hh fun u H1 d n1 w1 k1 r1 ⟨l, e1, h1⟩ => ?_⟩
  · have := pi_list (tg := tg) (pe i)
    rw [hK i] at this
    exact this
  · subst e1
    obtain ⟨a, vs, ea, hs, rs⟩ := r1
    have st : ∀ (Z' : Addr → Prop) (H' : Hp), Mv Z H1 Z' H' → SqL K H' a vs := fun Z' H' m => .inl (.inl (m a _ hs.1 hs.2).2)
    refine ⟨a, ea, ⟨vs, sqL_of hs⟩, q _ H1 l n1 w1 k1 ⟨fun i Z' H' m hi => ?_, fun i Z' H' x H2 m hz hi y => ?_, fun Z' H' m => ⟨vs, st Z' H' m, by rw [rs.len]; exact Nat.le_refl _⟩⟩ h1⟩
    · exact ⟨vs, vs[i]'(by rw [← rs.len]; exact hi), st Z' H' m, List.getElem?_eq_getElem _⟩
    · obtain ⟨e2, y⟩ := y
      subst e2
      obtain ⟨d, ed, rd⟩ := (rs.mv m).getv (y vs (st Z' _ m))
      exact ⟨d, ed, .refl, rd⟩
theorem di_tup (hK : ∀ i, (Xs i).K = K) (h : DE Xs K E e te) : DI Xs K E tg e (dSeqT te) := by
  obtain ⟨v, pe, ev⟩ := h
  refine ⟨iTup K v, fun i => ?_, fun {p H0 Z0 ρ n Z σ H x Q R} w x hh q => ev w x hh fun u H1 d n1 w1 k1 r1 ⟨l, e1, h1⟩ => ?_⟩
  · have := pi_tup (tg := tg) (pe i)
    rw [hK i] at this
    exact this
  · subst e1
    obtain ⟨a, vs, ea, hs, rs⟩ := r1
    have st : ∀ (Z' : Addr → Prop) (H' : Hp), Mv Z H1 Z' H' → SqT K H' a vs := fun Z' H' m => hs.imp (fun q => (m.rd q.1 q.2).2) id
    refine ⟨a, ea, ⟨vs, sqT_of hs⟩, q _ H1 l n1 w1 k1 ⟨fun i Z' H' m hi => ?_, fun i Z' H' x H2 m hz hi y => ?_, fun Z' H' m => ⟨vs, st Z' H' m, by rw [rs.len]; exact Nat.le_refl _⟩⟩ h1⟩
    · exact ⟨vs, vs[i]'(by rw [← rs.len]; exact hi), st Z' H' m, List.getElem?_eq_getElem _⟩
    · obtain ⟨e2, y⟩ := y
      subst e2
      obtain ⟨d, ed, rd⟩ := (rs.mv m).getv (y vs (st Z' _ m))
      exact ⟨d, ed, .refl, rd⟩
/-- for -/
def dFor (ti : TDL) (f : TDG) (tb : TDS) : TDS := fun De ρ n x => ti ρ n (fun l n1 => ∃ W : Nat → DSt → Nat → Prop, W 0 ρ n1 ∧
  (∀ i ρ n d, l[i]? = some d → W i ρ n → ∃ ρ', f d ρ = some ρ' ∧ tb { De with nx := W (i + 1), ct := W (i + 1), bk := De.nx } ρ' n x) ∧ ∀ ρ n, W l.length ρ n → De.nx ρ n) x
theorem ds_for {body : List Stmt} (hp : ∀ i, PassesOwn (model (Xs i).prog (Xs i).w) (Xs i).A (Xs i).env (Xs i).xe) (hc : ∀ i, (Xs i).calm = true) (hi : DI Xs K E tg iter ti) (hg : DG Xs K tg ts f) (hb : DSs Xs K E body tb)
    (hs : ∀ i x, foldedSetIterable iter (Xs i).env x = pure x := by intro _ _; rfl) : DS Xs K E (.For tg iter body [] pos) (dFor ti f tb) := by
  obtain ⟨wi, pi, ei⟩ := hi
  obtain ⟨g, pg, eg⟩ := hg
  obtain ⟨vb, pb, eb⟩ := hb
  refine ⟨tFor wi g vb, fun i => ps_for (hp i) (hc i) (pi i) (pg i) (pb i) (hs i), fun {p H0 Z0 ρ n Z σ H x De Dv} w x hh qn qr qb qc => ei w x hh fun J H1 l n1 w1 k1 it ⟨W, h0, hstep, hend⟩ => ?_⟩
  refine ⟨fun i m σ' H' => m = l.length - i ∧ i ≤ l.length ∧ ∃ ρ' n' Z', Wd K p H0 Z0 ρ' n' Z' σ' H' ∧ Mv Z H1 Z' H' ∧ W i ρ' n', ⟨_, rfl, Nat.zero_le _, ρ, n1, Z, w1, .refl, h0⟩, ?_⟩
  rintro i m σ' H' ⟨rfl, hil, ρ', n', Z', w', m', hW⟩
  by_cases hlt : i < l.length
  · refine .inr ⟨it.go i Z' H' m' hlt, fun σ2 H2 => ∃ ρ2 n2 Z2, Wd K p H0 Z0 ρ2 n2 Z2 σ2 H2 ∧ Mv Z H1 Z2 H2 ∧ W (i + 1) ρ2 n2, fun σ2 H2 ⟨ρ2, n2, Z2, w2, m2, h2⟩ => ⟨l.length - (i + 1), by omega, rfl, hlt, ρ2, n2, Z2, w2, m2, h2⟩, fun v H2 y => ?_⟩
    obtain ⟨d, ed, xt, rd⟩ := it.yld i Z' H' v H2 m' (fun _ => w'.notin) hlt y
    obtain ⟨ρ3, ef, hb3⟩ := hstep i ρ' n' d ed hW
    have w2 := w'.xt xt
    have m2 : Mv Z H1 Z' H2 := m'.trans (w'.mv xt.kp)
    refine eg w2 rd ef fun σ3 w3 _ => eb (De := { De with nx := W (i + 1), ct := W (i + 1), bk := De.nx }) w3 x hb3 (fun ρ4 n4 Z4 σ4 H4 w4 m4 h4 => ⟨ρ4, n4, Z4, w4, m2.trans m4, h4⟩) qr (fun ρ4 n4 Z4 σ4 H4 w4 m4 h4 => ?_) (fun ρ4 n4 Z4 σ4 H4 w4 m4 h4 => ⟨ρ4, n4, Z4, w4, m2.trans m4, h4⟩)
    exact qn ρ4 n4 Z4 σ4 H4 w4 (((w.mv k1).trans m2).trans m4) h4
  · have el : i = l.length := by omega
    subst el
    exact .inl ⟨it.stop Z' H' m', qn ρ' n' Z' σ' H' w' ((w.mv k1).trans m') (hend ρ' n' hW)⟩

/-! ### a list comprehension -/
def DTs (Xs : ι → Cx) (K : PySem.W.Frag) (E : XK) (es : List Expr) (t : TDT) : Prop := ∃ te, (∀ i, PTs (Xs i) es te) ∧ EvT K E te t
def dYes : TDT := fun _ n Q _ => Q true n
theorem dts_nil : DTs Xs K E [] dYes := ⟨tYes, fun _ => pts_nil, fun w _ h q => q true _ _ w Kp.refl h⟩
theorem dts_one {c : Expr} {t : TDT} (h : DT Xs K E c t) : DTs Xs K E [c] t := let ⟨v, p, h⟩ := h; ⟨v, fun i => pts_one (p i), h⟩
/-- the family of a comprehension's block -/
abbrev blkF (Xs : ι → Cx) (scope : Scope) : ι × Shared × Hp × Addr × List (Str × Addr) × List Addr → Cx := fun q => (Xs q.1).blk q.2.1 q.2.2.1 scope (compEnvC scope q.2.2.2.2.1 q.2.2.2.1 (Xs q.1).env) q.2.2.2.2.2
/-- what the items of a list comprehension are asked -/
def LcB (f : TDG) (tt : TDT) (te : TD) (vs : List Nat) (ρ : DSt) (Q : DQ) (l : List D) (n1 : Nat) : Prop := l.length ≤ most ∧ ∃ W : Nat → List D → Nat → Prop, W 0 [] n1 ∧
  (∀ i acc n d, l[i]? = some d → W i acc n → ∃ ρ', f d (wipeD ρ vs) = some ρ' ∧ tt ρ' n (fun b n2 => if b = true then te ρ' n2 (fun r n3 => W (i + 1) (acc ++ [r]) n3) x0 else W (i + 1) acc n2) x0) ∧ ∀ acc n, W l.length acc n → acc.length ≤ l.length → Q (.lst acc) n
def dLc (ti : TDL) (f : TDG) (tt : TDT) (te : TD) (vs : List Nat) : TD := fun ρ n Q x => ti ρ n (LcB f tt te vs ρ Q) x
theorem ev_lc {wi : TI} {g : TG} {vt : TT} {ve : TE} {tt : TDT} {vs : List Nat} (ei : IvD K E wi ti) (eg : GvD K g ts f) (et : EvT K E0 vt tt) (ee : EvD K E0 ve te) (hts : ∀ i ∈ ts, i ∈ vs) : EvD K E (tLc wi g vt ve vs) (dLc ti f tt te vs) := by
  intro p H0 Z0 ρ n Z σ H x Q Qv w hx hh q
  refine ei w hx hh fun J H1 l n1 w1 k1 it ⟨hl, W, h0, hstep, hend⟩ D hD => ?_
  have wA := w1.add (o := .lst []) hD
  have hD0 : H0 D = none := w1.new0 hD
  have nDp : D ≠ p := fun e => by rw [e] at hD; exact w1.pot.ne hD
  -- what stands between two turns
  refine ⟨fun i m H' => m = l.length - i ∧ i ≤ l.length ∧ ∃ acc vs' n', Wd K p H0 Z0 ρ n' (zAdd Z D) σ H' ∧ Mv Z H1 (zAdd Z D) H' ∧ H' D = some (.lst vs') ∧ Reps K (zAdd Z D) p H' acc vs' ∧ W i acc n' ∧ acc.length ≤ i ∧ Kp p (upd H1 D (.lst [])) (upd H' D (.lst [])), ⟨_, rfl, Nat.zero_le _, [], [], n1, wA, mv_add hD, upd_same, rfl, h0, Nat.le_refl _, by rw [upd_upd]; exact .refl⟩, ?_⟩
  rintro i m H' ⟨rfl, hil, acc, vs', n', w', m', hD', ra, hW, hacc, kk⟩
  by_cases hlt : i < l.length
  · refine .inr ⟨it.go i _ H' m' hlt, fun H2 => ∃ acc vs' n', Wd K p H0 Z0 ρ n' (zAdd Z D) σ H2 ∧ Mv Z H1 (zAdd Z D) H2 ∧ H2 D = some (.lst vs') ∧ Reps K (zAdd Z D) p H2 acc vs' ∧ W (i + 1) acc n' ∧ acc.length ≤ i + 1 ∧ Kp p (upd H1 D (.lst [])) (upd H2 D (.lst [])), fun H2 ⟨acc, vs', n', h⟩ => ⟨l.length - (i + 1), by omega, rfl, hlt, acc, vs', n', h⟩, fun v H2 y => ?_⟩
    obtain ⟨d, ed, xt, rd⟩ := it.yld i _ H' v H2 m' (fun _ => w'.notin) hlt y
    obtain ⟨ρ3, ef, hb3⟩ := hstep i acc n' d ed hW
    have w2 := (w'.xt xt).wipe vs
    have keepD : ∀ {A B : Hp}, Kp p A B → Kp p (upd A D (.lst [])) (upd B D (.lst [])) := fun {A B} k a o na h => by
      by_cases ea : a = D
      · subst ea; rw [upd_same] at h ⊢; exact h
      · rw [upd_ne ea] at h ⊢; exact k a o na h
    refine eg w2 rd ef fun σ3 w3 t3 => ⟨by rw [t3.wipe hts, wipe_wipe], et w3 HE.zero hb3 fun b H4 n4 w4 k4 h4 => ?_⟩
    have k24 : Kp p H' H4 := xt.kp.trans k4
    have back : ∀ {H5 : Hp} {n5 : Nat}, PotAt H5 p n5 → Kp p H' H5 → Wd K p H0 Z0 ρ n5 (zAdd Z D) σ H5 := fun hp k => w'.kp k hp
    cases b with
    | false =>
      exact ⟨acc, vs', n4, back w4.pot k24, m'.trans (w'.mv k24), k24 D _ nDp hD', ra.mv (w'.mv k24), h4, by omega, kk.trans (keepD k24)⟩
    | true =>
      refine ee w4 HE.zero h4 fun u H5 d5 n5 w5 k5 r5 h5 => ?_
      have k25 := k24.trans k5
      have w6 := back w5.pot k25
      have hD5 := k25 D _ nDp hD'
      have le : vs'.length ≤ most := by
        rw [← ra.len]
        exact Nat.le_trans hacc (Nat.le_trans hil hl)
      -- the new item is put behind
      have mU : Mv (zAdd Z D) H5 (zAdd Z D) (upd H5 D (.lst (vs' ++ [u]))) := fun a o z h => ⟨z, by rw [upd_ne fun e => z (.inr e)]; exact h⟩
      refine ⟨vs', hD5, most_lt le, acc ++ [d5], vs' ++ [u], n5, ?_, (m'.trans (w'.mv k25)).trans mU, upd_same, ?_, h5, by rw [List.length_append, List.length_singleton]; omega, ?_⟩
      · refine ⟨?_, w6.zp, w6.d0, w6.sub, fun a z => ?_, fun a o na h => ?_, w6.len, fun j s hs => ?_, w6.dis⟩
        · obtain ⟨o, s, c, hp, r⟩ := w6.pot
          exact ⟨o, s, c, by rw [upd_ne (Ne.symm nDp)]; exact hp, r⟩
        · by_cases ea : a = D
          · rw [ea, upd_same]; exact fun h => nomatch h
          · rw [upd_ne ea]; exact w6.dom a z
        · by_cases ea : a = D
          · rw [ea, hD0] at h; cases h
          · rw [upd_ne ea]; exact w6.keep a o na h
        · obtain ⟨v7, e7, r7⟩ := w'.env j s hs
          refine ⟨v7, e7, ?_⟩
          have mm := (w'.mv k25).trans mU
          cases s with
          | val d => exact Rep.mv mm r7
          | own l =>
            obtain ⟨b, bs, eb, zb, b0, hb, rb⟩ := r7
            have nb : b ≠ D := fun e => by
              obtain ⟨v8, e8, b', bs', eb', zb', _⟩ := w1.env j _ hs
              rw [e7] at e8
              cases e8
              rw [eb] at eb'
              cases eb'
              rw [e] at zb'
              exact w1.notin hD zb'
            exact ⟨b, bs, eb, zb, b0, by rw [upd_ne nb]; exact k25 b _ (w1.own_ne b0) hb, rb.mv mm⟩
          | ownD l =>
            obtain ⟨b, bs, eb, zb, b0, hb, rb⟩ := r7
            have nb : b ≠ D := fun e => by
              obtain ⟨v8, e8, b', bs', eb', zb', _⟩ := w1.env j _ hs
              rw [e7] at e8
              cases e8
              rw [eb] at eb'
              cases eb'
              rw [e] at zb'
              exact w1.notin hD zb'
            exact ⟨b, bs, eb, zb, b0, by rw [upd_ne nb]; exact k25 b _ (w1.own_ne b0) hb, rb.mv mm⟩
      · exact ((ra.mv (w'.mv k25)).mv mU).app (.one (r5.mv mU))
      · rw [upd_upd]; exact kk.trans (keepD k25)
  · have el : i = l.length := by omega
    subst el
    have mE : Mv (zAdd Z D) H' Z H' := fun a o z h => ⟨fun y => z (.inl y), h⟩
    have kE : Kp p H1 H' := fun a o na h => by
      have ne : a ≠ D := ne_of_none h hD
      have := kk a o na (by rw [upd_ne ne]; exact h)
      rwa [upd_ne ne] at this
    refine .inl ⟨it.stop _ H' m', q _ H' (.lst acc) n' ?_ (k1.trans kE) ⟨D, vs', rfl, ⟨w1.notin hD, hD'⟩, ra.mv mE⟩ (hend acc n' hW hacc)⟩
    exact w1.kp kE w'.pot
theorem de_lc {elt : Expr} {ifs : List Expr} {scope : Scope} {own : List (Str × Nat)} {tt : TDT} (hc : ∀ i, (Xs i).calm = true) (hN : ∀ i, (Xs i).N.Nodup) (hi : DI Xs K E tg iter ti) (ok : ∀ i, BlkOk (Xs i).N (Xs i).env.scope scope own) (hg : DG (blkF Xs scope) K tg ts f) (ht : DTs (blkF Xs scope) K E0 ifs tt) (he : DE (blkF Xs scope) K E0 elt te) (hts : ∀ i ∈ ts, i ∈ own.map (·.2))
    (hs : ∀ i x, foldedSetIterable iter (Xs i).env x = pure x := by intro _ _; rfl) : DE Xs K E (.ListComp elt [⟨tg, iter, ifs, 0⟩] scope pos) (dLc ti f tt te (own.map (·.2))) := by
  obtain ⟨wi, pi, ei⟩ := hi
  obtain ⟨g, pg, eg⟩ := hg
  obtain ⟨vt, pt, et⟩ := ht
  obtain ⟨ve, pe, ee⟩ := he
  exact ⟨_, fun i => pe_lc (hc i) (hN i) (pi i) (ok i) (fun s H C cl fp => pg (i, s, H, C, cl, fp)) (fun s H C cl fp => pt (i, s, H, C, cl, fp)) (fun s H C cl fp => pe (i, s, H, C, cl, fp)) (hs i), ev_lc ei eg et ee hts⟩
/-- y = [..] -/
theorem ds_setLc {i : Nat} {y : Str} {py : Pos} {elt : Expr} {ifs : List Expr} {scope : Scope} {own : List (Str × Nat)} {spos : Pos} {tt : TDT} (hc : ∀ i, (Xs i).calm = true) (hN : ∀ i, (Xs i).N.Nodup) (hy : ∀ j, (Xs j).N[i]? = some y) (hyl : ∀ j, (Xs j).env.scope.names.lookup y = some .local)
    (hsw : ∀ j, swapsWith (.ListComp elt [⟨tg, iter, ifs, 0⟩] scope pos) (some (.Name y py)) spos.line (Xs j).env = pure true) (hi : DI Xs K E tg iter ti) (ok : ∀ i, BlkOk (Xs i).N (Xs i).env.scope scope own) (hg : DG (blkF Xs scope) K tg ts f) (ht : DTs (blkF Xs scope) K E0 ifs tt) (he : DE (blkF Xs scope) K E0 elt te) (hts : ∀ i ∈ ts, i ∈ own.map (·.2))
    (hs : ∀ i x, foldedSetIterable iter (Xs i).env x = pure x := by intro _ _; rfl) : DS Xs K E (.Assign [.Name y py] (.ListComp elt [⟨tg, iter, ifs, 0⟩] scope pos) spos) (dAsg (dLc ti f tt te (own.map (·.2))) (gN i)) := by
  obtain ⟨wi, pi, ei⟩ := hi
  obtain ⟨g, pg, eg⟩ := hg
  obtain ⟨vt, pt, et⟩ := ht
  obtain ⟨ve, pe, ee⟩ := he
  refine ⟨_, fun i => ps_setLc (hc i) (hN i) (hy i) (hyl i) (hsw i) (pi i) (ok i) (fun s H C cl fp => pg (i, s, H, C, cl, fp)) (fun s H C cl fp => pt (i, s, H, C, cl, fp)) (fun s H C cl fp => pe (i, s, H, C, cl, fp)) (hs i), ev_asg (ts := [i]) (ev_lc ei eg et ee hts) fun w r e q => ?_⟩
  cases e
  exact q _ (w.set i r) ⟨List.length_set, fun j h => List.getElem?_set_ne (fun z => h (by rw [z]; exact List.mem_singleton.mpr rfl))⟩
end

/-! ### a def keeps its promise -/
def startD (N : List Str) (ds : List D) : DSt := ds.map (fun d => some (.val d)) ++ List.replicate (N.length - ds.length) none
theorem start_wd {K : PySem.W.Frag} {p : Addr} {H : Hp} {Z : Addr → Prop} {n : Nat} {ds : List D} {vs : List V} {N : List Str} (hp : PotAt H p n) (zp : Z p) (hd : ∀ a, Z a → H a ≠ none) (r : Reps K Z p H ds vs) : Wd K p H Z (startD N ds) n Z (L2.start N vs) H where
  pot := hp
  zp := zp
  d0 := hd
  sub := fun _ z => z
  dom := hd
  keep := .refl
  len := by
    unfold startD L2.start
    rw [List.length_append, List.length_append, List.length_map, List.length_map, List.length_replicate, List.length_replicate, r.len]
  env := fun i s h => by
    unfold startD at h
    unfold L2.start
    by_cases hi : i < ds.length
    · rw [List.getElem?_append_left (by rw [List.length_map]; exact hi), List.getElem?_map] at h
      cases hd : ds[i]? with
      | none => rw [hd] at h; cases h
      | some d =>
        rw [hd] at h
        cases h
        obtain ⟨v, ev, rv⟩ := r.get hd
        exact ⟨v, by rw [List.getElem?_append_left (by rw [List.length_map, ← r.len]; exact hi), List.getElem?_map, ev]; rfl, rv⟩
    · rw [List.getElem?_append_right (by rw [List.length_map]; omega), List.getElem?_replicate] at h
      split at h <;> cases h
  dis := fun i j a s t _ h _ so => by
    unfold startD at h
    by_cases hi : i < ds.length
    · rw [List.getElem?_append_left (by rw [List.length_map]; exact hi), List.getElem?_map] at h
      cases hd : ds[i]? with
      | none => rw [hd] at h; cases h
      | some d =>
        rw [hd] at h
        cases h
        cases so
    · rw [List.getElem?_append_right (by rw [List.length_map]; omega), List.getElem?_replicate] at h
      split at h <;> cases h
section
variable {P : Program} {w : World} {K : PySem.W.Frag} {mg : Str → Option Value} {base : Heap}
/-- a def that lets no error out -/
theorem fn_ok {x qual : Str} {st : Stmt} {f : Addr} {fd : FuncData} {N ps : List Str} {k : Nat} {F : DF} (G : Fun K x qual st f fd) (S : FnScope N ps (defScope st)) (len : ∀ ds n Q x, F ds n Q x → ds.length = ps.length)
    (body : ∀ (cdv : Value) (A : Around) (outer : List Env) (s : Shared) (H : Hp) (E : XK), Room k (A.deeper (PyProof.Rows.envOfC qual (defScope st) s.heap.objs.size f cdv)) →
      ∃ t, DSs (fun _ : Unit => (cxOf CX0 P w K mg base N qual (defScope st) f cdv A outer s H E).nox) K E0 (defBody st) t ∧ ∀ ds n Q x, F ds n Q x → t { nx := fun _ n' => Q .non n', rt := Q } (startD N ds) n x0) : FnOk P w K mg base CX0 (k + 1) f fd ps (spD K F) := by
  refine G.ok S (fun vs H Q E h => ?_) fun cdv A outer s H vs Q E hr h => ?_
  · obtain ⟨ds, Z, p, n, x, Qd, hp, zp, hd, r, hF, _⟩ := h
    rw [← r.len]
    exact len ds n Qd x hF
  · obtain ⟨ds, Z, p, n, x, Qd, hp, zp, hd, r, hF, hQ, hx⟩ := h
    obtain ⟨t, ⟨ts, pt, et⟩, ht⟩ := body cdv A outer s H E hr
    refine ⟨ts, pt (), et (start_wd hp zp hd r) HE.zero (ht ds n Qd x hF) (fun ρ' n' Z' σ' H' w' _ h' => ?_) (fun v H' d n' hp' k' r' h' => hQ d n' v H' hp' k' r' h') (fun _ _ _ _ _ _ _ h => h.elim) fun _ _ _ _ _ _ _ h => h.elim⟩
    exact hQ .non n' .non H' w'.pot w'.keep rfl h'
end
end DL
set_option Elab.async false
set_option linter.all false
set_option maxRecDepth 100000
set_option maxHeartbeats 1000000
set_option autoImplicit false
namespace DSet
open PySem PySem.Spec PyProof.Rows L2
section
variable {P : Program} {w : World} {κ : Type} {S : SK P w κ} {A : Around} {E : Value → Shared → Prop} {s : Shared}
theorem perm_lift {α β : Type} (f : α → β) : ∀ (vs : List β) (M : List α), vs.Perm (M.map f) → ∃ L : List α, vs = L.map f ∧ L.Perm M := by
  intro vs
  induction vs with
  | nil =>
    intro M hp
    cases M with
    | nil => exact ⟨[], rfl, .nil⟩
    | cons _ _ => exact nomatch hp.nil_eq
  | cons v vs ih =>
    intro M hp
    obtain ⟨q, hq, eq⟩ := List.mem_map.mp (hp.mem_iff.mp List.mem_cons_self)
    obtain ⟨M1, M2, rfl⟩ := List.append_of_mem hq
    have h2 : (v :: vs).Perm (v :: (M1 ++ M2).map f) := by
      refine hp.trans ?_
      rw [List.map_append, List.map_cons, eq, List.map_append]
      exact List.perm_middle
    obtain ⟨L, e1, e2⟩ := ih (M1 ++ M2) h2.cons_inv
    exact ⟨q :: L, by rw [List.map_cons, eq, e1], (e2.cons q).trans List.perm_middle.symm⟩
theorem each_eq {α β : Type} {f : β → α} : ∀ {as : List α} {bs : List β}, PySem.W.EachIs (fun a b => a = f b) as bs → as = bs.map f
  | _, _, .nil => rfl
  | _, _, .cons h t => by rw [h, each_eq t]; rfl
theorem each_of {α β : Type} {R : α → β → Prop} {f : β → α} : ∀ {bs : List β}, (∀ b ∈ bs, R (f b) b) → PySem.W.EachIs R (bs.map f) bs
  | [], _ => .nil
  | b :: bs, h => .cons (h b List.mem_cons_self) (each_of fun c hc => h c (List.mem_cons_of_mem _ hc))
/-- sorted of such a set -/
theorem sorted_set {a : Addr} {L : List (Value × κ)} {enc : κ → PyData} {Q : Value → Shared → Prop} (R : At S s.heap a L) (hh : A.handled = none) (hu : A.units + 20 < cLine)
    (rd : ∀ {h : Heap} {k : κ} {v : Value}, S.isK h k v → PySem.Reads h v (enc k) []) (hal : ∀ k k' : κ, PySem.W.alike (enc k) (enc k') = true) (hso : ∀ bs : List (Value × κ), PySem.W.Sortable (bs.map fun b => enc b.2)) (hdep : ∀ k : κ, (enc k).depth ≤ 1)
    (hQ : ∀ s' p (c : Nat) (bs : List (Value × κ)), (∀ b o, s.heap.get? b = some o → s'.heap.get? b = some o) → s'.gens = s.gens → s'.os = s.os → s.heap.objs.size ≤ p →
      s'.heap.get? p = some (seqObj "list" ((bs.mergeSort (PySem.W.dataLe false fun b => enc b.2)).map (·.1)).toArray c) → bs.Perm L → Q (.ref p) s') :
    wpAny (model P w) A (call (.builtin "sorted") [.ref a]) Q E s := by
  obtain ⟨o, es, ep, t, ho, hex, hd, tb, ld⟩ := R.ob
  have hfew := R.few
  have hrow := S.rows tb
  have hsz : es.size = L.length := by
    have q := congrArg List.length hrow
    rwa [List.length_map, List.length_map, Array.length_toList] at q
  refine Calls.call_function_entry kind_sorted plain_sorted entry_sorted (args_sorted1 _) ?_
  unfold Builtin.«sorted»
  refine wpAny_bind (m := checkCount "sorted" 1 1 _) (wpAny_pure ?_)
  refine wpAny_bind (collect_set (A := A.in1) hh ⟨o, ho, hex.1, hd⟩ (S.fits tb) (by unfold scanBound; omega) (S.ris tb) ld fun s1 vs k1 hz g1 o1 pm => ?_)
  rw [hrow] at pm
  obtain ⟨bs, rfl, pb⟩ := perm_lift (·.1) vs L pm
  have hvl : bs.length < 64 := by rw [pb.length_eq]; exact hfew
  refine wpAny_bind (wpAny_newList ?_ (by rw [List.length_map, sizeLine_eq]; omega))
  have hoL : (s1.heap.push (seqObj "list" (bs.map (·.1)).toArray 0)).get? s1.heap.objs.size = some (seqObj "list" (bs.map (·.1)).toArray 0) := Heap.get?_push_size _ rfl
  refine wpAny_bind (wpAny_holding (PySem.W.list_sort_data (s := { s1 with heap := s1.heap.push (seqObj "list" (bs.map (·.1)).toArray 0) }) (R := fun (v : Value) (b : Value × κ) => v = b.1) (bs := bs) (enc := fun b => enc b.2) hoL (each_of fun _ _ => rfl) (each_of fun b hb => ⟨[], ?_, fun z => nomatch z⟩) ?_ (hso bs) (by rw [sizeLine_eq]; omega) (fun b hb => ?_) fun out hlen eo => ?_))
  · exact rd (S.keep (R.ks b (pb.mem_iff.mp hb)) fun c u e _ => Heap.get?_push_of_some _ (k1 c u e))
  · intro d hd' d' hd''
    obtain ⟨b, _, rfl⟩ := List.mem_map.mp hd'
    obtain ⟨b', _, rfl⟩ := List.mem_map.mp hd''
    exact hal _ _
  · have := hdep b.2
    show A.in1.units + 1 + _ < _
    show A.units + 1 + 1 + _ < _
    omega
  · have e2 := each_eq eo
    subst e2
    obtain ⟨c, hc⟩ := sortedHeap_at (vs := bs.map (·.1)) (out := ((bs.mergeSort (PySem.W.dataLe false fun b => enc b.2)).map (·.1)).toArray) hoL
    refine wpAny_pure ⟨_, rfl, hQ _ s1.heap.objs.size c bs (fun b u e => ?_) g1 o1 hz hc pb⟩
    have q := k1 b u e
    have hlt := Heap.lt_size q
    show (sortedHeap (s1.heap.push (seqObj "list" (bs.map (·.1)).toArray 0)) s1.heap.objs.size (bs.map (·.1)) _).get? b = some u
    rw [sortedHeap_old (Nat.ne_of_lt hlt) (by rw [size_push']; exact Nat.lt_succ_of_lt hlt)]
    exact Heap.get?_push_of_some _ q
end
end DSet
set_option Elab.async false
set_option linter.all false
set_option maxRecDepth 100000
set_option maxHeartbeats 1000000
set_option autoImplicit false
namespace DSet
open PySem PySem.Spec PyProof.Rows L2
section
variable {P : Program} {w : World} {κ μ : Type}
/-- keys named by others -/
def SK.by (S : SK P w κ) (f : μ → κ) : SK P w μ where
  isK := fun h k v => S.isK h (f k) v
  tab := fun L es t => S.tab (L.map fun p => (p.1, f p.2)) es t
  keep := fun h q => S.keep h q
  init := fun b => S.init b
  rows := fun {L es t} h => by
    rw [S.rows h, List.map_map]; rfl
  fits := fun h => S.fits h
  ris := fun h => S.ris h
theorem at_by {S : SK P w κ} {f : μ → κ} (inj : ∀ x y, f x = f y → x = y) {h : Heap} {a : Addr} {L : List (Value × μ)} : At (S.by f) h a L ↔ At S h a (L.map fun p => (p.1, f p.2)) := by
  have e : (L.map fun p => (p.1, f p.2)).map (·.2) = (L.map (·.2)).map f := by rw [List.map_map, List.map_map]; rfl
  constructor
  · intro R
    refine ⟨R.ob, ?_, fun p hp => ?_, by rw [List.length_map]; exact R.few⟩
    · rw [e]
      exact List.Pairwise.map f (fun x y hne q => hne (inj x y q)) R.nd
    · obtain ⟨q, hq, rfl⟩ := List.mem_map.mp hp
      exact R.ks q hq
  · intro R
    refine ⟨R.ob, ?_, fun p hp => R.ks (p.1, f p.2) (List.mem_map.mpr ⟨p, hp, rfl⟩), by have := R.few; rwa [List.length_map] at this⟩
    have := R.nd
    rw [e] at this
    exact List.Pairwise.of_map f (fun x y hne q => hne (congrArg f q)) this
theorem by_adds {S : SK P w κ} (add : Adds S) {f : μ → κ} (inj : ∀ x y, f x = f y → x = y) : Adds (S.by f) := by
  intro A E s a L x k Q hu R hx hfew hQ
  refine add hu ((at_by inj).mp R) hx (by rw [List.length_map]; exact hfew) fun b h' tk L' sb R' c1 c2 ht => ?_
  have mem : f k ∈ (L.map fun p => (p.1, f p.2)).map (·.2) ↔ k ∈ L.map (·.2) := by
    rw [List.map_map]
    constructor
    · intro h
      obtain ⟨p, hp, e⟩ := List.mem_map.mp h
      rw [← inj _ _ e]
      exact List.mem_map.mpr ⟨p, hp, rfl⟩
    · intro h
      obtain ⟨p, hp, e⟩ := List.mem_map.mp h
      exact List.mem_map.mpr ⟨p, hp, congrArg f e⟩
  rcases Classical.em (k ∈ L.map (·.2)) with c | c
  · have e := c1 (mem.mpr c)
    subst e
    exact hQ b h' tk L sb ((at_by inj).mpr R') (fun _ => rfl) (fun z => absurd c z) ht
  · have pm := c2 fun z => c (mem.mp z)
    have pm2 : L'.Perm (((x, k) :: L).map fun p => (p.1, f p.2)) := pm
    obtain ⟨M, rfl, pM⟩ := perm_lift _ L' _ pm2
    exact hQ b h' tk M sb ((at_by inj).mpr R') (fun z => absurd z c) (fun _ => pM) ht
/-- pairs of a text and an int -/
def pk (q : Str × Int) : List Key := [.inr q.1, .inl q.2]
theorem pk_inj (x y : Str × Int) (h : pk x = pk y) : x = y := by
  unfold pk at h
  injection h with h1 h2
  injection h2 with h2 _
  injection h1 with h1
  injection h2 with h2
  exact Prod.ext h1 h2
def pairK (P : Program) (w : World) : SK P w (Str × Int) := (tupK (mixKind P w)).by pk
theorem pair_adds : Adds (pairK P w) := by_adds tup_adds pk_inj
def textK (P : Program) (w : World) : SK P w Str := scanK (PySem.strKind P w)
theorem text_adds : Adds (textK P w) := scan_adds
def encP (q : Str × Int) : PyData := .tuple [.str q.1, .int q.2]
theorem readP {h : Heap} {k : Str × Int} {v : Value} (x : (pairK P w).isK h k v) : PySem.Reads h v (encP k) [] := by
  obtain ⟨b, rfl, o, its, n, ho, hc, hd, hi⟩ := x
  obtain ⟨l, hl⟩ : ∃ l, its.toList = l := ⟨_, rfl⟩
  rw [hl] at hi
  cases hi with
  | cons h1 h2 =>
    cases h2 with
    | cons h3 h4 =>
      cases h4
      have h1 : keyIs (.inr k.1) _ = true := h1
      have h3 : keyIs (.inl k.2) _ = true := h3
      rcases keyIs_shape h1 with ⟨i, t, e, rfl⟩ | ⟨z, t, e, rfl⟩
      · exact nomatch e
      · rcases keyIs_shape h3 with ⟨i, t', e', rfl⟩ | ⟨z', t', e', rfl⟩
        · cases e; cases e'
          exact .tuple ho hc hd (by rw [hl]; exact .cons (.str _ _) (.cons (.int _ _) .nil))
        · exact nomatch e'
theorem readS {h : Heap} {k : Str} {v : Value} (x : (textK P w).isK h k v) : PySem.Reads h v (.str k) [] := by
  obtain ⟨t, rfl⟩ := Value.isStrOf_shape x.1
  exact .str _ _

/-! ### order -/
def ltS (a b : Str) : Prop := a.cps.toList < b.cps.toList
instance (a b : Str) : Decidable (ltS a b) := inferInstanceAs (Decidable (a.cps.toList < b.cps.toList))
theorem str_ext {a b : Str} (h : a.cps.toList = b.cps.toList) : a = b := by
  obtain ⟨a⟩ := a
  obtain ⟨b⟩ := b
  congr 1
  exact Array.toList_inj.mp h
theorem ltS_irr (a : Str) : ¬ ltS a a := List.lt_irrefl _
theorem ltS_trans {a b c : Str} (h : ltS a b) (k : ltS b c) : ltS a c := List.lt_trans h k
theorem ltS_tri (a b : Str) : ltS a b ∨ a = b ∨ ltS b a := by
  by_cases h : ltS a b
  · exact .inl h
  · by_cases k : ltS b a
    · exact .inr (.inr k)
    · exact .inr (.inl (str_ext (List.le_antisymm (List.not_lt.mp k) (List.not_lt.mp h))))
def ltP (a b : Str × Int) : Prop := ltS a.1 b.1 ∨ (a.1 = b.1 ∧ a.2 < b.2)
instance (a b : Str × Int) : Decidable (ltP a b) := inferInstanceAs (Decidable (_ ∨ _))
theorem ltP_irr (a : Str × Int) : ¬ ltP a a := fun h => h.elim (ltS_irr _) fun k => absurd k.2 (Int.lt_irrefl _)
theorem ltP_trans {a b c : Str × Int} (h : ltP a b) (k : ltP b c) : ltP a c := by
  rcases h with h | ⟨h, h'⟩
  · rcases k with k | ⟨k, _⟩
    · exact .inl (ltS_trans h k)
    · exact .inl (by rw [← k]; exact h)
  · rcases k with k | ⟨k, k'⟩
    · exact .inl (by rw [h]; exact k)
    · exact .inr ⟨h.trans k, Int.lt_trans h' k'⟩
theorem ltP_tri (a b : Str × Int) : ltP a b ∨ a = b ∨ ltP b a := by
  rcases ltS_tri a.1 b.1 with h | h | h
  · exact .inl (.inl h)
  · rcases Int.lt_trichotomy a.2 b.2 with k | k | k
    · exact .inl (.inr ⟨h, k⟩)
    · exact .inr (.inl (Prod.ext h k))
    · exact .inr (.inr (.inr ⟨h.symm, k⟩))
  · exact .inr (.inr (.inl h))
/-- what a sort by "not less" does with unlike things -/
theorem sorted_lt {α : Type} {lt : α → α → Prop} [∀ a b, Decidable (lt a b)] (tr : ∀ {a b c}, lt a b → lt b c → lt a c) (tri : ∀ a b, lt a b ∨ a = b ∨ lt b a) (irr : ∀ a, ¬ lt a a) {β : Type} {key : β → α} {le : β → β → Bool} (hle : ∀ a b, le a b = !decide (lt (key b) (key a))) {l : List β} (nd : (l.map key).Nodup) :
    ((l.mergeSort le).map key).Pairwise lt := by
  have h1 : (l.mergeSort le).Pairwise fun a b => le a b = true := List.pairwise_mergeSort (fun a b c h k => by
    rw [hle] at h k ⊢
    simp only [Bool.not_eq_true', decide_eq_false_iff_not] at h k ⊢
    intro q
    rcases tri (key b) (key a) with z | z | z
    · exact h z
    · rw [z] at k; exact k q
    · exact k (tr q z)) (fun a b => by
    rw [hle, hle]
    by_cases z : lt (key b) (key a)
    · have : ¬ lt (key a) (key b) := fun y => irr _ (tr z y)
      simp [this]
    · simp [z]) l
  have nd2 : ((l.mergeSort le).map key).Nodup := ((List.mergeSort_perm l le).map key).nodup_iff.mpr nd
  refine List.pairwise_map.mpr ?_
  have nd3 : (l.mergeSort le).Pairwise fun a b => key a ≠ key b := List.pairwise_map.mp nd2
  refine (h1.and nd3).imp fun {a b} h => ?_
  obtain ⟨h, ne⟩ := h
  rw [hle] at h
  simp only [Bool.not_eq_true', decide_eq_false_iff_not] at h
  rcases tri (key a) (key b) with z | z | z
  · exact z
  · exact absurd z ne
  · exact absurd z h
theorem leS (b c : Value × Str) : PySem.W.dataLe false (fun b : Value × Str => PyData.str b.2) b c = !decide (ltS c.2 b.2) := by
  rw [PySem.W.dataLe_eq]
  show (!PySem.W.dataLt (.str c.2) (.str b.2)) = _
  rw [PySem.W.dataLt_str]; rfl
theorem leP (b c : Value × (Str × Int)) : PySem.W.dataLe false (fun b : Value × (Str × Int) => encP b.2) b c = !decide (ltP c.2 b.2) := by
  rw [PySem.W.dataLe_eq]
  show (!PySem.W.dataLt (.tuple [.str c.2.1, .int c.2.2]) (.tuple [.str b.2.1, .int b.2.2])) = _
  rw [PySem.W.dataLt_pair (by simp [PySem.W.alike]) (by simp [PySem.W.alike]), PySem.W.dataLt_str, PySem.W.dataLt_int]
  simp only [PyData.eqv, beq_iff_eq]
  by_cases h1 : c.2.1 = b.2.1
  · by_cases h2 : c.2.2 = b.2.2
    · have : ¬ ltP c.2 b.2 := by rw [Prod.ext h1 h2]; exact ltP_irr _
      simp [h1, h2, this]
    · have : ltP c.2 b.2 ↔ c.2.2 < b.2.2 := ⟨fun z => z.elim (fun y => by rw [h1] at y; exact absurd y (ltS_irr _)) fun y => y.2, fun z => .inr ⟨h1, z⟩⟩
      simp [h1, h2, this]
  · have : ltP c.2 b.2 ↔ ltS c.2.1 b.2.1 := ⟨fun z => z.elim id fun y => absurd y.1 h1, .inl⟩
    simp [h1, this, ltS]
end

/-! ### the rules -/
section
variable {X : Cx} {a : Expr} {ta : TE} {p p2 q pos : Pos}
def tSortS (K : PySem.W.Frag) (ta : TE) : TE := fun σ H Q => ta σ H fun x H1 => ∃ (l : Addr) (xs : List Str), x = .ref l ∧ SqL K H1 l (xs.map V.str) ∧ xs.length < 64 ∧
  ∀ (ys : List Str) (r : Addr), H1 r = none → ys.Pairwise ltS → (∀ z, z ∈ ys ↔ z ∈ xs) → Q (.ref r) (upd H1 r (.lst (ys.map V.str)))
def tSortP (K : PySem.W.Frag) (ta : TE) : TE := fun σ H Q => ta σ H fun x H1 => ∃ (l : Addr) (ps : List (Addr × (Str × Int))), x = .ref l ∧ SqL K H1 l (ps.map fun b => V.ref b.1) ∧ ps.length < 64 ∧ (∀ b ∈ ps, SqT K H1 b.1 [.str b.2.1, .int b.2.2]) ∧
  ∀ (ys : List (Addr × (Str × Int))) (r : Addr), H1 r = none → (ys.map (·.2)).Pairwise ltP → (∀ b ∈ ys, b ∈ ps) → (∀ b ∈ ps, b.2 ∈ ys.map (·.2)) → Q (.ref r) (upd H1 r (.lst (ys.map fun b => V.ref b.1)))
def tLenS (K : PySem.W.Frag) (ta : TE) : TE := fun σ H Q => ta σ H fun x H1 => ∃ (l : Addr) (xs : List Str), x = .ref l ∧ SqL K H1 l (xs.map V.str) ∧ xs.length < 64 ∧
  ∀ ys : List Str, ys.Nodup → (∀ z, z ∈ ys ↔ z ∈ xs) → Q (.int ys.length) H1
theorem vals_str : ∀ {xs : List Str} {us : List Value}, Vals (xs.map V.str) us → ∃ ks : List (Value × Str), us = ks.map (·.1) ∧ xs = ks.map (·.2) ∧ ∀ b ∈ ks, ∃ t, b.1 = Value.str b.2 t
  | [], _, .nil => ⟨[], rfl, rfl, fun _ h => nomatch h⟩
  | x :: xs, _, .cons ⟨t, e⟩ r => by
    obtain ⟨ks, e1, e2, h⟩ := vals_str r
    refine ⟨(_, x) :: ks, by rw [e1]; rfl, by rw [e2]; rfl, fun b hb => ?_⟩
    rcases List.mem_cons.mp hb with z | z
    · rw [z]; exact ⟨t, e⟩
    · exact h b z
theorem vals_of_str : ∀ {ks : List (Value × Str)}, (∀ b ∈ ks, ∃ t, b.1 = Value.str b.2 t) → Vals ((ks.map (·.2)).map V.str) (ks.map (·.1))
  | [], _ => .nil
  | b :: ks, h => .cons (h b List.mem_cons_self) (vals_of_str fun c hc => h c (List.mem_cons_of_mem _ hc))
theorem vals_ref : ∀ {ps : List (Addr × (Str × Int))} {us : List Value}, Vals (ps.map fun b => V.ref b.1) us → us = ps.map fun b => Value.ref b.1
  | [], _, .nil => rfl
  | b :: ps, _, .cons e r => by rw [vals_ref r, show _ = Value.ref b.1 from e]; rfl
theorem vals_of_ref : ∀ ps : List (Addr × (Str × Int)), Vals (ps.map fun b => V.ref b.1) (ps.map fun b => Value.ref b.1)
  | [] => .nil
  | _ :: ps => .cons rfl (vals_of_ref ps)
theorem isText {h : Heap} {b : Value × Str} (e : ∃ t, b.1 = Value.str b.2 t) : (textK X.prog X.w).isK h b.2 b.1 := by
  obtain ⟨t, e⟩ := e
  rw [e]
  exact ⟨strKind_is _ _ _ _, rfl⟩
/-- the state behind: the same but heap, marks and draws -/
theorem state_eq {s s' : Shared} (o : s'.os = s.os) : s' = { s with heap := s'.heap, gens := s'.gens, drawn := s'.drawn, toks := s'.toks } := by
  cases s'
  cases s
  cases o
  rfl
theorem pe_sortS (hc : X.calm = true) (hu : X.A.units + 64 < cLine) (hg : Gl X "sorted") (hm : X.mg "sorted" = none) (hg2 : Gl X "set") (hm2 : X.mg "set" = none) (ha : PE X a ta)
    (na : starEach [a] X.env = (false, eval a X.env) :: starEach [] X.env := by rfl) : PE X (.Call (.Name "sorted" p) [.Call (.Name "set" p2) [a] [] q] [] pos) (tSortS X.K ta) := by
  refine ⟨fun pins s σ H Q I h => ?_⟩
  refine Call_ (ld_blt I hg hm PyProof.Rows.boot_sorted ?_)
  refine PyProof.Rows.callWith_builtin1 (PyProof.Rows.args_cons ?_ rfl) rfl rfl
  refine Call_ (ld_blt I hg2 hm2 PyProof.Rows.boot_set ?_)
  refine PyProof.Rows.callWith_type1 (PyProof.Rows.args_cons (thn (ha.run pins s σ H _ I h) fun v s1 ⟨x, H1, I1, r1, q1⟩ => PyProof.Rows.args_nil ?_) na) na rfl
  obtain ⟨l, xs, rfl, hq, hf, q1⟩ := q1
  cases r1
  obtain ⟨its, r, pl, hz⟩ := I1.list hq
  obtain ⟨ks, e1, e2, hks⟩ := vals_str r
  subst e1 e2
  refine call_set (S := textK X.prog X.w) text_adds ks (I1.ok.hd hc) pl.isList (by simp) (fun b hb => isText (hks b hb)) (by rw [List.length_map] at hf; exact hf) (by omega) fun h' tk L R g k => ?_
  have I2 : Inv X pins σ H1 { s1 with heap := h', toks := tk } := I1.kept k
  refine PyProof.Rows.args_nil ?_
  have hLk : ∀ b ∈ L, b ∈ ks := fun b hb => List.mem_of_mem_take (g.sub b hb)
  refine sorted_set (s := { s1 with heap := h', toks := tk }) (enc := fun k => .str k) R (I1.ok.hd hc) (by omega) (fun x => readS x) (fun _ _ => by simp [PySem.W.alike]) (fun bs => PySem.W.Sortable.others fun b => ⟨(fun z => nomatch z), (fun _ z => nomatch z)⟩) (fun _ => by simp [PyData.depth]) fun s' p c bs k' g' o' hp hg pb => ?_
  generalize hM : bs.mergeSort (PySem.W.dataLe false fun b : Value × Str => PyData.str b.2) = M at hg
  have pM : M.Perm L := by rw [← hM]; exact (List.mergeSort_perm _ _).trans pb
  have hlt : (M.map (·.2)).Pairwise ltS := by
    rw [← hM]
    exact sorted_lt (lt := ltS) ltS_trans ltS_tri ltS_irr leS ((pb.map (·.2)).nodup_iff.mpr R.nd)
  have hMk : ∀ b ∈ M, ∃ t, b.1 = Value.str b.2 t := fun b hb => hks b (hLk b (pM.mem_iff.mp hb))
  have hn : H1 p = none := I2.hok.fresh hp
  have hfew : M.length < 64 := by rw [pM.length_eq]; exact R.few
  have J : Inv X pins σ (upd H1 p (.lst ((M.map (·.2)).map V.str))) { ({ s1 with heap := h', toks := tk } : Shared) with heap := s'.heap, gens := s'.gens, drawn := s'.drawn, toks := s'.toks } :=
    I2.call (ch := []) (Un.laid k' hp hn) (I2.hok.laid k' hp ⟨by rw [List.length_map, List.length_map, sizeLine_eq]; omega, M.map (·.1), c, vals_of_str hMk, hg⟩) (by rw [g']; exact I2.bare) (fun _ z => nomatch z)
  rw [state_eq (s := { s1 with heap := h', toks := tk }) o']
  refine ⟨.ref p, _, J, rfl, q1 _ p hn hlt fun z => ?_⟩
  rw [(pM.map (·.2)).mem_iff]
  constructor
  · intro hz
    obtain ⟨b, hb, e⟩ := List.mem_map.mp hz
    rw [← e]
    exact List.mem_map.mpr ⟨b, hLk b hb, rfl⟩
  · intro hz
    obtain ⟨b, hb, e⟩ := List.mem_map.mp hz
    rw [← e]
    exact g.all b (by rw [List.take_length]; exact hb)
theorem pe_sortP (hc : X.calm = true) (hu : X.A.units + 64 < cLine) (hg : Gl X "sorted") (hm : X.mg "sorted" = none) (hg2 : Gl X "set") (hm2 : X.mg "set" = none) (ha : PE X a ta)
    (na : starEach [a] X.env = (false, eval a X.env) :: starEach [] X.env := by rfl) : PE X (.Call (.Name "sorted" p) [.Call (.Name "set" p2) [a] [] q] [] pos) (tSortP X.K ta) := by
  refine ⟨fun pins s σ H Q I h => ?_⟩
  refine Call_ (ld_blt I hg hm PyProof.Rows.boot_sorted ?_)
  refine PyProof.Rows.callWith_builtin1 (PyProof.Rows.args_cons ?_ rfl) rfl rfl
  refine Call_ (ld_blt I hg2 hm2 PyProof.Rows.boot_set ?_)
  refine PyProof.Rows.callWith_type1 (PyProof.Rows.args_cons (thn (ha.run pins s σ H _ I h) fun v s1 ⟨x, H1, I1, r1, q1⟩ => PyProof.Rows.args_nil ?_) na) na rfl
  obtain ⟨l, ps, rfl, hq, hf, ht, q1⟩ := q1
  cases r1
  obtain ⟨its, r, pl, hz⟩ := I1.list hq
  have e1 := vals_ref r
  subst e1
  have isP : ∀ b ∈ ps, (pairK X.prog X.w).isK s1.heap b.2 (.ref b.1) := fun b hb => by
    obtain ⟨us, rv, tp, _⟩ := I1.tuple (ht b hb)
    refine ⟨b.1, rfl, ?_⟩
    obtain ⟨o, ho, hcl, n, hd⟩ := tp
    refine ⟨o, us.toArray, n, ho, hcl, hd, ?_⟩
    cases rv with
    | cons r1 r2 =>
      cases r2 with
      | cons r3 r4 =>
        cases r4
        obtain ⟨t, rfl⟩ := r1
        obtain ⟨t', rfl⟩ := r3
        exact .cons (mixKind_str _ _ _ _) (.cons (mixKind_int _ _ _ _) .nil)
  refine call_set (S := pairK X.prog X.w) pair_adds (ps.map fun b => (Value.ref b.1, b.2)) (I1.ok.hd hc) pl.isList (by simp [Function.comp_def]) (fun b hb => ?_) (by rw [List.length_map]; exact hf) (by omega) fun h' tk L R g k => ?_
  · obtain ⟨c, hcm, rfl⟩ := List.mem_map.mp hb
    exact isP c hcm
  have I2 : Inv X pins σ H1 { s1 with heap := h', toks := tk } := I1.kept k
  refine PyProof.Rows.args_nil ?_
  have hLk : ∀ b ∈ L, b ∈ ps.map fun b => (Value.ref b.1, b.2) := fun b hb => List.mem_of_mem_take (g.sub b hb)
  refine sorted_set (s := { s1 with heap := h', toks := tk }) (enc := encP) R (I1.ok.hd hc) (by omega) (fun x => readP x) (fun _ _ => by simp [encP, PySem.W.alike, PySem.W.alikeAll]) (fun bs => PySem.W.Sortable.tuples fun b => ⟨_, _, rfl⟩) (fun _ => by simp [encP, PyData.depth, PyData.depthAll]) fun s' p c bs k' g' o' hp hg pb => ?_
  generalize hM : bs.mergeSort (PySem.W.dataLe false fun b : Value × (Str × Int) => encP b.2) = M at hg
  have pM : M.Perm L := by rw [← hM]; exact (List.mergeSort_perm _ _).trans pb
  have hlt : (M.map (·.2)).Pairwise ltP := by
    rw [← hM]
    exact sorted_lt (lt := ltP) ltP_trans ltP_tri ltP_irr leP ((pb.map (·.2)).nodup_iff.mpr R.nd)
  -- the members by their addresses
  have addr : ∀ M : List (Value × (Str × Int)), (∀ b ∈ M, b ∈ ps.map fun b => (Value.ref b.1, b.2)) → ∃ N : List (Addr × (Str × Int)), M = N.map (fun b => (Value.ref b.1, b.2)) ∧ ∀ b ∈ N, b ∈ ps := by
    intro M
    induction M with
    | nil => intro _; exact ⟨[], rfl, fun _ z => nomatch z⟩
    | cons b M ih =>
      intro hM
      obtain ⟨c, hc, e⟩ := List.mem_map.mp (hM b List.mem_cons_self)
      obtain ⟨N, e2, hN⟩ := ih fun d hd => hM d (List.mem_cons_of_mem _ hd)
      refine ⟨c :: N, by rw [List.map_cons, e, e2], fun d hd => ?_⟩
      rcases List.mem_cons.mp hd with z | z
      · rw [z]; exact hc
      · exact hN d z
  obtain ⟨N, rfl, hN⟩ := addr M fun b hb => hLk b (pM.mem_iff.mp hb)
  have hn : H1 p = none := I2.hok.fresh hp
  have hfew : N.length < 64 := by have := R.few; rw [← pM.length_eq, List.length_map] at this; exact this
  rw [List.map_map] at hg
  have J : Inv X pins σ (upd H1 p (.lst (N.map fun b => V.ref b.1))) { ({ s1 with heap := h', toks := tk } : Shared) with heap := s'.heap, gens := s'.gens, drawn := s'.drawn, toks := s'.toks } :=
    I2.call (ch := []) (Un.laid k' hp hn) (I2.hok.laid k' hp ⟨by rw [List.length_map, sizeLine_eq]; omega, _, c, vals_of_ref N, hg⟩) (by rw [g']; exact I2.bare) (fun _ z => nomatch z)
  rw [state_eq (s := { s1 with heap := h', toks := tk }) o']
  have e3 : (N.map fun b => (Value.ref b.1, b.2)).map (·.2) = N.map (·.2) := by rw [List.map_map]; rfl
  rw [e3] at hlt
  refine ⟨.ref p, _, J, rfl, q1 N p hn hlt hN fun b hb => ?_⟩
  rw [← e3, (pM.map (·.2)).mem_iff]
  exact g.all (Value.ref b.1, b.2) (by rw [List.take_length]; exact List.mem_map.mpr ⟨b, hb, rfl⟩)
theorem pe_lenS (hc : X.calm = true) (hu : X.A.units + 64 < cLine) (hg : Gl X "len") (hm : X.mg "len" = none) (hg2 : Gl X "set") (hm2 : X.mg "set" = none) (ha : PE X a ta)
    (na : starEach [a] X.env = (false, eval a X.env) :: starEach [] X.env := by rfl) : PE X (.Call (.Name "len" p) [.Call (.Name "set" p2) [a] [] q] [] pos) (tLenS X.K ta) := by
  refine ⟨fun pins s σ H Q I h => ?_⟩
  refine Call_ (ld_blt I hg hm PySem.boot_len ?_)
  refine PyProof.Rows.callWith_builtin1 (PyProof.Rows.args_cons ?_ rfl) rfl rfl
  refine Call_ (ld_blt I hg2 hm2 PyProof.Rows.boot_set ?_)
  refine PyProof.Rows.callWith_type1 (PyProof.Rows.args_cons (thn (ha.run pins s σ H _ I h) fun v s1 ⟨x, H1, I1, r1, q1⟩ => PyProof.Rows.args_nil ?_) na) na rfl
  obtain ⟨l, xs, rfl, hq, hf, q1⟩ := q1
  cases r1
  obtain ⟨its, r, pl, hz⟩ := I1.list hq
  obtain ⟨ks, e1, e2, hks⟩ := vals_str r
  subst e1 e2
  refine call_set (S := textK X.prog X.w) text_adds ks (I1.ok.hd hc) pl.isList (by simp) (fun b hb => isText (hks b hb)) (by rw [List.length_map] at hf; exact hf) (by omega) fun h' tk L R g k => ?_
  have I2 : Inv X pins σ H1 { s1 with heap := h', toks := tk } := I1.kept k
  refine PyProof.Rows.args_nil ?_
  obtain ⟨o, es, ep, t, ho, hex, hd, tb, ld⟩ := R.ob
  have hsz := scan_size tb
  have hfew := R.few
  refine call_len_set ho hex hd ((textK X.prog X.w).fits tb) (by rw [hsz]; omega) ⟨.int (L.map (·.2)).length, H1, I2.tok _, ⟨_, by rw [hsz, List.length_map]⟩, q1 _ R.nd fun z => ?_⟩
  constructor
  · intro hz
    obtain ⟨b, hb, e⟩ := List.mem_map.mp hz
    rw [← e]
    exact List.mem_map.mpr ⟨b, List.mem_of_mem_take (g.sub b hb), rfl⟩
  · intro hz
    obtain ⟨b, hb, e⟩ := List.mem_map.mp hz
    rw [← e]
    exact g.all b (by rw [List.take_length]; exact hb)
end
end DSet
set_option Elab.async false
set_option linter.all false
set_option maxRecDepth 100000
set_option maxHeartbeats 1000000
set_option autoImplicit false
/-! operators of an own class -/
namespace DOwn
open PySem PySem.Spec PyProof.Rows L2
section
variable {X : Cx} {k : Nat} {CX : CXT} {f C : Addr} {fd : FuncData} {ps : List Str} {sp : Sp} {E : XK}
/-- a callee, run somewhere below -/
theorem run_any {A : Around} {pins : List (Addr × Obj)} {σ : L2.St} {H : Hp} {s : Shared} {Q : VK} {us : List Value} {vs : List V} (G : FnOk X.prog X.w X.K X.mg X.base CX k f fd ps sp) (hr : Room k A) (fr : A.frames = X.A.frames) (hb : Binds X.K fd ps []) (hx : Passes CX X E)
    (I : Inv X pins σ H s) (r : Vals vs us) (h : sp vs H Q E) : wpAny (model X.prog X.w) A (call (.ref f) us) (EP X pins σ Q) X.xe s := by
  have hl : (us ++ ([] : List Value)).length = ps.length := by rw [List.append_nil, ← r.length]; exact G.len _ _ _ _ h
  have e0 : Env0 X.prog X.w X.K X.mg X.base A X.stack s H := by
    have e := I.env0
    exact ⟨by rw [fr]; exact e.frames, e.mod, e.bs, e.bsz, e.funs, e.frf, e.hok, e.bare⟩
  have b := hb s us I.kIn hl
  rw [List.append_nil] at b
  refine wpAny_call (codeAny_mono (G.run A X.stack s H ⟨us, []⟩ us vs Q E hr e0 b r h) fun z s' hq => ?_)
  cases z with
  | error e => exact hx pins σ H s e s' I hq
  | ok fl =>
    cases fl with
    | ret u => exact I.after hq
    | next => exact False.elim hq
    | brk => exact False.elim hq
    | cont => exact False.elim hq
theorem rel_back {v : V} {u : Value} (r : RelV v u) {Q : Value → Shared → Prop} {s : Shared} (h : Q u s) : PySem.W.CmpBack Q u s := by
  cases v with
  | non => cases r; exact h
  | bl _ => cases r; exact h
  | int _ => obtain ⟨t, rfl⟩ := r; exact h
  | str _ => obtain ⟨t, rfl⟩ := r; exact h
  | byt _ => obtain ⟨t, rfl⟩ := r; exact h
  | flt _ => obtain ⟨t, rfl⟩ := r; exact h
  | ref _ => cases r; exact h
  | ty _ => cases r; exact h
/-- two instances of the class at C, then what the method says -/
def rOwn (C : Addr) (sp : Sp) (E : XK) : R2 := fun x y H Q => (∃ a dx fs, x = .ref a ∧ H a = some (.ins C dx fs)) ∧ (∃ b dy gs, y = .ref b ∧ H b = some (.ins C dy gs)) ∧ sp [x, y] H Q E
theorem inst_of {pins : List (Addr × Obj)} {σ : L2.St} {H : Hp} {s : Shared} {a dx : Addr} {fs : List (Str × V)} (I : Inv X pins σ H s) (h : H a = some (.ins C dx fs)) : ∃ od, PySem.W.InstAt s.heap a (PySem.W.instObj C dx) C (some od) := by
  obtain ⟨mA, J, _⟩ := ins_get I.hok h
  obtain ⟨od, J, _⟩ := J.look
  exact ⟨od, J⟩
theorem op_own {op : Operator} (G : FnOk X.prog X.w X.K X.mg X.base CX k f fd ps sp) (hr : Room k X.A) (hb : Binds X.K fd ps []) (hx : Passes CX X E) (hc : PySem.W.selfFirst X.K C = true)
    (hs : PySem.W.findIn X.K (.ref C) (PySem.dunder op.info.2) = some (some (.ref f))) (hf : PySem.W.isFn X.K (.ref f) = true) : OpR X (binaryOp op) (rOwn C sp E) := by
  intro pins s σ H x y u v Q I rx ry h
  obtain ⟨⟨a, dx, fs, rfl, ha⟩, ⟨b, dy, gs, rfl, hb'⟩, h⟩ := h
  cases rx
  cases ry
  obtain ⟨od, J⟩ := inst_of I ha
  obtain ⟨od', J'⟩ := inst_of I hb'
  obtain ⟨m, hF⟩ := I.fr
  refine PySem.W.binop_K hF I.ok.mod.kin J J'.type hc hs hf (wpAny_mono (run_any G hr rfl hb hx I (vs := [.ref a, .ref b]) (us := [.ref a, .ref b]) (.cons rfl (.cons rfl .nil)) h) (fun z s' q => ?_) fun _ _ q => q)
  obtain ⟨w', H', I', r', q'⟩ := q
  exact rel_back r' ⟨w', H', I', r', q'⟩
theorem cmp_own {op : CmpOp} (hop : ∀ a b, compareOp op a b = richCompare op a b) (G : FnOk X.prog X.w X.K X.mg X.base CX k f fd ps sp) (hr : Room k X.A) (hb : Binds X.K fd ps []) (hx : Passes CX X E)
    (hs : PySem.W.findIn X.K (.ref C) (cmpInfo op).2.1 = some (some (.ref f))) (hf : PySem.W.isFn X.K (.ref f) = true) : OpR X (compareOp op) (rOwn C sp E) := by
  intro pins s σ H x y u v Q I rx ry h
  obtain ⟨⟨a, dx, fs, rfl, ha⟩, ⟨b, dy, gs, rfl, hb'⟩, h⟩ := h
  cases rx
  cases ry
  obtain ⟨od, J⟩ := inst_of I ha
  obtain ⟨od', J'⟩ := inst_of I hb'
  obtain ⟨m, hF⟩ := I.fr
  rw [hop]
  refine PySem.W.cmp_K (op := op) (tb := .ref C) hr.units0 hF I.ok.mod.kin J J'.type (by simp [PySem.W.notFirst]) hs hf (wpAny_mono (run_any G hr rfl hb hx I (vs := [.ref a, .ref b]) (us := [.ref a, .ref b]) (.cons rfl (.cons rfl .nil)) h) (fun z s' q => ?_) fun _ _ q => q)
  obtain ⟨w', H', I', r', q'⟩ := q
  exact rel_back r' ⟨w', H', I', r', q'⟩
/-- != by the own == -/
def rOwnNe (C : Addr) (sp : Sp) (E : XK) : R2 := fun x y H Q => (∃ a dx fs, x = .ref a ∧ H a = some (.ins C dx fs)) ∧ (∃ b dy gs, y = .ref b ∧ H b = some (.ins C dy gs)) ∧ sp [x, y] H (fun v H' => ∃ c, v = .bl c ∧ Q (.bl (!c)) H') E
theorem ne_own {bm : List Value} (FB : CmpFacts "object" bm) (hO : ∀ (h : Heap) (a dx : Addr), X.K.In h → h.get? a = some (PySem.W.instObj C dx) → h.OwnEqNoNe a C f "object" bm) (G : FnOk X.prog X.w X.K X.mg X.base CX k f fd ps sp) (hr : Room (k + 1) X.A) (hb : Binds X.K fd ps []) (hx : Passes CX X E) : OpR X (compareOp .NotEq) (rOwnNe C sp E) := by
  intro pins s σ H x y u v Q I rx ry h
  obtain ⟨⟨a, dx, fs, rfl, ha⟩, ⟨b, dy, gs, rfl, hb'⟩, h⟩ := h
  cases rx
  cases ry
  obtain ⟨_, _, _, ea, _⟩ := I.hok a _ ha
  obtain ⟨_, _, _, eb, _⟩ := I.hok b _ hb'
  have O := hO s.heap a dx I.kIn ea
  have main := run_any (A := X.A.in1) G hr.in1 rfl hb hx I (vs := [.ref a, .ref b]) (us := [.ref a, .ref b]) (.cons rfl (.cons rfl .nil)) h
  obtain ⟨hp, g, d, t, os⟩ := s
  refine compareOp_ne_ownEq FB O eb rfl (hu_of hr) (wpAny_mono main (fun z s' q => ?_) fun _ _ q => q)
  obtain ⟨w', H', I', r', c, rfl, q'⟩ := q
  cases r'
  exact ⟨c, rfl, .bl (!c), H', I', rfl, q'⟩
/-- o[i] by the own method -/
def rOwnIx (C : Addr) (sp : Sp) (E : XK) : R2 := fun x y H Q => (∃ a dx fs, x = .ref a ∧ H a = some (.ins C dx fs)) ∧ sp [x, y] H Q E
theorem pe_ixOwn {a b : Expr} {ta tb : TE} {pos : Pos} (G : FnOk X.prog X.w X.K X.mg X.base CX k f fd ps sp) (hr : Room (k + 1) X.A) (hb : Binds X.K fd ps []) (hx : Passes CX X E)
    (hs : PySem.W.findIn X.K (.ref C) "__getitem__" = some (some (.ref f))) (hf : PySem.W.fnIn X.K f = true) (hfn : PySem.W.isFn X.K (.ref f) = true) (pa : PE X a ta) (pb : PE X b tb)
    (hsl : ∀ o i, subscripted b true o i = runValue (.builtin "lifetime.subscript" ⟨[o, i], []⟩)) : PE X (.Subscript a b pos) (tOp (rOwnIx C sp E) ta tb) := by
  refine ⟨fun pins s σ H Q I h => ?_⟩
  refine Subscript_ (binT pa pb I h fun v u s2 x y H2 I2 rx ry q => ?_)
  obtain ⟨⟨c, dx, fs, rfl, hc⟩, q⟩ := q
  cases rx
  obtain ⟨od, J⟩ := inst_of I2 hc
  obtain ⟨m, hF⟩ := I2.fr
  exact PySem.W.sub_K hF I2.ok.mod.kin J hs hf hfn (run_any (A := X.A.in1) G hr.in1 rfl hb hx I2 (vs := [.ref c, y]) (us := [.ref c, u]) (.cons rfl (.cons ry .nil)) q) (hsl _ _)
/-- x op= y without a method of its own for it -/
theorem ip_own {op : Operator} {cd : ClassData} (G : FnOk X.prog X.w X.K X.mg X.base CX k f fd ps sp) (hr : Room k X.A) (hb : Binds X.K fd ps []) (hx : Passes CX X E) (hcd : PySem.W.clsIn X.K C = some cd) (hm : cd.mro = [.ref C, .type "object"])
    (hs : PySem.W.findIn X.K (.ref C) (PySem.dunder op.info.2) = some (some (.ref f))) (hf : PySem.W.isFn X.K (.ref f) = true)
    (hi : PySem.W.findIn X.K (.ref C) (PySem.dunderI op.info.2) = some none) (ho : PySem.W.findIn X.K (.type "object") (PySem.dunderI op.info.2) = some none) : PIp X op (rOwn C sp E) := by
  intro pins s σ H x y u v Q I rx ry h
  obtain ⟨⟨a, dx, fs, rfl, ha⟩, ⟨b, dy, gs, rfl, hb'⟩, h⟩ := h
  cases rx
  cases ry
  obtain ⟨od, J⟩ := inst_of I ha
  obtain ⟨od', J'⟩ := inst_of I hb'
  have KX := I.kIn
  unfold inplaceOp
  refine wpAny_holding (wpAny_bind (J.type.here (wpAny_bind ?_)))
  unfold fillsInplaceSlot
  dsimp only
  refine wpAny_bind ?_
  have mro : PySem.W.Looks (model X.prog X.w) s.heap (mroOf (.ref C)) cd.mro := (PySem.W.looks_clsIn KX hcd).andThen (f := fun cd => pure cd.mro) .now
  refine mro.here ?_
  rw [hm, List.anyM_cons]
  refine wpAny_bind (wpAny_bind ((PySem.W.looks_findIn KX hi).here ?_))
  refine wpAny_pure ?_
  simp only [Bool.false_eq_true, if_false]
  rw [List.anyM_cons]
  refine wpAny_bind (wpAny_bind ((PySem.W.looks_findIn KX ho).here ?_))
  refine wpAny_pure ?_
  simp only [Bool.false_eq_true, if_false]
  refine wpAny_pure ?_
  simp only [Bool.false_eq_true, if_false]
  try refine wpAny_bind (wpAny_pure ?_)
  refine wpAny_bind ?_
  unfold binaryOp1
  refine wpAny_bind (J.type.here (wpAny_bind (J'.type.here (wpAny_bind ((PySem.W.fills_K KX hcd hm hs).here ?_)))))
  simp only [beq_self_eq_true, if_true]
  refine wpAny_bind (wpAny_pure ?_)
  simp only [Bool.and_false, Bool.false_eq_true, if_false, Bool.false_and]
  refine wpAny_bind (wpAny_pure ?_)
  simp only [Bool.false_eq_true, if_false]
  refine wpAny_bind (m := tryMethod (.ref a) _ (.ref b)) ?_
  unfold tryMethod
  refine wpAny_bind (PySem.W.special_fn KX J hs (beq_iff_eq.mp hf) (wpAny_mono (run_any G hr rfl hb hx I (vs := [.ref a, .ref b]) (us := [.ref a, .ref b]) (.cons rfl (.cons rfl .nil)) h) (fun z s' q => ?_) fun _ _ q => q))
  obtain ⟨w', H', I', r', q'⟩ := q
  have hv := rel_back r' (Q := EP X pins σ Q) ⟨w', H', I', r', q'⟩
  cases z <;> first | exact hv.elim | exact wpAny_pure (wpAny_pure (wpAny_pure hv))
end
end DOwn
set_option Elab.async false
set_option linter.all false
set_option maxRecDepth 100000
set_option maxHeartbeats 1000000
set_option autoImplicit false
/-! DL: what operators and built-ins do with data. -/
namespace DL
open PySem L2

section
variable {K : PySem.W.Frag} {Z : Addr → Prop} {p : Addr} {H : Hp}
theorem rep_int {i : Int} {v : V} (h : Rep K Z p H (.int i) v) : v = .int i := h
theorem rep_str {i : Str} {v : V} (h : Rep K Z p H (.str i) v) : v = .str i := h
/-- the arguments, one or two -/
theorem reps1 {d : D} {vs : List V} (h : Reps K Z p H [d] vs) : ∃ v, vs = [v] ∧ Rep K Z p H d v := by
  obtain ⟨v, r, e, a, b⟩ := h
  have b : r = [] := b
  subst b
  exact ⟨v, e, a⟩
theorem reps2 {d e : D} {vs : List V} (h : Reps K Z p H [d, e] vs) : ∃ v u, vs = [v, u] ∧ Rep K Z p H d v ∧ Rep K Z p H e u := by
  obtain ⟨v, r, e1, a, b⟩ := h
  obtain ⟨u, er, ru⟩ := reps1 b
  subst er
  exact ⟨v, u, e1, a, ru⟩
end

/-! ### plus -/
def addD : D → D → Option D
  | .int a, .int b => some (.int (a + b))
  | .str a, .str b => if a.length + b.length ≤ most then some (.str (a ++ b)) else none
  | .lst a, .lst b => if a.length + b.length ≤ most then some (.lst (a ++ b)) else none
  | .tup a, .tup b => if a.length + b.length ≤ most then some (.tup (a ++ b)) else none
  | _, _ => none
abbrev rAdd (K : PySem.W.Frag) : R2 := fun x y H Q => (rI0 fun i j => .int (i + j)) x y H Q ∨ ((∃ i j, x = .str i ∧ y = .str j ∧ i.length + j.length ≤ sizeLine ∧ Q (.str (i ++ j)) H) ∨ (rCat x y H Q ∨ rCatA K x y H Q))
theorem or_add {X : Cx} : OpR X (binaryOp .Add) (rAdd X.K) := op_add.or (op_add_str.or (op_cat.or op_catA))
theorem od_add {K : PySem.W.Frag} : OpD K (rAdd K) addD := by
  intro Z p H d1 d2 d x y Q hz r1 r2 e q
  cases d1 with
  | int a =>
    cases d2 with
    | int b => cases e; cases r1; cases r2; exact .inl ⟨a, b, rfl, rfl, q _ _ .refl rfl⟩
    | _ => cases e
  | str a =>
    cases d2 with
    | str b =>
      have e : (if a.length + b.length ≤ most then some (D.str (a ++ b)) else none) = some d := e
      split at e
      · rename_i hl
        cases e; cases r1; cases r2
        exact .inr (.inl ⟨a, b, rfl, rfl, most_le hl, q _ _ .refl rfl⟩)
      · cases e
    | _ => cases e
  | lst a =>
    cases d2 with
    | lst b =>
      have e : (if a.length + b.length ≤ most then some (D.lst (a ++ b)) else none) = some d := e
      split at e
      · rename_i hl
        cases e
        obtain ⟨l, vs, rfl, ⟨zl, hl1⟩, rs1⟩ := r1
        obtain ⟨m, us, rfl, ⟨zm, hm1⟩, rs2⟩ := r2
        refine .inr (.inr (.inl ⟨l, m, vs, us, rfl, rfl, hl1, hm1, by rw [← rs1.len, ← rs2.len]; exact most_le hl, fun t nt => q _ _ (Xt.new nt) (rep_lst (hz t nt) nt (rs1.app rs2))⟩))
      · cases e
    | _ => cases e
  | tup a =>
    cases d2 with
    | tup b =>
      have e : (if a.length + b.length ≤ most then some (D.tup (a ++ b)) else none) = some d := e
      split at e
      · rename_i hl
        cases e
        have r1' := r1
        have r2' := r2
        obtain ⟨l, vs, rfl, hs1, rs1⟩ := r1
        obtain ⟨m, us, rfl, hs2, rs2⟩ := r2
        refine .inr (.inr (.inr ⟨l, m, vs, us, rfl, rfl, sqT_of hs1, sqT_of hs2, by rw [← rs1.len, ← rs2.len]; exact most_le hl, fun ev => ?_, fun nv eu => ?_, fun nv nu t nt => q _ _ (Xt.new nt) (rep_tup (hz t nt) nt (rs1.app rs2))⟩))
        · have ha : a = [] := by
            have := rs1.len
            rw [ev] at this
            exact List.length_eq_zero_iff.mp this
          subst ha
          exact q _ _ .refl r2'
        · have hb : b = [] := by
            have := rs2.len
            rw [eu] at this
            exact List.length_eq_zero_iff.mp this
          subst hb
          refine q _ _ .refl ?_
          rw [List.append_nil]
          exact r1'
      · cases e
    | _ => cases e
  | _ => cases d2 <;> cases e

/-! ### ints -/
def intOp (f : Int → Int → D) : D → D → Option D
  | .int a, .int b => some (f a b)
  | _, _ => none
def intOpC (C : Int → Int → Bool) (f : Int → Int → D) : D → D → Option D
  | .int a, .int b => if C a b = true then some (f a b) else none
  | _, _ => none
theorem od_int {K : PySem.W.Frag} {g : Int → Int → V} {f : Int → Int → D} (h : ∀ a b Z p H, Rep K Z p H (f a b) (g a b)) : OpD K (rI0 g) (intOp f) := by
  intro Z p H d1 d2 d x y Q hz r1 r2 e q
  cases d1 with
  | int a =>
    cases d2 with
    | int b => cases e; cases r1; cases r2; exact ⟨a, b, rfl, rfl, q _ _ .refl (h a b _ _ _)⟩
    | _ => cases e
  | _ => cases d2 <;> cases e
theorem od_intC {K : PySem.W.Frag} {P : Int → Int → Prop} {C : Int → Int → Bool} {g : Int → Int → V} {f : Int → Int → D} (hP : ∀ a b, C a b = true → P a b) (h : ∀ a b Z p H, Rep K Z p H (f a b) (g a b)) : OpD K (rI P g) (intOpC C f) := by
  intro Z p H d1 d2 d x y Q hz r1 r2 e q
  cases d1 with
  | int a =>
    cases d2 with
    | int b =>
      have e : (if C a b = true then some (f a b) else none) = some d := e
      split at e
      · rename_i hc
        cases e; cases r1; cases r2
        exact ⟨a, b, rfl, rfl, hP a b hc, q _ _ .refl (h a b _ _ _)⟩
      · cases e
    | _ => cases e
  | _ => cases d2 <;> cases e
def subD := intOp fun a b => .int (a - b)
def ltD := intOp fun a b => .bl (decide (a < b))
def leD := intOp fun a b => .bl (decide (a ≤ b))
def gtD := intOp fun a b => .bl (decide (b < a))
def geD := intOp fun a b => .bl (decide (b ≤ a))
def small (a : Int) : Bool := decide (-(2 ^ 64) < a) && decide (a < 2 ^ 64)
def mulD := intOpC (fun a b => small a || small b) fun a b => .int (a * b)
def modD := intOpC (fun _ b => decide (0 < b)) fun a b => .int (a % b)
def powD := intOpC (fun a b => decide (0 ≤ b) && decide (b ≤ 1000000) && decide (a.natAbs < 2 ^ 64)) fun a b => .int (a ^ b.toNat)
theorem od_sub {K : PySem.W.Frag} : OpD K (rI0 fun i j => .int (i - j)) subD := od_int (g := fun i j => .int (i - j)) (f := fun a b => .int (a - b)) fun _ _ _ _ _ => rfl
theorem od_lt {K : PySem.W.Frag} : OpD K (rI0 fun i j => .bl (decide (i < j))) ltD := od_int (g := fun i j => .bl (decide (i < j))) (f := fun a b => .bl (decide (a < b))) fun _ _ _ _ _ => rfl
theorem od_le {K : PySem.W.Frag} : OpD K (rI0 fun i j => .bl (decide (i ≤ j))) leD := od_int (g := fun i j => .bl (decide (i ≤ j))) (f := fun a b => .bl (decide (a ≤ b))) fun _ _ _ _ _ => rfl
theorem od_gt {K : PySem.W.Frag} : OpD K (rI0 fun i j => .bl (decide (j < i))) gtD := od_int (g := fun i j => .bl (decide (j < i))) (f := fun a b => .bl (decide (b < a))) fun _ _ _ _ _ => rfl
theorem od_ge {K : PySem.W.Frag} : OpD K (rI0 fun i j => .bl (decide (j ≤ i))) geD := od_int (g := fun i j => .bl (decide (j ≤ i))) (f := fun a b => .bl (decide (b ≤ a))) fun _ _ _ _ _ => rfl
theorem od_mul {K : PySem.W.Frag} : OpD K (rI CMul fun i j => .int (i * j)) mulD := od_intC (g := fun i j => .int (i * j)) (f := fun a b => .int (a * b)) (fun a b h => by
  rcases Bool.or_eq_true_iff.mp h with h | h
  · have h := Bool.and_eq_true_iff.mp h
    exact .inl ⟨of_decide_eq_true h.1, of_decide_eq_true h.2⟩
  · have h := Bool.and_eq_true_iff.mp h
    exact .inr ⟨of_decide_eq_true h.1, of_decide_eq_true h.2⟩) fun _ _ _ _ _ => rfl
theorem od_mod {K : PySem.W.Frag} : OpD K (rI (fun _ j => 0 < j) fun i j => .int (i % j)) modD := od_intC (g := fun i j => .int (i % j)) (f := fun a b => .int (a % b)) (fun a b h => of_decide_eq_true h) fun _ _ _ _ _ => rfl
theorem od_pow {K : PySem.W.Frag} : OpD K (rI CPow fun i j => .int (i ^ j.toNat)) powD := od_intC (g := fun i j => .int (i ^ j.toNat)) (f := fun a b => .int (a ^ b.toNat)) (fun a b h => by
  obtain ⟨h, h3⟩ := Bool.and_eq_true_iff.mp h
  obtain ⟨h1, h2⟩ := Bool.and_eq_true_iff.mp h
  exact ⟨of_decide_eq_true h1, of_decide_eq_true h2, of_decide_eq_true h3⟩) fun _ _ _ _ _ => rfl
def negD : D → Option D
  | .int a => some (.int (-a))
  | _ => none
theorem ud_neg {K : PySem.W.Frag} : UnD K (rU fun i => .int (-i)) negD := by
  intro Z p H d1 d x Q hz r1 e q
  cases d1 with
  | int a => cases e; cases r1; exact ⟨a, rfl, q _ _ .refl rfl⟩
  | _ => cases e

/-! ### data, compared -/
mutual
def D.pure : D → Bool
  | .non => true
  | .bl _ => true
  | .int _ => true
  | .str _ => true
  | .tup l => pureL l
  | .lst l => pureL l
  | _ => false
def pureL : List D → Bool
  | [] => true
  | d :: l => d.pure && pureL l
end
mutual
def D.py : D → PyData
  | .bl b => .bool b
  | .int i => .int i
  | .str s => .str s
  | .tup l => .tuple (pyL l)
  | .lst l => .list (pyL l)
  | _ => .none
def pyL : List D → List PyData
  | [] => []
  | d :: l => d.py :: pyL l
end
section
variable {K : PySem.W.Frag} {Z : Addr → Prop} {p : Addr} {H : Hp}
mutual
theorem dp_of : ∀ {d : D} {v : V}, d.pure = true → Rep K Z p H d v → Dp K H v d.py
  | .non, _, _, r => by cases r; exact .non
  | .bl b, _, _, r => by cases r; exact .bl b
  | .int b, _, _, r => by cases r; exact .int b
  | .str b, _, _, r => by cases r; exact .str b
  | .tup l, _, h, ⟨a, vs, e, hs, rs⟩ => by subst e; exact .tup (sqT_of hs) (dpAll_of h rs)
  | .lst l, _, h, ⟨a, vs, e, hs, rs⟩ => by subst e; exact .lst (sqL_of hs) (dpAll_of h rs)
  | .ty _, _, h, _ => nomatch h
  | .con _, _, h, _ => nomatch h
  | .pot, _, h, _ => nomatch h
  | .dct _, _, h, _ => nomatch h
  | .ins _ _, _, h, _ => nomatch h
theorem dpAll_of : ∀ {l : List D} {vs : List V}, pureL l = true → Reps K Z p H l vs → DpAll K H vs (pyL l)
  | [], _, _, r => by rw [show _ = [] from r]; exact .nil
  | d :: l, _, h, ⟨v, r, e, a, b⟩ => by
    subst e
    have h : (d.pure && pureL l) = true := h
    obtain ⟨h1, h2⟩ := Bool.and_eq_true_iff.mp h
    exact .cons (dp_of h1 a) (dpAll_of h2 b)
end
end
def cmpOk (d : D) : Bool := d.pure && SeqAt.shaped d.py
def eqD : D → D → Option D := fun d e => if (cmpOk d && cmpOk e) = true then some (.bl (PyData.eqv d.py e.py)) else none
def neD : D → D → Option D := fun d e => if (cmpOk d && cmpOk e) = true then some (.bl (!PyData.eqv d.py e.py)) else none
theorem od_eq {K : PySem.W.Frag} : OpD K (rEqD K) eqD := by
  intro Z p H d1 d2 d x y Q hz r1 r2 e q
  unfold eqD at e
  split at e
  · rename_i h
    cases e
    obtain ⟨h1, h2⟩ := Bool.and_eq_true_iff.mp h
    obtain ⟨a1, b1⟩ := Bool.and_eq_true_iff.mp h1
    obtain ⟨a2, b2⟩ := Bool.and_eq_true_iff.mp h2
    exact ⟨d1.py, d2.py, dp_of a1 r1, dp_of a2 r2, b1, b2, q _ _ .refl rfl⟩
  · cases e
theorem od_ne {K : PySem.W.Frag} : OpD K (rNeD K) neD := by
  intro Z p H d1 d2 d x y Q hz r1 r2 e q
  unfold neD at e
  split at e
  · rename_i h
    cases e
    obtain ⟨h1, h2⟩ := Bool.and_eq_true_iff.mp h
    obtain ⟨a1, b1⟩ := Bool.and_eq_true_iff.mp h1
    obtain ⟨a2, b2⟩ := Bool.and_eq_true_iff.mp h2
    exact ⟨d1.py, d2.py, dp_of a1 r1, dp_of a2 r2, b1, b2, q _ _ .refl rfl⟩
  · cases e
/-- is None -/
def isNon : D → Bool
  | .non => true
  | _ => false
def isND : D → D → Option D
  | d, .non => some (.bl (isNon d))
  | _, _ => none
theorem rep_isN {K : PySem.W.Frag} {Z : Addr → Prop} {p : Addr} {H : Hp} {d : D} {v : V} (r : Rep K Z p H d v) : decide (v = .non) = isNon d := by
  cases d with
  | non => cases r; rfl
  | bl _ => cases r; rfl
  | int _ => cases r; rfl
  | str _ => cases r; rfl
  | ty _ => cases r; rfl
  | con _ => cases r; rfl
  | pot => cases r; rfl
  | tup _ => obtain ⟨a, _, e, _⟩ := r; subst e; rfl
  | lst _ => obtain ⟨a, _, e, _⟩ := r; subst e; rfl
  | dct _ => obtain ⟨a, _, e, _⟩ := r; subst e; rfl
  | ins _ _ => obtain ⟨a, _, _, e, _⟩ := r; subst e; rfl
  | exc _ _ => obtain ⟨a, _, _, e, _⟩ := r; subst e; rfl
  | dlk _ => obtain ⟨a, _, _, e, _⟩ := r; subst e; rfl
  | odd _ _ _ => obtain ⟨a, _, _, _, _, e, _⟩ := r; subst e; rfl
theorem od_isN {K : PySem.W.Frag} : OpD K (fun x y H Q => y = .non ∧ Q (.bl (decide (x = .non))) H) isND := by
  intro Z p H d1 d2 d x y Q hz r1 r2 e q
  cases d2 with
  | non =>
    cases e; cases r2
    exact ⟨rfl, q _ _ .refl (by rw [rep_isN r1]; rfl)⟩
  | _ => cases e

/-! ### in -/
def flatD : D → Bool
  | .non => true
  | .bl _ => true
  | .int _ => true
  | .str _ => true
  | _ => false
def flatOf : D → V
  | .bl b => .bl b
  | .int i => .int i
  | .str s => .str s
  | _ => .non
theorem rep_flat {K : PySem.W.Frag} {Z : Addr → Prop} {p : Addr} {H : Hp} {d : D} {v : V} (h : flatD d = true) (r : Rep K Z p H d v) : v = flatOf d ∧ flatV v = true := by
  cases d with
  | non => cases r; exact ⟨rfl, rfl⟩
  | bl _ => cases r; exact ⟨rfl, rfl⟩
  | int _ => cases r; exact ⟨rfl, rfl⟩
  | str _ => cases r; exact ⟨rfl, rfl⟩
  | _ => cases h
theorem reps_flat {K : PySem.W.Frag} {Z : Addr → Prop} {p : Addr} {H : Hp} : ∀ {l : List D} {vs : List V}, l.all flatD = true → Reps K Z p H l vs → vs = l.map flatOf ∧ vs.all flatV = true
  | [], _, _, r => by rw [show _ = [] from r]; exact ⟨rfl, rfl⟩
  | d :: l, _, h, ⟨v, r, e, a, b⟩ => by
    rw [List.all_cons] at h
    obtain ⟨h1, h2⟩ := Bool.and_eq_true_iff.mp h
    obtain ⟨e1, f1⟩ := rep_flat h1 a
    obtain ⟨e2, f2⟩ := reps_flat h2 b
    subst e
    rw [e1] at f1 ⊢
    rw [e2] at f2 ⊢
    exact ⟨rfl, by rw [List.all_cons, f1, f2]; rfl⟩
def inSeqD (neg : Bool) (x : D) (l : List D) : Option D := if (flatD x && l.all flatD) = true then some (.bl (if neg then !inV (flatOf x) (l.map flatOf) else inV (flatOf x) (l.map flatOf))) else none
def inD : D → D → Option D
  | x, .lst l => inSeqD false x l
  | x, .tup l => inSeqD false x l
  | .str ⟨⟨[c]⟩⟩, .str z => some (.bl (decide (c ∈ z.cps.toList)))
  | _, _ => none
def notInD : D → D → Option D
  | x, .lst l => inSeqD true x l
  | x, .tup l => inSeqD true x l
  | _, _ => none
abbrev rInA (K : PySem.W.Frag) : R2 := fun x y H Q => rIn K false x y H Q ∨ (∃ (c : Nat) (z : Str), x = .str ⟨#[c]⟩ ∧ y = .str z ∧ Q (.bl (decide (c ∈ z.cps.toList))) H)
theorem or_in {X : Cx} : OpR X (compareOp .In) (rInA X.K) := op_in_seq.or op_in_sign
theorem od_inSeq {K : PySem.W.Frag} {neg : Bool} {Z : Addr → Prop} {p : Addr} {H : Hp} {d1 d2 d : D} {l : List D} {x y : V} {Q : VK} (hl : d2 = .lst l ∨ d2 = .tup l) (r1 : Rep K Z p H d1 x) (r2 : Rep K Z p H d2 y) (e : inSeqD neg d1 l = some d) (q : ∀ v H', Xt H H' → Rep K Z p H' d v → Q v H') : rIn K neg x y H Q := by
  unfold inSeqD at e
  split at e
  · rename_i h
    cases e
    obtain ⟨h1, h2⟩ := Bool.and_eq_true_iff.mp h
    obtain ⟨e1, f1⟩ := rep_flat h1 r1
    rcases hl with rfl | rfl
    · obtain ⟨a, vs, rfl, hs, rs⟩ := r2
      obtain ⟨e2, f2⟩ := reps_flat h2 rs
      refine ⟨a, vs, rfl, .inl (sqL_of hs), f1, f2, q _ _ .refl ?_⟩
      rw [e1, e2]; rfl
    · obtain ⟨a, vs, rfl, hs, rs⟩ := r2
      obtain ⟨e2, f2⟩ := reps_flat h2 rs
      refine ⟨a, vs, rfl, .inr (sqT_of hs), f1, f2, q _ _ .refl ?_⟩
      rw [e1, e2]; rfl
  · cases e
theorem od_in {K : PySem.W.Frag} : OpD K (rInA K) inD := by
  intro Z p H d1 d2 d x y Q hz r1 r2 e q
  unfold inD at e
  split at e
  · exact .inl (od_inSeq (.inl rfl) r1 r2 e q)
  · exact .inl (od_inSeq (.inr rfl) r1 r2 e q)
  · cases e; cases r1; cases r2
    exact .inr ⟨_, _, rfl, rfl, q _ _ .refl rfl⟩
  · cases e
theorem od_notIn {K : PySem.W.Frag} : OpD K (rIn K true) notInD := by
  intro Z p H d1 d2 d x y Q hz r1 r2 e q
  unfold notInD at e
  split at e
  · exact od_inSeq (.inl rfl) r1 r2 e q
  · exact od_inSeq (.inr rfl) r1 r2 e q
  · cases e

/-! ### items, slices -/
def ixD : D → D → Option D
  | .lst l, .int i => atI l i
  | .tup l, .int i => atI l i
  | .str s, .int i => if s.length ≤ most then (atI s.cps.toList i).map fun c => .str ⟨#[c]⟩ else none
  | _, _ => none
theorem at_reps {K : PySem.W.Frag} {Z : Addr → Prop} {p : Addr} {H : Hp} {l : List D} {vs : List V} {i : Int} {d : D} (rs : Reps K Z p H l vs) (e : atI l i = some d) : ∃ v, atI vs i = some v ∧ Rep K Z p H d v := by
  unfold atI at e ⊢
  rw [← rs.len]
  cases h : ixN l.length i with
  | none => rw [h] at e; cases e
  | some j =>
    rw [h] at e
    exact rs.get (i := j) e
theorem od_ix {K : PySem.W.Frag} : OpD K (rIx K) ixD := by
  intro Z p H d1 d2 d x y Q hz r1 r2 e q
  unfold ixD at e
  split at e
  · obtain ⟨a, vs, rfl, hs, rs⟩ := r1
    cases r2
    obtain ⟨v, ev, rv⟩ := at_reps rs e
    exact .inl ⟨a, vs, _, v, rfl, rfl, sqL_of hs, ev, q _ _ .refl rv⟩
  · obtain ⟨a, vs, rfl, hs, rs⟩ := r1
    cases r2
    obtain ⟨v, ev, rv⟩ := at_reps rs e
    exact .inr (.inl ⟨a, vs, _, v, rfl, rfl, sqT_of hs, ev, q _ _ .refl rv⟩)
  · cases r1; cases r2
    split at e
    · rename_i z i hl
      cases h : atI z.cps.toList i with
      | none => rw [h] at e; cases e
      | some c => rw [h] at e; cases e; exact .inr (.inr ⟨_, _, c, rfl, rfl, most_le hl, h, q _ _ .refl rfl⟩)
    · cases e
  · cases e
end DL
set_option Elab.async false
set_option linter.all false
set_option maxRecDepth 100000
set_option maxHeartbeats 1000000
set_option autoImplicit false
/-! DL: built-ins on data. -/
namespace DL
open PySem L2

theorem CallR.or {X : Cx} {f : Value} {r r' : List V → Hp → VK → Prop} (h : CallR X f r) (h' : CallR X f r') : CallR X f (fun xs H Q => r xs H Q ∨ r' xs H Q) := by
  intro pins s σ H xs us Q I rs q
  rcases q with q | q
  · exact h pins s σ H xs us Q I rs q
  · exact h' pins s σ H xs us Q I rs q

/-! ### slices -/
def cutD (xs : List D) (lo hi : Option Int) : List D := (xs.drop (HT.sIx xs.length 0 lo)).take (HT.sIx xs.length xs.length hi - HT.sIx xs.length 0 lo)
theorem cut_reps {K : PySem.W.Frag} {Z : Addr → Prop} {p : Addr} {H : Hp} {l : List D} {vs : List V} {lo hi : Option Int} (rs : Reps K Z p H l vs) : Reps K Z p H (cutD l lo hi) (cutV vs lo hi) := by
  unfold cutD cutV
  rw [rs.len]
  exact (rs.drop _).take _
def sliceD : D → Option Int → Option Int → Option D
  | .lst l, lo, hi => some (.lst (cutD l lo hi))
  | .str s, lo, hi => if s.length ≤ most then some (.str (cutS s lo hi)) else none
  | _, _, _ => none
abbrev rSl (K : PySem.W.Frag) : V → Option Int → Option Int → Hp → VK → Prop := fun x lo hi H Q => rSlL K x lo hi H Q ∨ rSlS x lo hi H Q
theorem sl_or {X : Cx} : SlR X (rSl X.K) := sl_list.or sl_str
def OSome (ta : TD) : DSt → Nat → (Option Int → Nat → Prop) → DX → Prop := fun ρ n Q x => ta ρ n (fun d n1 => ∃ i, d = .int i ∧ Q (some i) n1) x
def ONone : DSt → Nat → (Option Int → Nat → Prop) → DX → Prop := fun _ n Q _ => Q none n
abbrev TDO := DSt → Nat → (Option Int → Nat → Prop) → DX → Prop
def EvO (K : PySem.W.Frag) (E : XK) (te : TO) (t : TDO) : Prop :=
  ∀ {p : Addr} {H0 : Hp} {Z0 : Addr → Prop} {ρ : DSt} {n : Nat} {Z : Addr → Prop} {σ : St} {H : Hp} {x : DX} {Q : Option Int → Nat → Prop} {Qv : Option Int → Hp → Prop}, Wd K p H0 Z0 ρ n Z σ H → HE K p H0 Z0 x E → t ρ n Q x →
    (∀ o H' n', Wd K p H0 Z0 ρ n' Z σ H' → Kp p H H' → Q o n' → Qv o H') → te σ H Qv
section
variable {ι : Type} {Xs : ι → Cx} {K : PySem.W.Frag} {E : XK} {pos p2 : Pos} {a b e : Expr} {es : List Expr} {lo hi : Option Expr} {ta tb te : TD} {t : TDA} {tl th : TDO}
def DOp (Xs : ι → Cx) (K : PySem.W.Frag) (E : XK) (e : Option Expr) (t : TDO) : Prop := ∃ te, (∀ i, PO (Xs i) e te) ∧ EvO K E te t
theorem do_none : DOp Xs K E none ONone := ⟨tNoPart, fun _ => po_none, fun w _ h q => q none _ _ w Kp.refl h⟩
theorem do_some (h : DE Xs K E e te) : DOp Xs K E (some e) (OSome te) := by
  obtain ⟨v, p, ev⟩ := h
  refine ⟨tPart v, fun i => po_some (p i), fun w x hh q => ev w x hh fun u H1 d n1 w1 k1 r1 ⟨i, e1, h1⟩ => ?_⟩
  subst e1
  cases r1
  exact ⟨i, rfl, q (some i) H1 n1 w1 k1 h1⟩
def dSlice (te : TD) (tl th : TDO) : TD := fun ρ n Q x => te ρ n (fun d n1 => tl ρ n1 (fun l n2 => th ρ n2 (fun h n3 => ∃ r, sliceD d l h = some r ∧ Q r n3) x) x) x
theorem de_slice (hK : ∀ i, (Xs i).K = K) (he : DE Xs K E e te) (hl : DOp Xs K E lo tl) (hh : DOp Xs K E hi th) : DE Xs K E (.Subscript e (.Slice lo hi none p2) pos) (dSlice te tl th) := by
  obtain ⟨ve, pe, ee⟩ := he
  obtain ⟨vl, pl, el⟩ := hl
  obtain ⟨vh, ph, eh⟩ := hh
  refine ⟨tSl (rSl K) ve vl vh, fun i => ?_, fun w x h q => ee w x h fun u H1 d n1 w1 k1 r1 h1 => el w1 x h1 fun l H2 n2 w2 k2 h2 => eh w2 x h2 fun g H3 n3 w3 k3 ⟨r, er, h3⟩ => ?_⟩
  · have := pe_slice (p2 := p2) (pos := pos) (sl_or (X := Xs i)) (pe i) (pl i) (ph i)
    rw [hK i] at this
    exact this
  · have r3 := r1.mv (w1.mv (k2.trans k3))
    have k := (k1.trans k2).trans k3
    unfold sliceD at er
    split at er
    · cases er
      obtain ⟨c, vs, rfl, hs, rs⟩ := r3
      exact .inl ⟨c, vs, rfl, sqL_of hs, fun m nm => q _ _ _ n3 (w3.xt (Xt.new nm)) (k.trans (Xt.new nm).kp) (rep_lst (w3.notin nm) nm (cut_reps rs)) h3⟩
    · split at er
      · rename_i hz
        cases er
        cases r3
        exact .inr ⟨_, rfl, most_le hz, q _ _ (.str _) n3 w3 k rfl h3⟩
      · cases er
    · cases er
/-- xs[::-1] -/
def dRev (te : TD) : TD := fun ρ n Q x => te ρ n (fun d n1 => ∃ l, d = .lst l ∧ Q (.lst l.reverse) n1) x
theorem de_rev {k : Nat} {p1 p2 p3 pos : Pos} (hK : ∀ i, (Xs i).K = K) (he : DE Xs K E e te) : DE Xs K E (.Subscript e (.Slice none none (some (.UnaryOp .USub (.Constant (.int 1) k p1) p2)) p3) pos) (dRev te) := by
  obtain ⟨ve, pe, ee⟩ := he
  refine ⟨tRevL K ve, fun i => ?_, fun w x h q => ee w x h fun u H1 d n1 w1 k1 r1 ⟨l, e1, h1⟩ => ?_⟩
  · have := pe_revL (k := k) (p1 := p1) (p2 := p2) (p3 := p3) (pos := pos) (pe i)
    rw [hK i] at this
    exact this
  · subst e1
    obtain ⟨c, vs, rfl, hs, rs⟩ := r1
    exact ⟨c, vs, rfl, sqL_of hs, fun m nm => q _ _ _ n1 (w1.xt (Xt.new nm)) (k1.trans (Xt.new nm).kp) (rep_lst (w1.notin nm) nm rs.rev) h1⟩
end

/-! ### built-in functions -/
def lenD : List D → Option D
  | [.lst l] => some (.int l.length)
  | [.tup l] => some (.int l.length)
  | [.str s] => if s.length ≤ most then some (.int s.length) else none
  | _ => none
theorem cd_len {K : PySem.W.Frag} : ClD K (fun xs H Q => ∃ x n, xs = [x] ∧ LenV K x H n ∧ Q (.int n) H) lenD := by
  intro Z p H ds d xs Q hz rs e q
  unfold lenD at e
  split at e
  · cases e
    obtain ⟨v, rfl, a, vs, rfl, hs, r⟩ := reps1 rs
    exact ⟨_, vs.length, rfl, .inl ⟨vs, sqL_of hs, rfl⟩, q _ _ .refl (by rw [r.len]; rfl)⟩
  · cases e
    obtain ⟨v, rfl, a, vs, rfl, hs, r⟩ := reps1 rs
    exact ⟨_, vs.length, rfl, .inr ⟨vs, sqT_of hs, rfl⟩, q _ _ .refl (by rw [r.len]; rfl)⟩
  · split at e
    · rename_i hl
      cases e
      obtain ⟨v, rfl, r⟩ := reps1 rs
      cases r
      exact ⟨_, _, rfl, ⟨most_le hl, rfl⟩, q _ _ .refl rfl⟩
    · cases e
  · cases e
def int1D : List D → Option D
  | [.int i] => some (.int i)
  | [.bl b] => some (.int (if b then 1 else 0))
  | _ => none
theorem cd_int {K : PySem.W.Frag} : ClD K (fun xs H Q => (∃ i, xs = [.int i] ∧ Q (.int i) H) ∨ ∃ k, xs = [.bl k] ∧ Q (.int (if k then 1 else 0)) H) int1D := by
  intro Z p H ds d xs Q hz rs e q
  unfold int1D at e
  split at e
  · cases e
    obtain ⟨v, rfl, r⟩ := reps1 rs
    cases r
    exact .inl ⟨_, rfl, q _ _ .refl rfl⟩
  · cases e
    obtain ⟨v, rfl, r⟩ := reps1 rs
    cases r
    exact .inr ⟨_, rfl, q _ _ .refl rfl⟩
  · cases e
def max2D : List D → Option D
  | [.int i, .int j] => some (.int (if j > i then j else i))
  | _ => none
def min2D : List D → Option D
  | [.int i, .int j] => some (.int (if j < i then j else i))
  | _ => none
theorem cd_max2 {K : PySem.W.Frag} : ClD K (fun xs H Q => ∃ i j, xs = [.int i, .int j] ∧ Q (.int (if j > i then j else i)) H) max2D := by
  intro Z p H ds d xs Q hz rs e q
  unfold max2D at e
  split at e
  · cases e
    obtain ⟨v, u, rfl, r, r'⟩ := reps2 rs
    cases r; cases r'
    exact ⟨_, _, rfl, q _ _ .refl rfl⟩
  · cases e
theorem cd_min2 {K : PySem.W.Frag} : ClD K (fun xs H Q => ∃ i j, xs = [.int i, .int j] ∧ Q (.int (if j < i then j else i)) H) min2D := by
  intro Z p H ds d xs Q hz rs e q
  unfold min2D at e
  split at e
  · cases e
    obtain ⟨v, u, rfl, r, r'⟩ := reps2 rs
    cases r; cases r'
    exact ⟨_, _, rfl, q _ _ .refl rfl⟩
  · cases e
def boolsOf : List D → Option (List Bool)
  | [] => some []
  | .bl b :: l => (boolsOf l).map (b :: ·)
  | _ => none
theorem bools_reps {K : PySem.W.Frag} {Z : Addr → Prop} {p : Addr} {H : Hp} : ∀ {l : List D} {bs : List Bool} {vs : List V}, boolsOf l = some bs → Reps K Z p H l vs → vs = bs.map V.bl
  | [], _, _, e, r => by cases e; exact r
  | d :: l, bs, _, e, ⟨v, r, ev, a, b⟩ => by
    cases d with
    | bl c =>
      have e : (boolsOf l).map (c :: ·) = some bs := e
      cases h : boolsOf l with
      | none => rw [h] at e; cases e
      | some cs =>
        rw [h] at e
        cases e
        cases a
        rw [ev, bools_reps h b]
        rfl
    | _ => cases e
def allD : List D → Option D
  | [.lst l] => (boolsOf l).map fun bs => .bl (bs.all id)
  | _ => none
def anyD : List D → Option D
  | [.lst l] => (boolsOf l).map fun bs => .bl (bs.any id)
  | _ => none
theorem cd_all {K : PySem.W.Frag} : ClD K (rAll K) allD := by
  intro Z p H ds d xs Q hz rs e q
  unfold allD at e
  split at e
  · rename_i l
    cases h : boolsOf l with
    | none => rw [h] at e; cases e
    | some bs =>
      rw [h] at e
      cases e
      obtain ⟨v, rfl, a, vs, rfl, hs, r⟩ := reps1 rs
      have := bools_reps h r
      subst this
      exact ⟨a, bs, rfl, sqL_of hs, q _ _ .refl rfl⟩
  · cases e
theorem cd_any {K : PySem.W.Frag} : ClD K (rAny K) anyD := by
  intro Z p H ds d xs Q hz rs e q
  unfold anyD at e
  split at e
  · rename_i l
    cases h : boolsOf l with
    | none => rw [h] at e; cases e
    | some bs =>
      rw [h] at e
      cases e
      obtain ⟨v, rfl, a, vs, rfl, hs, r⟩ := reps1 rs
      have := bools_reps h r
      subst this
      exact ⟨a, bs, rfl, sqL_of hs, q _ _ .refl rfl⟩
  · cases e
def tupleD : List D → Option D
  | [.lst l] => some (.tup l)
  | [.tup l] => some (.tup l)
  | _ => none
theorem cd_tuple {K : PySem.W.Frag} : ClD K (fun xs H Q => ∃ p ys, xs = [.ref p] ∧ ((SqL K H p ys ∧ ∀ l, H l = none → Q (.ref l) (upd H l (.tup ys))) ∨ (SqT K H p ys ∧ Q (.ref p) H))) tupleD := by
  intro Z p H ds d xs Q hz rs e q
  unfold tupleD at e
  split at e
  · cases e
    obtain ⟨v, rfl, a, vs, rfl, hs, r⟩ := reps1 rs
    exact ⟨a, vs, rfl, .inl ⟨sqL_of hs, fun l nl => q _ _ (Xt.new nl) (rep_tup (hz l nl) nl r)⟩⟩
  · cases e
    obtain ⟨v, rfl, r⟩ := reps1 rs
    obtain ⟨a, vs, rfl, hs, rr⟩ := id r
    exact ⟨a, vs, rfl, .inr ⟨sqT_of hs, q _ _ .refl r⟩⟩
  · cases e
def listD : List D → Option D
  | [.lst l] => some (.lst l)
  | [.tup l] => some (.lst l)
  | _ => none
theorem cd_list {K : PySem.W.Frag} : ClD K (fun xs H Q => ∃ p ys, xs = [.ref p] ∧ (SqL K H p ys ∨ SqT K H p ys) ∧ ∀ l, H l = none → Q (.ref l) (upd H l (.lst ys))) listD := by
  intro Z p H ds d xs Q hz rs e q
  unfold listD at e
  split at e
  · cases e
    obtain ⟨v, rfl, a, vs, rfl, hs, r⟩ := reps1 rs
    exact ⟨a, vs, rfl, .inl (sqL_of hs), fun l nl => q _ _ (Xt.new nl) (rep_lst (hz l nl) nl r)⟩
  · cases e
    obtain ⟨v, rfl, a, vs, rfl, hs, r⟩ := reps1 rs
    exact ⟨a, vs, rfl, .inr (sqT_of hs), fun l nl => q _ _ (Xt.new nl) (rep_lst (hz l nl) nl r)⟩
  · cases e

/-! ### isinstance -/
inductive TyY (K : PySem.W.Frag) (H : Hp) : V → Value → Prop where
  | x {v : V} {t : Value} (h : TyX K H v t) : TyY K H v t
  | odd {a : Addr} {o : Obj} (e : H a = some (.frz o (OddD.OddU a))) (c : o.cls = .type "dict") : TyY K H (.ref a) (.type "dict")
def rIsiY (K : PySem.W.Frag) : List V → Hp → VK → Prop := fun xs H Q => ∃ (x c : V) (t u : Value) (b : Bool), xs = [x, c] ∧ ClsV c u ∧ TyY K H x t ∧ PySem.W.kitOne K t u = some b ∧ Q (.bl b) H
def rIsiZ (K : PySem.W.Frag) : List V → Hp → VK → Prop := fun xs H Q => ∃ (x : V) (a : Addr) (cs : List V) (t : Value) (us : List Value) (b : Bool), xs = [x, .ref a] ∧ SqT K H a cs ∧ Paired ClsV cs us ∧ TyY K H x t ∧ PySem.W.kitAny K t us = some b ∧ Q (.bl b) H
section
variable {X : Cx}
theorem kit_y {pins : List (Addr × Obj)} {σ : L2.St} {H : Hp} {s : Shared} {x : V} {u t : Value} (I : Inv X pins σ H s) (rx : RelV x u) (ty : TyY X.K H x t) : ∃ P : Heap → Prop, PySem.W.KitX X.K u t P ∧ P s.heap ∧ u ≠ .builtin "__main__.__loader__#opaque" := by
  cases ty with
  | x h => exact kit_of I rx h
  | @odd a o e c =>
    cases (show u = Value.ref a from rx)
    exact ⟨_, PySem.W.kitx_dict, ⟨o, (I.hok a _ e).1, c⟩, fun z => nomatch z⟩
theorem call_isiY : CallR X (.builtin "isinstance") (rIsiY X.K) := by
  intro pins s σ H xs us Q I r h
  obtain ⟨x, c, t, u, b, rfl, k, ty, e, q⟩ := h
  obtain ⟨u1, u2, rfl, r1, r2⟩ := vals2 r
  have e2 := k.eq r2
  subst e2
  obtain ⟨P, Z, p, hx⟩ := kit_y I r1 ty
  exact PySem.W.kia_one Z I.kIn p e hx fun tk => ⟨.bl b, H, I.tok tk, rfl, q⟩
theorem call_isiZ : CallR X (.builtin "isinstance") (rIsiZ X.K) := by
  intro pins s σ H xs us Q I r h
  obtain ⟨x, a, cs, t, ws, b, rfl, hT, k, ty, e, q⟩ := h
  obtain ⟨u1, u2, rfl, r1, r2⟩ := vals2 r
  cases (show u2 = Value.ref a from r2)
  obtain ⟨P, Z, p, hx⟩ := kit_y I r1 ty
  obtain ⟨its, rv, ⟨o, h1, h2, n, h3⟩, _⟩ := I.tuple hT
  have e3 := ClsV.all k rv
  subst e3
  obtain ⟨oc, od, dt, sl⟩ := o
  simp only at h2 h3
  subst h2 h3
  exact PySem.W.kia_tup Z I.kIn p h1 e hx fun tk => ⟨.bl b, H, I.tok tk, rfl, q⟩
end
/-- the facts of one own class -/
structure Isi (K : PySem.W.Frag) (C : Addr) : Prop where
  cl : Cls K C
  ha : PySem.W.findIn K (.ref C) "__class__" = some (some (.builtin "object.__class__"))
  hn : PySem.W.specialIn K (.builtin "object.__class__") "__get__" = some (some (.builtin "getset_descriptor.__get__"))
  htk : PySem.W.takesIn K (.builtin "object.__class__") = some true
  hm : PySem.W.mroIn K C (.type "object") = some true
  own : PySem.W.kitOne K (.ref C) (.ref C) = some true
  no : ∀ n, n = "int" ∨ n = "bool" ∨ n = "str" ∨ n = "tuple" ∨ n = "list" ∨ n = "dict" → PySem.W.kitOne K (.ref C) (.type n) = some false
  not : ∀ n, n = "NoneType" ∨ n = "int" ∨ n = "bool" ∨ n = "str" ∨ n = "tuple" ∨ n = "list" ∨ n = "dict" → PySem.W.kitOne K (.type n) (.ref C) = some false
inductive Tn where | non | bool | int | str | tup | lst | dct | own (C : Addr)
  deriving DecidableEq
def tnOf : D → Option Tn
  | .non => some .non
  | .bl _ => some .bool
  | .int _ => some .int
  | .str _ => some .str
  | .tup _ => some .tup
  | .lst _ => some .lst
  | .dct _ => some .dct
  | .odd _ _ _ => some .dct
  | .ins C _ => some (.own C)
  | _ => none
def tnV : Tn → Value
  | .non => .type "NoneType"
  | .bool => .type "bool"
  | .int => .type "int"
  | .str => .type "str"
  | .tup => .type "tuple"
  | .lst => .type "list"
  | .dct => .type "dict"
  | .own C => .ref C
def clOf : D → Option Tn
  | .ty n => if n = "int" then some .int else if n = "bool" then some .bool else if n = "str" then some .str else if n = "tuple" then some .tup else if n = "list" then some .lst else if n = "dict" then some .dct else none
  | .con C => some (.own C)
  | _ => none
def isiT : Tn → Tn → Bool
  | .bool, .int => true
  | a, b => decide (a = b)
def okT (C : Addr) : Tn → Bool
  | .own E => decide (E = C)
  | _ => true
def isiD (C : Addr) : List D → Option D
  | [x, c] => match tnOf x, clOf c with
    | some a, some b => if (okT C a && okT C b) = true then some (.bl (isiT a b)) else none
    | _, _ => none
  | _ => none
theorem ty_of {K : PySem.W.Frag} {Z : Addr → Prop} {p : Addr} {H : Hp} {C : Addr} (I : Isi K C) {d : D} {v : V} {a : Tn} (r : Rep K Z p H d v) (e : tnOf d = some a) (o : okT C a = true) : TyY K H v (tnV a) := by
  cases d with
  | non => cases e; cases r; exact .x <| .base .non
  | bl b => cases e; cases r; exact .x <| .base (.bl b)
  | int b => cases e; cases r; exact .x <| .base (.int b)
  | str b => cases e; cases r; exact .x <| .base (.str b)
  | tup l =>
    cases e
    obtain ⟨t, vs, rfl, hs, _⟩ := r
    rcases hs with ⟨_, hs | ⟨u, hs⟩⟩ | ⟨u, its, n, h1, h2, _⟩
    · exact .x <| .base (.tup hs)
    · exact .x <| .fTuple hs
    · exact .x <| .kTuple h1 h2
  | lst l =>
    cases e
    obtain ⟨t, vs, rfl, ⟨_, hs⟩, _⟩ := r
    exact .x <| .base (.lst hs)
  | dct l =>
    cases e
    obtain ⟨t, vs, rfl, ⟨_, hs⟩, _⟩ := r
    exact .x <| .base (.dK hs)
  | odd w ks vs =>
    cases e
    obtain ⟨t, o, _, _, _, rfl, ⟨_, hs⟩, oo, _⟩ := r
    exact .odd hs oo.ex.1
  | ins E l =>
    cases e
    have e : E = C := of_decide_eq_true o
    subst e
    obtain ⟨t, dx, fs, rfl, ⟨_, hs⟩, _⟩ := r
    exact .x <| .base (.ins hs I.cl I.ha I.hn I.htk I.hm)
  | _ => cases e
theorem kit_tn {K : PySem.W.Frag} {C : Addr} (I : Isi K C) {a b : Tn} (oa : okT C a = true) (ob : okT C b = true) (hb : b ≠ .non) : PySem.W.kitOne K (tnV a) (tnV b) = some (isiT a b) := by
  cases b with
  | non => exact absurd rfl hb
  | own E =>
    have e : E = C := of_decide_eq_true ob
    subst e
    cases a with
    | own E' =>
      have e : E' = E := of_decide_eq_true oa
      subst e
      rw [show isiT (.own E') (.own E') = true by simp [isiT]]
      exact I.own
    | non => exact I.not _ (by simp)
    | bool => exact I.not _ (by simp)
    | int => exact I.not _ (by simp)
    | str => exact I.not _ (by simp)
    | tup => exact I.not _ (by simp)
    | lst => exact I.not _ (by simp)
    | dct => exact I.not _ (by simp)
  | bool =>
    cases a with
    | own E' =>
      have e : E' = C := of_decide_eq_true oa
      subst e
      exact I.no _ (by simp)
    | _ => exact kit_ty (by decide +kernel)
  | int =>
    cases a with
    | own E' =>
      have e : E' = C := of_decide_eq_true oa
      subst e
      exact I.no _ (by simp)
    | _ => exact kit_ty (by decide +kernel)
  | str =>
    cases a with
    | own E' =>
      have e : E' = C := of_decide_eq_true oa
      subst e
      exact I.no _ (by simp)
    | _ => exact kit_ty (by decide +kernel)
  | tup =>
    cases a with
    | own E' =>
      have e : E' = C := of_decide_eq_true oa
      subst e
      exact I.no _ (by simp)
    | _ => exact kit_ty (by decide +kernel)
  | lst =>
    cases a with
    | own E' =>
      have e : E' = C := of_decide_eq_true oa
      subst e
      exact I.no _ (by simp)
    | _ => exact kit_ty (by decide +kernel)
  | dct =>
    cases a with
    | own E' =>
      have e : E' = C := of_decide_eq_true oa
      subst e
      exact I.no _ (by simp)
    | _ => exact kit_ty (by decide +kernel)
theorem cls_of {K : PySem.W.Frag} {Z : Addr → Prop} {p : Addr} {H : Hp} {c : D} {v : V} {b : Tn} (r : Rep K Z p H c v) (e : clOf c = some b) : ClsV v (tnV b) ∧ b ≠ .non := by
  cases c with
  | ty n =>
    cases r
    unfold clOf at e
    simp only at e
    repeat' split at e
    all_goals first | (rename_i h; subst h; cases e; exact ⟨.ty _, fun z => nomatch z⟩) | cases e
  | con a => cases r; cases e; exact ⟨.own a, fun z => nomatch z⟩
  | _ => cases e
theorem cd_isi {K : PySem.W.Frag} {C : Addr} (I : Isi K C) : ClD K (rIsiY K) (isiD C) := by
  intro Z p H ds d xs Q hz rs e q
  unfold isiD at e
  split at e
  · split at e
    · rename_i x c a b ea eb
      split at e
      · rename_i ho
        cases e
        obtain ⟨oa, ob⟩ := Bool.and_eq_true_iff.mp ho
        obtain ⟨v, u, rfl, r1, r2⟩ := reps2 rs
        obtain ⟨k, nb⟩ := cls_of r2 eb
        exact ⟨v, u, _, _, _, rfl, k, ty_of I r1 ea oa, kit_tn I oa ob nb, q _ _ .refl rfl⟩
      · cases e
    · cases e
  · cases e
/-- isinstance(x, (c, ..)) -/
def clsOf : List D → Option (List Tn)
  | [] => some []
  | d :: l => (clOf d).bind fun k => (clsOf l).map (k :: ·)
def isiZ (C : Addr) : List D → Option D
  | [x, .tup cs] => match tnOf x, clsOf cs with
    | some a, some bs => if (okT C a && bs.all (okT C)) = true then some (.bl (bs.any (isiT a))) else none
    | _, _ => none
  | _ => none
theorem clss_of {K : PySem.W.Frag} {Z : Addr → Prop} {p : Addr} {H : Hp} : ∀ {cs : List D} {vs : List V} {bs : List Tn}, Reps K Z p H cs vs → clsOf cs = some bs → Paired ClsV vs (bs.map tnV) ∧ ∀ b ∈ bs, b ≠ .non
  | [], _, _, r, e => by cases e; rw [show _ = [] from r]; exact ⟨.nil, fun b h => (nomatch h)⟩
  | d :: l, _, bs, ⟨v, r, e0, a, b⟩, e => by
    have e : (clOf d).bind (fun k => (clsOf l).map (k :: ·)) = some bs := e
    cases h1 : clOf d with
    | none => rw [h1] at e; cases e
    | some k =>
      rw [h1] at e
      cases h2 : clsOf l with
      | none => rw [h2] at e; cases e
      | some ks =>
        rw [h2] at e
        cases e
        obtain ⟨i1, i2⟩ := clss_of b h2
        obtain ⟨j1, j2⟩ := cls_of a h1
        refine ⟨by rw [e0]; exact .cons j1 i1, fun z hz => ?_⟩
        rcases List.mem_cons.mp hz with rfl | hz
        · exact j2
        · exact i2 z hz
theorem kits_tn {K : PySem.W.Frag} {C : Addr} (I : Isi K C) {a : Tn} (oa : okT C a = true) : ∀ {bs : List Tn}, bs.all (okT C) = true → (∀ b ∈ bs, b ≠ .non) → PySem.W.kitAny K (tnV a) (bs.map tnV) = some (bs.any (isiT a))
  | [], _, _ => kitAny_nil
  | b :: bs, h, n => by
    rw [List.all_cons, Bool.and_eq_true] at h
    refine kitAny_cons (kit_tn I oa h.1 (n b List.mem_cons_self)) (fun e => ?_) fun e => ?_
    · rw [kits_tn I oa h.2 fun z hz => n z (List.mem_cons_of_mem _ hz), List.any_cons, e, Bool.false_or]
    · rw [List.any_cons, e, Bool.true_or]
theorem cd_isiZ {K : PySem.W.Frag} {C : Addr} (I : Isi K C) : ClD K (rIsiZ K) (isiZ C) := by
  intro Z p H ds d xs Q hz rs e q
  unfold isiZ at e
  split at e
  · split at e
    · rename_i x cs a bs ea eb
      split at e
      · rename_i ho
        cases e
        obtain ⟨oa, ob⟩ := Bool.and_eq_true_iff.mp ho
        obtain ⟨v, u, rfl, r1, ⟨t, us, rfl, hs, r2⟩⟩ := reps2 rs
        obtain ⟨k, nb⟩ := clss_of r2 eb
        exact ⟨v, t, us, _, _, _, rfl, sqT_of hs, k, ty_of I r1 ea oa, kits_tn I oa ob nb, q _ _ .refl rfl⟩
      · cases e
    · cases e
  · cases e
end DL
set_option Elab.async false
set_option linter.all false
set_option maxRecDepth 100000
set_option maxHeartbeats 1000000
set_option autoImplicit false
/-! DL: defs by name, own classes, sets, dicts. -/
namespace DL
open PySem L2

theorem reps_two {K : PySem.W.Frag} {Z : Addr → Prop} {p : Addr} {H : Hp} {d e : D} {v u : V} (a : Rep K Z p H d v) (b : Rep K Z p H e u) : Reps K Z p H [d, e] [v, u] := ⟨v, [u], rfl, a, u, [], rfl, b, rfl⟩
/-! ### a def by its name -/
/-- the def behind the module's name x keeps the promise F -/
def Fn1 (P : Program) (w : World) (K : PySem.W.Frag) (mg : Str → Option Value) (base : Heap) (K' : PySem.W.Frag) (x : Str) (k : Nat) (F : DF) : Prop :=
  ∃ f fd ps, FnOk P w K mg base CX0 k f fd ps (spD K' F) ∧ mg x = some (.ref f) ∧ PySem.W.keepIn K (.ref f) = true ∧ Binds K fd ps []
section
variable {ι : Type} {Xs : ι → Cx} {K : PySem.W.Frag} {pos q : Pos} {a b e : Expr} {es : List Expr} {ta tb te : TD} {t : TDA} {x : Str} {k : Nat} {F : DF}
theorem dcall (h : ∀ i, Fn1 (Xs i).prog (Xs i).w (Xs i).K (Xs i).mg (Xs i).base K x k F) (hr : ∀ i, Room k (Xs i).A) (ha : DA Xs K E0 (e :: es) t) (hg : ∀ i, Gl (Xs i) x := by intro _; rfl) (hdb : (x == ("__debug__" : Str)) = false := by decide)
    (he : ∀ i, starEach (e :: es) (Xs i).env = (false, eval e (Xs i).env) :: starEach es (Xs i).env := by intro _; rfl) (hpl : ∀ i, (backTo pos (starEach es (Xs i).env)).any (·.1) = false := by intro _; rfl) :
    DE Xs K E0 (.Call (.Name x q) (e :: es) [] pos) (dCall F [] t) := by
  obtain ⟨va, pa, ea⟩ := ha
  refine ⟨_, fun i => ?_, ev_call (dd := []) (dvs := []) (fun _ _ _ => rfl) ea⟩
  obtain ⟨f, fd, ps, G, hm, hk, hb⟩ := h i
  exact pe_call G (hr i) (hg i) hm hk hb .nil pass0 (pa i) hdb (he i) (hpl i)

/-! ### module constants -/
theorem dglob {v : V} {u : Value} {d : D} (hm : ∀ i, (Xs i).mg x = some u) (r : RelV v u) (rd : ∀ Z p H, Rep K Z p H d v) (hg : ∀ i, Gl (Xs i) x := by intro _; rfl) (hd : (x == ("__debug__" : Str)) = false := by decide) {E : XK} : DE Xs K E (.Name x pos) (dC d) :=
  de_c (fun i => pe_glob (hg i) (hm i) r hd) rd
theorem dty {T : String} (hm : ∀ i, (Xs i).mg x = none) (hv : bootBuiltins x = some (.type T)) (hg : ∀ i, Gl (Xs i) x := by intro _; rfl) (hn : x ≠ "__name__" := by decide) (hd : (x == ("__debug__" : Str)) = false := by decide) {E : XK} : DE Xs K E (.Name x pos) (dC (.ty T)) :=
  de_c (v := .ty T) (fun i => pe_bltn (hg i) (hm i) hv rfl hn hd) fun _ _ _ => rfl

/-! ### instances of one own class, not changed once they are made -/
/-- what a maker promises: F of the arguments, its answer the instance's fields -/
def spMk (K : PySem.W.Frag) (C : Addr) (F : DF) : Sp := fun vs H Q E => ∃ (y dx : Addr) (us : List V) (ds : List D) (Z : Addr → Prop) (p : Addr) (n : Nat) (x : DX) (Qd : DQ), vs = .ref y :: us ∧ H y = some (.ins C dx []) ∧ ¬ Z y ∧ PotAt H p n ∧ Z p ∧ (∀ a, Z a → H a ≠ none) ∧ Reps K (zAdd Z y) p H ds us ∧ F ds n Qd x ∧
  (∀ l n' H' fs, PotAt H' p n' → (∀ a o, a ≠ p → a ≠ y → H a = some o → H' a = some o) → H' y = some (.ins C dx fs) → RepF K (zAdd Z y) p H' l fs → Qd (.ins C l) n' → Q .non H') ∧ x = x0
def dMake (F : DF) (t : TDA) : TD := fun ρ n Q _ => t ρ n (fun ds n1 => F ds n1 Q x0) x0
theorem de_make {C f : Addr} {fd : FuncData} {ps : List Str} (M : ∀ i, Mk (Xs i).K C f) (G : ∀ i, FnOk (Xs i).prog (Xs i).w (Xs i).K (Xs i).mg (Xs i).base CX0 k f fd ps (spMk K C F)) (hr : ∀ i, Room (k + 1) (Xs i).A) (hm : ∀ i, (Xs i).mg x = some (.ref C)) (hb : ∀ i, Binds (Xs i).K fd ps [])
    (ha : DA Xs K E0 (e :: es) t) (hg : ∀ i, Gl (Xs i) x := by intro _; rfl) (hdb : (x == ("__debug__" : Str)) = false := by decide)
    (he : ∀ i, starEach (e :: es) (Xs i).env = (false, eval e (Xs i).env) :: starEach es (Xs i).env := by intro _; rfl) (hpl : ∀ i, (backTo pos (starEach es (Xs i).env)).any (·.1) = false := by intro _; rfl) :
    DE Xs K E0 (.Call (.Name x q) (e :: es) [] pos) (dMake F t) := by
  obtain ⟨va, pa, ea⟩ := ha
  refine ⟨tMake C (spMk K C F) [] E0 va, fun i => pe_make (M i) (G i) (hr i) (hg i) (hm i) (hb i) .nil pass0 (pa i) hdb (he i) (hpl i), ?_⟩
  intro p H0 Z0 ρ n Z σ H xd Q Qv w hx hh q2
  refine ea w HE.zero hh fun vs H1 ds n1 w1 k1 r1 h1 y dx ny ndx hne => ?_
  rw [List.append_nil]
  have nyp : y ≠ p := fun z => w1.pot.ne (z ▸ ny)
  have ndp : dx ≠ p := fun z => w1.pot.ne (z ▸ ndx)
  have hX : Xt H1 (upd (upd H1 dx (.own y)) y (.ins C dx [])) := (Xt.new ndx).trans (Xt.new (by rw [upd_ne (Ne.symm hne)]; exact ny))
  have m : Mv Z H1 (zAdd Z y) (upd (upd H1 dx (.own y)) y (.ins C dx [])) := fun a o z h => ⟨fun g => g.elim z fun ea => (by rw [ea, ny] at h; exact nomatch h), hX a o h⟩
  refine ⟨y, dx, vs, ds, Z, p, n1, x0, Q, rfl, upd_same, w1.notin ny, hX.pot w1.pot, w1.zpp, fun a z e => ?_, r1.mv m, h1, fun l n' H' fs hp' k' hy' rf hq => ?_, rfl⟩
  · cases ha : H1 a with
    | none => exact w1.dom a z ha
    | some o => rw [hX a o ha] at e; cases e
  · have kk : Kp p H1 H' := fun a o na h => k' a o na (ne_of_none h ny) (hX a o h)
    have mE : Mv (zAdd Z y) H' Z H' := fun a o z h => ⟨fun g => z (.inl g), h⟩
    exact ⟨rfl, q2 _ H' (.ins C l) n' (w1.kp kk hp') (k1.trans kk) ⟨y, dx, fs, rfl, ⟨w1.notin ny, hy'⟩, rf.mv mE⟩ hq⟩

/-- a method of two instances (an operator), its promise over data -/
theorem od_own {C : Addr} {va vb : TE} (ha : EvD K E0 va ta) (hb : EvD K E0 vb tb) : EvD K E0 (tOp (DOwn.rOwn C (spD K F) E0) va vb)
    (fun ρ n Q x => ta ρ n (fun d1 n1 => tb ρ n1 (fun d2 n2 => (∃ l, d1 = .ins C l) ∧ (∃ l, d2 = .ins C l) ∧ F [d1, d2] n2 Q x) x) x) := fun w hx h q2 =>
  ha w hx h fun v1 H1 d1 n1 w1 k1 r1 h1 => hb w1 hx h1 fun v2 H2 d2 n2 w2 k2 r2 ⟨⟨l1, e1⟩, ⟨l2, e2⟩, h2⟩ => by
    have r1' := r1.mv (w1.mv k2)
    refine ⟨?_, ?_, sp_of w2 hx (reps_two r1' r2) h2 fun v H' d n' w' k' r' h' => q2 v H' d n' w' ((k1.trans k2).trans k') r' h'⟩
    · subst e1
      obtain ⟨a, dx, fs, e, ⟨_, hh⟩, _⟩ := r1'
      exact ⟨a, dx, fs, e, hh⟩
    · subst e2
      obtain ⟨a, dx, fs, e, ⟨_, hh⟩, _⟩ := r2
      exact ⟨a, dx, fs, e, hh⟩
/-- an own method's facts -/
structure OwnM (P : Program) (w : World) (K : PySem.W.Frag) (mg : Str → Option Value) (base : Heap) (K' : PySem.W.Frag) (C : Addr) (m : Str) (k : Nat) (F : DF) (f : Addr) (fd : FuncData) (ps : List Str) : Prop where
  ok : FnOk P w K mg base CX0 k f fd ps (spD K' F)
  bd : Binds K fd ps []
  at_ : PySem.W.findIn K (.ref C) m = some (some (.ref f))
  fn : PySem.W.isFn K (.ref f) = true
  fn2 : PySem.W.fnIn K f = true
  sf : PySem.W.selfFirst K C = true
def dOwn2 (C : Addr) (F : DF) (ta tb : TD) : TD := fun ρ n Q x => ta ρ n (fun d1 n1 => tb ρ n1 (fun d2 n2 => (∃ l, d1 = .ins C l) ∧ (∃ l, d2 = .ins C l) ∧ F [d1, d2] n2 Q x) x) x
variable {C f : Addr} {fd : FuncData} {ps : List Str}
theorem de_opOwn {op : Operator} (M : ∀ i, OwnM (Xs i).prog (Xs i).w (Xs i).K (Xs i).mg (Xs i).base K C (PySem.dunder op.info.2) k F f fd ps) (hr : ∀ i, Room k (Xs i).A) (ha : DE Xs K E0 a ta) (hb : DE Xs K E0 b tb) : DE Xs K E0 (.BinOp a op b pos) (dOwn2 C F ta tb) := by
  obtain ⟨va, pa, ea⟩ := ha
  obtain ⟨vb, pb, eb⟩ := hb
  exact ⟨_, fun i => pe_op (DOwn.op_own (M i).ok (hr i) (M i).bd pass0 (M i).sf (M i).at_ (M i).fn) (pa i) (pb i), od_own ea eb⟩
theorem de_cmpOwn {op : CmpOp} (hop : ∀ a b, compareOp op a b = richCompare op a b) (M : ∀ i, OwnM (Xs i).prog (Xs i).w (Xs i).K (Xs i).mg (Xs i).base K C (cmpInfo op).2.1 k F f fd ps) (hr : ∀ i, Room k (Xs i).A) (ha : DE Xs K E0 a ta) (hb : DE Xs K E0 b tb) (hm : behindInMarks op b = false) : DE Xs K E0 (.Compare a [op] [b] pos) (dOwn2 C F ta tb) := by
  obtain ⟨va, pa, ea⟩ := ha
  obtain ⟨vb, pb, eb⟩ := hb
  exact ⟨_, fun i => pe_cmpR (DOwn.cmp_own hop (M i).ok (hr i) (M i).bd pass0 (M i).at_ (M i).fn) (pa i) (pb i) hm, od_own ea eb⟩
theorem dt_cmpOwn {op : CmpOp} (hop : ∀ a b, compareOp op a b = richCompare op a b) (M : ∀ i, OwnM (Xs i).prog (Xs i).w (Xs i).K (Xs i).mg (Xs i).base K C (cmpInfo op).2.1 k F f fd ps) (hr : ∀ i, Room k (Xs i).A) (ha : DE Xs K E0 a ta) (hb : DE Xs K E0 b tb) (hm : behindInMarks op b = false) : DT Xs K E0 (.Compare a [op] [b] pos) (dTest (dOwn2 C F ta tb)) := by
  obtain ⟨va, pa, ea⟩ := ha
  obtain ⟨vb, pb, eb⟩ := hb
  exact ⟨_, fun i => pt_cmpR (DOwn.cmp_own hop (M i).ok (hr i) (M i).bd pass0 (M i).at_ (M i).fn) (pa i) (pb i) hm, ev_test (od_own ea eb)⟩
/-- != -/
def dOwnNe (C : Addr) (F : DF) (ta tb : TD) : TD := fun ρ n Q x => ta ρ n (fun d1 n1 => tb ρ n1 (fun d2 n2 => (∃ l, d1 = .ins C l) ∧ (∃ l, d2 = .ins C l) ∧ F [d1, d2] n2 (fun d n3 => ∃ c, d = .bl c ∧ Q (.bl (!c)) n3) x) x) x
theorem de_neOwn {bm : List Value} (FB : CmpFacts "object" bm) (hO : ∀ i, ∀ (h : Heap) (a dx : Addr), (Xs i).K.In h → h.get? a = some (PySem.W.instObj C dx) → h.OwnEqNoNe a C f "object" bm) (M : ∀ i, OwnM (Xs i).prog (Xs i).w (Xs i).K (Xs i).mg (Xs i).base K C "__eq__" k F f fd ps) (hr : ∀ i, Room (k + 1) (Xs i).A) (ha : DE Xs K E0 a ta) (hb : DE Xs K E0 b tb) (hm : behindInMarks .NotEq b = false) :
    DE Xs K E0 (.Compare a [.NotEq] [b] pos) (dOwnNe C F ta tb) := by
  obtain ⟨va, pa, ea⟩ := ha
  obtain ⟨vb, pb, eb⟩ := hb
  refine ⟨_, fun i => pe_cmpR (DOwn.ne_own FB (hO i) (M i).ok (hr i) (M i).bd pass0) (pa i) (pb i) hm, fun w hx h q2 => ea w hx h fun v1 H1 d1 n1 w1 k1 r1 h1 => eb w1 hx h1 fun v2 H2 d2 n2 w2 k2 r2 ⟨⟨l1, e1⟩, ⟨l2, e2⟩, h2⟩ => ?_⟩
  have r1' := r1.mv (w1.mv k2)
  refine ⟨?_, ?_, sp_of w2 hx (reps_two r1' r2) h2 fun v H' d n' w' k' r' ⟨c, ec, h'⟩ => ?_⟩
  · subst e1
    obtain ⟨a, dx, fs, e, ⟨_, hh⟩, _⟩ := r1'
    exact ⟨a, dx, fs, e, hh⟩
  · subst e2
    obtain ⟨a, dx, fs, e, ⟨_, hh⟩, _⟩ := r2
    exact ⟨a, dx, fs, e, hh⟩
  · subst ec
    exact ⟨c, r', q2 _ H' (.bl (!c)) n' w' ((k1.trans k2).trans k') rfl h'⟩
/-- o[i] -/
def dOwnIx (C : Addr) (F : DF) (ta tb : TD) : TD := fun ρ n Q x => ta ρ n (fun d1 n1 => tb ρ n1 (fun d2 n2 => (∃ l, d1 = .ins C l) ∧ F [d1, d2] n2 Q x) x) x
theorem de_ixOwn (M : ∀ i, OwnM (Xs i).prog (Xs i).w (Xs i).K (Xs i).mg (Xs i).base K C "__getitem__" k F f fd ps) (hr : ∀ i, Room (k + 1) (Xs i).A) (ha : DE Xs K E0 a ta) (hb : DE Xs K E0 b tb)
    (hsl : ∀ o i, subscripted b true o i = runValue (.builtin "lifetime.subscript" ⟨[o, i], []⟩)) : DE Xs K E0 (.Subscript a b pos) (dOwnIx C F ta tb) := by
  obtain ⟨va, pa, ea⟩ := ha
  obtain ⟨vb, pb, eb⟩ := hb
  refine ⟨_, fun i => DOwn.pe_ixOwn (M i).ok (hr i) (M i).bd pass0 (M i).at_ (M i).fn2 (M i).fn (pa i) (pb i) hsl, fun w hx h q2 => ea w hx h fun v1 H1 d1 n1 w1 k1 r1 h1 => eb w1 hx h1 fun v2 H2 d2 n2 w2 k2 r2 ⟨⟨l1, e1⟩, h2⟩ => ?_⟩
  have r1' := r1.mv (w1.mv k2)
  refine ⟨?_, sp_of w2 hx (reps_two r1' r2) h2 fun v H' d n' w' k' r' h' => q2 v H' d n' w' ((k1.trans k2).trans k') r' h'⟩
  subst e1
  obtain ⟨a, dx, fs, e, ⟨_, hh⟩, _⟩ := r1'
  exact ⟨a, dx, fs, e, hh⟩
/-- x op= e -/
def dAugOwn (C : Addr) (F : DF) (i : Nat) (tb : TD) : TDS := fun De ρ n x => ∃ d1, ρ[i]? = some (some (.val d1)) ∧ tb ρ n (fun d2 n2 => (∃ l, d1 = .ins C l) ∧ (∃ l, d2 = .ins C l) ∧ F [d1, d2] n2 (fun d n3 => De.nx (ρ.set i (some (.val d))) n3) x) x
theorem ds_augOwn {op : Operator} {i : Nat} {y : Str} {pos' : Pos} {cd : ClassData} (M : ∀ i, OwnM (Xs i).prog (Xs i).w (Xs i).K (Xs i).mg (Xs i).base K C (PySem.dunder op.info.2) k F f fd ps) (hr : ∀ i, Room k (Xs i).A) (hcd : ∀ i, PySem.W.clsIn (Xs i).K C = some cd) (hm : cd.mro = [.ref C, .type "object"])
    (hi' : ∀ i, PySem.W.findIn (Xs i).K (.ref C) (PySem.dunderI op.info.2) = some none) (ho : ∀ i, PySem.W.findIn (Xs i).K (.type "object") (PySem.dunderI op.info.2) = some none)
    (hN : ∀ j, (Xs j).N.Nodup) (hi : ∀ j, (Xs j).N[i]? = some y) (hx : ∀ j, Loc (Xs j).env.scope y) (hf : ∀ j, (Xs j).fn y = true ∨ (Xs j).env.scope.names.lookup y = some .local) (hb : DE Xs K E0 b tb) : DS Xs K E0 (.AugAssign (.Name y pos') op b pos) (dAugOwn C F i tb) := by
  obtain ⟨vb, pb, eb⟩ := hb
  refine ⟨tAug i vb (DOwn.rOwn C (spD K F) E0), fun j => ps_aug (hN j) (hi j) (hx j) (pb j) (DOwn.ip_own (M j).ok (hr j) (M j).bd pass0 (hcd j) hm (M j).at_ (M j).fn (hi' j) (ho j)) (hf j), ?_⟩
  intro p H0 Z0 ρ n Z σ H xd De Dv w hx h qn qr qb qc
  obtain ⟨d1, e0, h⟩ := h
  obtain ⟨v1, ev, r1⟩ := w.val e0
  refine ⟨v1, ev, eb w hx h fun v2 H2 d2 n2 w2 k2 r2 ⟨⟨l1, e1⟩, ⟨l2, e2⟩, h2⟩ => ?_⟩
  have r1' := r1.mv (w.mv k2)
  refine ⟨?_, ?_, sp_of w2 hx (reps_two r1' r2) h2 fun v H' d n' w' k' r' h' => qn _ n' Z _ H' (w'.set i r') (w.mv (k2.trans k')) h'⟩
  · subst e1
    obtain ⟨a, dx, fs, e, ⟨_, hh⟩, _⟩ := r1'
    exact ⟨a, dx, fs, e, hh⟩
  · subst e2
    obtain ⟨a, dx, fs, e, ⟨_, hh⟩, _⟩ := r2
    exact ⟨a, dx, fs, e, hh⟩
end
end DL
set_option Elab.async false
set_option linter.all false
set_option maxRecDepth 100000
set_option maxHeartbeats 1000000
set_option autoImplicit false
/-! DL: sets, texts joined, dicts. -/
namespace DL
open PySem L2
section
variable {ι : Type} {Xs : ι → Cx} {K : PySem.W.Frag} {E : XK} {pos q p1 p2 apos : Pos} {a b e o : Expr} {es : List Expr} {ta tb te to tk tx : TD} {t : TDA}
/-! ### sorted(set(..)), len(set(..)) -/
def pairD (q : Str × Int) : D := .tup [.str q.1, .int q.2]
def dSortS (t : TD) : TD := fun ρ n Q x => t ρ n (fun d n1 => ∃ xs : List Str, d = .lst (xs.map .str) ∧ xs.length < 64 ∧ ∀ ys : List Str, ys.Pairwise DSet.ltS → (∀ z, z ∈ ys ↔ z ∈ xs) → Q (.lst (ys.map .str)) n1) x
def dSortP (t : TD) : TD := fun ρ n Q x => t ρ n (fun d n1 => ∃ xs : List (Str × Int), d = .lst (xs.map pairD) ∧ xs.length < 64 ∧ ∀ ys : List (Str × Int), ys.Pairwise DSet.ltP → (∀ z, z ∈ ys ↔ z ∈ xs) → Q (.lst (ys.map pairD)) n1) x
def dLenS (t : TD) : TD := fun ρ n Q x => t ρ n (fun d n1 => ∃ xs : List Str, d = .lst (xs.map .str) ∧ xs.length < 64 ∧ ∀ ys : List Str, ys.Nodup → (∀ z, z ∈ ys ↔ z ∈ xs) → Q (.int ys.length) n1) x
theorem reps_strs {Z : Addr → Prop} {p : Addr} {H : Hp} : ∀ {xs : List Str} {vs : List V}, Reps K Z p H (xs.map .str) vs ↔ vs = xs.map V.str
  | [], _ => Iff.rfl
  | x :: xs, vs => by
    constructor
    · rintro ⟨v, r, e, a, b⟩
      cases a
      rw [e, reps_strs.mp b]
      rfl
    · intro e
      exact ⟨.str x, xs.map V.str, e, rfl, reps_strs.mpr rfl⟩
theorem reps_pairs {Z : Addr → Prop} {p : Addr} {H : Hp} : ∀ {xs : List (Str × Int)} {vs : List V}, Reps K Z p H (xs.map pairD) vs → ∃ ps : List (Addr × (Str × Int)), vs = ps.map (fun b => V.ref b.1) ∧ xs = ps.map (·.2) ∧ ∀ b ∈ ps, ((¬ Z b.1 ∧ Rd H b.1 (.tup [.str b.2.1, .int b.2.2])) ∨ WrT K b.1 [.str b.2.1, .int b.2.2])
  | [], _, r => ⟨[], r, rfl, fun _ h => nomatch h⟩
  | x :: xs, _, ⟨v, r, e, ⟨c, us, ev, hs, rs⟩, b⟩ => by
    obtain ⟨ps, e1, e2, h⟩ := reps_pairs b
    have eu : us = [.str x.1, .int x.2] := by
      obtain ⟨v1, v2, e3, r1, r2⟩ := reps2 rs
      cases r1; cases r2
      exact e3
    subst eu
    refine ⟨(c, x) :: ps, by rw [e, ev, e1]; rfl, by rw [e2]; rfl, fun b hb => ?_⟩
    rcases List.mem_cons.mp hb with z | z
    · rw [z]; exact hs
    · exact h b z
theorem reps_of_pairs {Z : Addr → Prop} {p : Addr} {H : Hp} : ∀ {ps : List (Addr × (Str × Int))}, (∀ b ∈ ps, ((¬ Z b.1 ∧ Rd H b.1 (.tup [.str b.2.1, .int b.2.2])) ∨ WrT K b.1 [.str b.2.1, .int b.2.2])) → Reps K Z p H ((ps.map (·.2)).map pairD) (ps.map fun b => V.ref b.1)
  | [], _ => rfl
  | b :: ps, h => ⟨.ref b.1, _, rfl, ⟨b.1, _, rfl, h b List.mem_cons_self, reps_two rfl rfl⟩, reps_of_pairs fun c hc => h c (List.mem_cons_of_mem _ hc)⟩
theorem de_sortS (hK : ∀ i, (Xs i).K = K) (hc : ∀ i, (Xs i).calm = true) (hu : ∀ i, (Xs i).A.units + 64 < cLine) (hm : ∀ i, (Xs i).mg "sorted" = none) (hm2 : ∀ i, (Xs i).mg "set" = none) (ha : DE Xs K E a ta) (hg : ∀ i, Gl (Xs i) "sorted" := by intro _; rfl) (hg2 : ∀ i, Gl (Xs i) "set" := by intro _; rfl)
    (na : ∀ i, starEach [a] (Xs i).env = (false, eval a (Xs i).env) :: starEach [] (Xs i).env := by intro _; rfl) : DE Xs K E (.Call (.Name "sorted" p1) [.Call (.Name "set" p2) [a] [] q] [] pos) (dSortS ta) := by
  obtain ⟨va, pa, ea⟩ := ha
  refine ⟨DSet.tSortS K va, fun i => ?_, fun w x h q => ea w x h fun v H1 d n1 w1 k1 r1 ⟨xs, e1, hl, h1⟩ => ?_⟩
  · have := DSet.pe_sortS (p := p1) (p2 := p2) (q := q) (pos := pos) (hc i) (hu i) (hg i) (hm i) (hg2 i) (hm2 i) (pa i) (na i)
    rw [hK i] at this
    exact this
  · subst e1
    obtain ⟨c, vs, rfl, hs, rs⟩ := r1
    have := reps_strs.mp rs
    subst this
    exact ⟨c, xs, rfl, sqL_of hs, hl, fun ys r nr hp hy => q _ _ _ n1 (w1.xt (Xt.new nr)) (k1.trans (Xt.new nr).kp) (rep_lst (w1.notin nr) nr (reps_strs.mpr rfl)) (h1 ys hp hy)⟩
theorem de_sortP (hK : ∀ i, (Xs i).K = K) (hc : ∀ i, (Xs i).calm = true) (hu : ∀ i, (Xs i).A.units + 64 < cLine) (hm : ∀ i, (Xs i).mg "sorted" = none) (hm2 : ∀ i, (Xs i).mg "set" = none) (ha : DE Xs K E a ta) (hg : ∀ i, Gl (Xs i) "sorted" := by intro _; rfl) (hg2 : ∀ i, Gl (Xs i) "set" := by intro _; rfl)
    (na : ∀ i, starEach [a] (Xs i).env = (false, eval a (Xs i).env) :: starEach [] (Xs i).env := by intro _; rfl) : DE Xs K E (.Call (.Name "sorted" p1) [.Call (.Name "set" p2) [a] [] q] [] pos) (dSortP ta) := by
  obtain ⟨va, pa, ea⟩ := ha
  refine ⟨DSet.tSortP K va, fun i => ?_, fun w x h q => ea w x h fun v H1 d n1 w1 k1 r1 ⟨xs, e1, hl, h1⟩ => ?_⟩
  · have := DSet.pe_sortP (p := p1) (p2 := p2) (q := q) (pos := pos) (hc i) (hu i) (hg i) (hm i) (hg2 i) (hm2 i) (pa i) (na i)
    rw [hK i] at this
    exact this
  · subst e1
    obtain ⟨c, vs, rfl, hs, rs⟩ := r1
    obtain ⟨ps, e1, e2, ht⟩ := reps_pairs rs
    subst e1 e2
    rw [List.length_map] at hl
    refine ⟨c, ps, rfl, sqL_of hs, hl, fun b hb => sqT_of (ht b hb), fun ys r nr hp hs1 hs2 => ?_⟩
    refine q _ _ _ n1 (w1.xt (Xt.new nr)) (k1.trans (Xt.new nr).kp) (rep_lst (w1.notin nr) nr (reps_of_pairs fun b hb => ht b (hs1 b hb))) (h1 _ hp fun z => ?_)
    constructor
    · intro hz
      obtain ⟨b, hb, e⟩ := List.mem_map.mp hz
      rw [← e]
      exact List.mem_map.mpr ⟨b, hs1 b hb, rfl⟩
    · intro hz
      obtain ⟨b, hb, e⟩ := List.mem_map.mp hz
      rw [← e]
      exact hs2 b hb
theorem de_lenS (hK : ∀ i, (Xs i).K = K) (hc : ∀ i, (Xs i).calm = true) (hu : ∀ i, (Xs i).A.units + 64 < cLine) (hm : ∀ i, (Xs i).mg "len" = none) (hm2 : ∀ i, (Xs i).mg "set" = none) (ha : DE Xs K E a ta) (hg : ∀ i, Gl (Xs i) "len" := by intro _; rfl) (hg2 : ∀ i, Gl (Xs i) "set" := by intro _; rfl)
    (na : ∀ i, starEach [a] (Xs i).env = (false, eval a (Xs i).env) :: starEach [] (Xs i).env := by intro _; rfl) : DE Xs K E (.Call (.Name "len" p1) [.Call (.Name "set" p2) [a] [] q] [] pos) (dLenS ta) := by
  obtain ⟨va, pa, ea⟩ := ha
  refine ⟨DSet.tLenS K va, fun i => ?_, fun w x h q => ea w x h fun v H1 d n1 w1 k1 r1 ⟨xs, e1, hl, h1⟩ => ?_⟩
  · have := DSet.pe_lenS (p := p1) (p2 := p2) (q := q) (pos := pos) (hc i) (hu i) (hg i) (hm i) (hg2 i) (hm2 i) (pa i) (na i)
    rw [hK i] at this
    exact this
  · subst e1
    obtain ⟨c, vs, rfl, hs, rs⟩ := r1
    have := reps_strs.mp rs
    subst this
    exact ⟨c, xs, rfl, sqL_of hs, hl, fun ys hn hy => q _ _ (.int ys.length) n1 w1 k1 rfl (h1 ys hn hy)⟩

/-! ### sep.join(list) -/
abbrev rJn (K : PySem.W.Frag) : V → List V → Hp → VK → Prop := fun x xs H Q => ∃ a p, ∃ ys : List Str, x = .str a ∧ xs = [.ref p] ∧ (SqL K H p (ys.map V.str) ∨ SqT K H p (ys.map V.str)) ∧ (ys.map (·.length)).sum + ys.length * a.length ≤ 16777216 ∧ Q (.str (Txt.join a ys)) H
def dJoin (to te : TD) : TD := fun ρ n Q x => to ρ n (fun d n1 => te ρ n1 (fun d2 n2 => ∃ (s : Str) (ys : List Str), d = .str s ∧ (d2 = .lst (ys.map .str) ∨ d2 = .tup (ys.map .str)) ∧ (ys.map (·.length)).sum + ys.length * s.length ≤ 16777216 ∧ Q (.str (Txt.join s ys)) n2) x) x
theorem de_join (hK : ∀ i, (Xs i).K = K) {z : Str} {jz : Nat} {pz : Pos} (he : DE Xs K E e te) (hs : ∀ i, starEach [e] (Xs i).env = [(false, eval e (Xs i).env)] := by intro _; rfl) (hline : (apos.endLine == pos.line) = true := by rfl) :
    DE Xs K E (.Call (.Attribute (.Constant (.str z) jz pz) "join" apos) [e] [] pos) (dJoin (dC (.str z)) te) := by
  obtain ⟨ve, pe, ee⟩ := he
  refine ⟨tM1 (rJn K) (tC (.str z)) ve, fun i => ?_, fun w x h q => ?_⟩
  · have := pe_join (o := .Constant (.str z) jz pz) pe_str (pe i) (hs i) (by rfl) hline
    rw [hK i] at this
    exact this
  refine ⟨⟨z, rfl⟩, ee w x h fun v H1 d n1 w1 k1 r1 ⟨s, ys, e1, e2, hz, h1⟩ => ?_⟩
  cases e1
  rcases e2 with e2 | e2
  · subst e2
    obtain ⟨c, vs, rfl, hs, rs⟩ := r1
    have := reps_strs.mp rs
    subst this
    exact ⟨z, c, ys, rfl, rfl, .inl (sqL_of hs), hz, q _ _ (.str _) n1 w1 k1 rfl h1⟩
  · subst e2
    obtain ⟨c, vs, rfl, hs, rs⟩ := r1
    have := reps_strs.mp rs
    subst this
    exact ⟨z, c, ys, rfl, rfl, .inr (sqT_of hs), hz, q _ _ (.str _) n1 w1 k1 rfl h1⟩
end
end DL
set_option Elab.async false
set_option linter.all false
set_option maxRecDepth 100000
set_option maxHeartbeats 1000000
set_option autoImplicit false
/-! DL: dicts. -/
namespace DL
open PySem L2
def keyD : Key → D
  | .inl i => .int i
  | .inr s => .str s
theorem rep_key {K : PySem.W.Frag} {Z : Addr → Prop} {p : Addr} {H : Hp} (k : Key) : Rep K Z p H (keyD k) (kV k) := by
  cases k <;> exact rfl
theorem key_of {K : PySem.W.Frag} {Z : Addr → Prop} {p : Addr} {H : Hp} {k : Key} {v : V} (r : Rep K Z p H (keyD k) v) : v = kV k := by
  cases k <;> exact r
def itemD (q : Key × D) : D := .tup [keyD q.1, q.2]
def lookD (l : List (Key × D)) (k : Key) : Option D := (l.find? fun kv => decide (kv.1 = k)).map (·.2)
def putD (l : List (Key × D)) (k : Key) (d : D) : List (Key × D) :=
  if (l.any fun kv => decide (kv.1 = k)) = true then l.map (fun kv => if kv.1 = k then (kv.1, d) else kv) else l ++ [(k, d)]
def mergeD (l m : List (Key × D)) : List (Key × D) := m.foldl (fun acc kv => putD acc kv.1 kv.2) l
section
variable {K : PySem.W.Frag} {Z : Addr → Prop} {p : Addr} {H : Hp}
theorem RepK.len : ∀ {l : List (Key × D)} {v : List (Key × V)}, RepK K Z p H l v → l.length = v.length
  | [], _, h => by rw [show _ = [] from h]; rfl
  | _ :: _, _, ⟨v, r, e, a, b⟩ => by rw [e, List.length_cons, List.length_cons, RepK.len b]
theorem RepK.look : ∀ {l : List (Key × D)} {kvs : List (Key × V)} (k : Key), RepK K Z p H l kvs → (∃ d v, lookD l k = some d ∧ valV kvs k = some v ∧ Rep K Z p H d v) ∨ (lookD l k = none ∧ valV kvs k = none)
  | [], _, k, h => by rw [show _ = [] from h]; exact .inr ⟨rfl, rfl⟩
  | (k', d) :: l, _, k, ⟨v, r, e, a, b⟩ => by
    rw [e]
    unfold lookD valV
    by_cases hk : k' = k
    · rw [List.find?_cons_of_pos (by simp [hk]), List.find?_cons_of_pos (by simp [hk])]
      exact .inl ⟨d, v, rfl, rfl, a⟩
    · rw [List.find?_cons_of_neg (by simp [hk]), List.find?_cons_of_neg (by simp [hk])]
      exact RepK.look k b
theorem RepK.any : ∀ {l : List (Key × D)} {kvs : List (Key × V)} (k : Key), RepK K Z p H l kvs → (l.any fun kv => decide (kv.1 = k)) = (kvs.any fun kv => decide (kv.1 = k))
  | [], _, k, h => by rw [show _ = [] from h]; rfl
  | (k', d) :: l, _, k, ⟨v, r, e, a, b⟩ => by rw [e, List.any_cons, List.any_cons, RepK.any k b]
theorem RepK.mp {k : Key} {d : D} {u : V} (ru : Rep K Z p H d u) : ∀ {l : List (Key × D)} {kvs : List (Key × V)}, RepK K Z p H l kvs → RepK K Z p H (l.map fun kv => if kv.1 = k then (kv.1, d) else kv) (kvs.map fun kv => if kv.1 = k then (kv.1, u) else kv)
  | [], _, h => by rw [show _ = [] from h]; exact rfl
  | (k', d') :: l, _, ⟨v, r, e, a, b⟩ => by
    rw [e, List.map_cons, List.map_cons]
    by_cases hk : k' = k
    · simp only [hk, if_true]
      exact ⟨u, _, rfl, ru, RepK.mp ru b⟩
    · simp only [hk, if_false]
      exact ⟨v, _, rfl, a, RepK.mp ru b⟩
theorem RepK.snoc {k : Key} {d : D} {u : V} (ru : Rep K Z p H d u) : ∀ {l : List (Key × D)} {kvs : List (Key × V)}, RepK K Z p H l kvs → RepK K Z p H (l ++ [(k, d)]) (kvs ++ [(k, u)])
  | [], _, h => by rw [show _ = [] from h]; exact ⟨u, [], rfl, ru, rfl⟩
  | (k', d') :: l, _, ⟨v, r, e, a, b⟩ => by rw [e]; exact ⟨v, _, rfl, a, RepK.snoc ru b⟩
theorem RepK.put {k : Key} {d : D} {u : V} {l : List (Key × D)} {kvs : List (Key × V)} (r : RepK K Z p H l kvs) (ru : Rep K Z p H d u) : RepK K Z p H (putD l k d) (putK kvs k u) := by
  unfold putD putK
  rw [r.any k]
  split
  · exact r.mp ru
  · exact r.snoc ru
theorem RepK.merge : ∀ {m : List (Key × D)} {us : List (Key × V)} {l : List (Key × D)} {kvs : List (Key × V)}, RepK K Z p H m us → RepK K Z p H l kvs → RepK K Z p H (mergeD l m) (mergeK kvs us)
  | [], _, l, kvs, h, r => by rw [show _ = [] from h]; exact r
  | (k, d) :: m, _, l, kvs, ⟨v, rr, e, a, b⟩, r => by
    rw [e]
    show RepK K Z p H (mergeD (putD l k d) m) (mergeK (putK kvs k v) rr)
    exact RepK.merge b (r.put a)
/-- a list of pairs -/
theorem reps_items {Z : Addr → Prop} {p : Addr} {H : Hp} : ∀ {l : List (Key × D)} {vs : List V}, Reps K Z p H (l.map itemD) vs → ∃ (ts : List Addr) (kvs : List (Key × V)), vs = ts.map V.ref ∧ RepK K Z p H l kvs ∧ Paired (fun t kv => SqT K H t [kV kv.1, kv.2]) ts kvs
  | [], _, r => ⟨[], [], r, rfl, .nil⟩
  | q :: l, _, ⟨v, r, e, ⟨c, us, ev, hs, rs⟩, b⟩ => by
    obtain ⟨ts, kvs, e1, rk, pr⟩ := reps_items b
    obtain ⟨v1, v2, e3, r1, r2⟩ := reps2 rs
    have e4 := key_of r1
    subst e3 e4
    exact ⟨c :: ts, (q.1, v2) :: kvs, by rw [e, ev, e1]; rfl, ⟨v2, kvs, rfl, r2, rk⟩, .cons (sqT_of hs) pr⟩
theorem reps_of_items {Z : Addr → Prop} {p : Addr} {H : Hp} : ∀ {l : List (Key × D)} {kvs : List (Key × V)} {ts : List Addr}, RepK K Z p H l kvs → Paired (fun t (kv : Key × V) => ¬ Z t ∧ H t = some (.tup [kV kv.1, kv.2])) ts kvs → Reps K Z p H (l.map itemD) (ts.map V.ref)
  | [], _, _, h, pr => by
    rw [show _ = [] from h] at pr
    cases pr
    exact rfl
  | q :: l, _, _, ⟨v, r, e, a, b⟩, pr => by
    rw [e] at pr
    cases pr with
    | cons h pr' => exact ⟨_, _, rfl, ⟨_, _, rfl, .inl ⟨h.1, .inl h.2⟩, reps_two (rep_key q.1) a⟩, reps_of_items b pr'⟩
end
section
variable {ι : Type} {Xs : ι → Cx} {K : PySem.W.Frag} {E : XK} {pos q p1 p2 apos cpos : Pos} {a b e o : Expr} {es : List Expr} {ta tb te to tk tx : TD} {t : TDA}
/-- dict(pairs) -/
def dDict (t : TDA) : TD := fun ρ n Q x => t ρ n (fun ds n1 => ∃ l : List (Key × D), ds = [.lst (l.map itemD)] ∧ Q (.dct (mergeD [] l)) n1) x
theorem de_dict (hK : ∀ i, (Xs i).K = K) (hc : ∀ i, (Xs i).calm = true) (hm : ∀ i, (Xs i).mg "dict" = none) (ha : DA Xs K E [e] t) (hg : ∀ i, Gl (Xs i) "dict" := by intro _; rfl)
    (he : ∀ i, starEach [e] (Xs i).env = (false, eval e (Xs i).env) :: starEach [] (Xs i).env := by intro _; rfl) : DE Xs K E (.Call (.Name "dict" q) [e] [] pos) (dDict t) := by
  obtain ⟨va, pa, ea⟩ := ha
  refine ⟨tCB (fun xs H Q => ∃ (a : Addr) (ps : List Addr) (kvs : List (Key × V)), xs = [.ref a] ∧ SqL K H a (ps.map V.ref) ∧ Paired (fun p kv => SqT K H p [kV kv.1, kv.2]) ps kvs ∧ ∀ p, H p = none → Q (.ref p) (upd H p (.dK (mergeK [] kvs)))) va, fun i => ?_, fun w x h q => ea w x h fun vs H1 ds n1 w1 k1 r1 ⟨l, e1, h1⟩ => ?_⟩
  · have := pe_callTy (x := "dict") (p := q) (pos := pos) (call_dictP (hc i)) (hg i) (hm i) (by decide +kernel) (pa i) (by decide) (by decide) (he i) (by rfl)
    rw [hK i] at this
    exact this
  · subst e1
    obtain ⟨v, rfl, c, us, rfl, hs, rs⟩ := reps1 r1
    obtain ⟨ts, kvs, e1, rk, pr⟩ := reps_items rs
    subst e1
    refine ⟨c, ts, kvs, rfl, sqL_of hs, pr, fun m nm => q _ _ (.dct (mergeD [] l)) n1 (w1.xt (Xt.new nm)) (k1.trans (Xt.new nm).kp) ⟨m, _, rfl, ⟨w1.notin nm, upd_same⟩, ?_⟩ h1⟩
    exact (RepK.merge rk (l := []) (kvs := []) rfl).mv fun a o z h => ⟨z, Xt.new nm a o h⟩
/-- d.get(k, x) -/
def dGet2 (to tk tx : TD) : TD := fun ρ n Q x => to ρ n (fun d n1 => ∃ l, d = .dct l ∧ tk ρ n1 (fun k n2 => tx ρ n2 (fun z n3 => ∃ c : Key, k = keyD c ∧ Q ((lookD l c).getD z) n3) x) x) x
theorem de_get2 (hu : ∀ i, (Xs i).A.units + 1 < cLine) (ho : DE Xs K E o to) (he : DE Xs K E a tk) (hf : DE Xs K E b tx) (m : ∀ i, M2 (Xs i) o "get" apos a b cpos) : DE Xs K E (.Call (.Attribute o "get" apos) [a, b] [] cpos) (dGet2 to tk tx) := by
  obtain ⟨vo, po, eo⟩ := ho
  obtain ⟨va, pa, ea⟩ := he
  obtain ⟨vb, pb, eb⟩ := hf
  refine ⟨_, fun i => pe_dget2 (hu i) (po i) (pa i) (pb i) (m i), fun w x h q => eo w x h fun v H1 d n1 w1 k1 r1 ⟨l, e1, h1⟩ => ?_⟩
  subst e1
  obtain ⟨c, kvs, rfl, ⟨zc, hc⟩, rk⟩ := r1
  refine ⟨c, rfl, .inl ⟨kvs, .inl hc⟩, ea w1 x h1 fun v2 H2 d2 n2 w2 k2 r2 h2 => eb w2 x h2 fun v3 H3 d3 n3 w3 k3 r3 ⟨ck, ek, h3⟩ => ?_⟩
  subst ek
  have k13 := k2.trans k3
  have hv := key_of r2
  subst hv
  have hc3 : H3 c = some (.dK kvs) := k13 c _ (fun z => zc (z ▸ w1.zpp)) hc
  have rk3 := rk.mv (w1.mv k13)
  refine ⟨valV kvs ck, DGet.k hc3, ?_⟩
  rcases rk3.look ck with ⟨d, u, e1, e2, r⟩ | ⟨e1, e2⟩
  · rw [e1] at h3
    rw [e2]
    exact q _ _ d n3 w3 (k1.trans k13) r h3
  · rw [e1] at h3
    rw [e2]
    exact q _ _ d3 n3 w3 (k1.trans k13) r3 h3
/-- list(d.items()) -/
def dListIt (to : TD) : TD := fun ρ n Q x => to ρ n (fun d n1 => ∃ l, d = .dct l ∧ Q (.lst (l.map itemD)) n1) x
theorem paired_new {K : PySem.W.Frag} {Z : Addr → Prop} {H' : Hp} : ∀ {ts : List Addr} {kvs : List (Key × V)}, (∀ t ∈ ts, ¬ Z t) → Paired (fun (t : Addr) (q : Key × V) => H' t = some (.tup [kV q.1, q.2])) ts kvs → Paired (fun t (kv : Key × V) => ¬ Z t ∧ H' t = some (.tup [kV kv.1, kv.2])) ts kvs
  | _, _, _, .nil => .nil
  | t :: ts, _, h, .cons a b => .cons ⟨h t List.mem_cons_self, a⟩ (paired_new (K := K) (fun s hs => h s (List.mem_cons_of_mem _ hs)) b)
theorem de_listItems (hc : ∀ i, (Xs i).calm = true) (hm : ∀ i, (Xs i).mg "list" = none) (ho : DE Xs K E o to) (hg : ∀ i, Gl (Xs i) "list" := by intro _; rfl) (hbase : ∀ i, attributeBase o "items" (Xs i).env (eval o (Xs i).env) = eval o (Xs i).env := by intro _; rfl) (hline : (apos.endLine == cpos.line) = true := by rfl)
    (hs : ∀ i, starEach [.Call (.Attribute o "items" apos) [] [] cpos] (Xs i).env = (false, eval (.Call (.Attribute o "items" apos) [] [] cpos) (Xs i).env) :: starEach [] (Xs i).env := by intro _; rfl) :
    DE Xs K E (.Call (.Name "list" q) [.Call (.Attribute o "items" apos) [] [] cpos] [] pos) (dListIt to) := by
  obtain ⟨vo, po, eo⟩ := ho
  refine ⟨_, fun i => LiI.pe_listItems (hc i) (po i) (hg i) (hm i) (by decide +kernel) (hbase i) hline (hs i), fun w x h q => eo w x h fun v H1 d n1 w1 k1 r1 ⟨l, e1, h1⟩ => ?_⟩
  subst e1
  obtain ⟨c, kvs, rfl, ⟨zc, hc⟩, rk⟩ := r1
  refine ⟨c, kvs, rfl, hc, fun H' p ts hx hp ht hnp hl pr => ?_⟩
  have xt : Xt H1 H' := hx
  refine q _ H' (.lst (l.map itemD)) n1 (w1.xt xt) (k1.trans xt.kp) ⟨p, _, rfl, ⟨w1.notin hp, hl⟩, ?_⟩ h1
  exact reps_of_items (rk.mv (w1.mv xt.kp)) (paired_new (K := K) (fun t hh => w1.notin (ht t hh)) pr)
end
end DL
set_option Elab.async false
set_option linter.all false
set_option maxRecDepth 100000
set_option maxHeartbeats 1000000
set_option autoImplicit false
/-! DL: ranges, texts walked; dicts that a def fills; items. -/
namespace DL
open PySem L2
section
variable {ι : Type} {Xs : ι → Cx} {K : PySem.W.Frag} {E : XK} {pos q p1 p2 apos cpos : Pos} {tg a b e o : Expr} {es : List Expr} {ta tb te to tk tx : TD} {t : TDA}
def intsTo (n : Nat) : List D := (List.range n).map fun (i : Nat) => .int (i : Int)
/-- range(n) -/
def dRange (t : TDA) : TDL := fun ρ n Q x => t ρ n (fun ds n1 => ∃ j : Int, ds = [.int j] ∧ -1000000 ≤ j ∧ j ≤ 1000000 ∧ Q (intsTo j.toNat) n1) x
theorem ints_at {n i : Nat} (h : i < n) : (intsTo n)[i]? = some (.int (i : Int)) := by
  unfold intsTo
  rw [List.getElem?_map, List.getElem?_range h]
  rfl
theorem ints_len (n : Nat) : (intsTo n).length = n := by
  unfold intsTo
  rw [List.length_map, List.length_range]
theorem di_range (hm : ∀ i, (Xs i).mg "range" = none) (ha : DA Xs K E [a] t) (hg : ∀ i, Gl (Xs i) "range" := by intro _; rfl) (hs : ∀ i, starEach [a] (Xs i).env = [(false, eval a (Xs i).env)] := by intro _; rfl) : DI Xs K E tg (.Call (.Name "range" q) [a] [] pos) (dRange t) := by
  obtain ⟨va, pa, ea⟩ := ha
  refine ⟨iRng1 va, fun i => pi_range1 (hg i) (hm i) (pa i) (hs i), fun w x h q => ea w x h fun vs H1 ds n1 w1 k1 r1 ⟨j, e1, hlo, hhi, h1⟩ => ?_⟩
  subst e1
  obtain ⟨v, rfl, r⟩ := reps1 r1
  cases r
  refine ⟨j, rfl, by omega, by omega, q _ H1 _ n1 w1 k1 ⟨fun i Z' H' m hi => ?_, fun i Z' H' x H2 m hz hi y => ?_, fun Z' H' m => ?_⟩ h1⟩
  · rw [ints_len] at hi
    show i < j.toNat
    exact hi
  · rw [ints_len] at hi
    obtain ⟨e2, e3⟩ := y
    subst e2 e3
    exact ⟨_, ints_at hi, .refl, by show V.int (0 + (i : Int)) = V.int i; rw [Int.zero_add]⟩
  · show j.toNat ≤ (intsTo j.toNat).length
    rw [ints_len]
    exact Nat.le_refl _
/-- the signs of a text -/
def signs (s : Str) : List D := s.cps.toList.map fun c => .str ⟨#[c]⟩
def dSigns (t : TD) : TDL := fun ρ n Q x => t ρ n (fun d n1 => ∃ s : Str, d = .str s ∧ Q (signs s) n1) x
theorem di_str (h : DE Xs K E e te) : DI Xs K E tg e (dSigns te) := by
  obtain ⟨v, pe, ev⟩ := h
  refine ⟨iStr v, fun i => pi_str (pe i), fun w x hh q => ev w x hh fun u H1 d n1 w1 k1 r1 ⟨s, e1, h1⟩ => ?_⟩
  subst e1
  cases r1
  have hl : (signs s).length = s.cps.size := by unfold signs; rw [List.length_map, Array.length_toList]
  refine ⟨s, rfl, q _ H1 _ n1 w1 k1 ⟨fun i Z' H' m hi => ?_, fun i Z' H' x H2 m hz hi y => ?_, fun Z' H' m => ?_⟩ h1⟩
  · rw [hl] at hi; exact hi
  · obtain ⟨e2, c, hc, e3⟩ := y
    subst e2 e3
    refine ⟨.str ⟨#[c]⟩, ?_, .refl, rfl⟩
    unfold signs
    rw [List.getElem?_map, Array.getElem?_toList, hc]
    rfl
  · rw [hl]; exact Nat.le_refl _

/-! ### a dict that the def fills -/
theorem Wd.ownD {p : Addr} {H0 H : Hp} {Z0 Z : Addr → Prop} {ρ : DSt} {n : Nat} {σ : St} {i : Nat} {l : List (Key × D)} (w : Wd K p H0 Z0 ρ n Z σ H) (h : ρ[i]? = some (some (.ownD l))) : ∃ c kvs, σ[i]? = some (some (.ref c)) ∧ Z c ∧ H0 c = none ∧ H c = some (.dK kvs) ∧ RepK K Z p H l kvs := by
  obtain ⟨v, e, c, kvs, ev, r⟩ := w.env i _ h
  subst ev
  exact ⟨c, kvs, e, r⟩
/-- a new dict comes to a slot -/
theorem Wd.newD {p : Addr} {H0 H : Hp} {Z0 Z : Addr → Prop} {ρ : DSt} {n : Nat} {σ : St} (w : Wd K p H0 Z0 ρ n Z σ H) {c : Addr} (hc : H c = none) (i : Nat) : Wd K p H0 Z0 (ρ.set i (some (.ownD []))) n (zAdd Z c) (σ.set i (some (.ref c))) (upd H c (.dK [])) := by
  have w1 := w.add (o := .dK []) hc
  have oth : ∀ (j : Nat) (s : Sl), s.owned = true → ρ[j]? = some (some s) → σ[j]? ≠ some (some (.ref c)) := fun j s so h e => by
    obtain ⟨v, ev, r⟩ := w.env j s h
    rw [e] at ev
    cases ev
    cases s with
    | val d => cases so
    | own l => obtain ⟨b, vs, eb, zb, _, hb, _⟩ := r; cases eb; rw [hc] at hb; cases hb
    | ownD l => obtain ⟨b, vs, eb, zb, _, hb, _⟩ := r; cases eb; rw [hc] at hb; cases hb
  refine ⟨w1.pot, w1.zp, w1.d0, w1.sub, w1.dom, w1.keep, by rw [List.length_set, List.length_set]; exact w.len, fun j s h => ?_, fun j k b s t ne hj hk sj sk e => ?_⟩
  · by_cases ej : i = j
    · subst ej
      have hl : i < ρ.length := by
        have := (List.getElem?_eq_some_iff.mp h).1
        rwa [List.length_set] at this
      rw [List.getElem?_set_self hl] at h
      cases h
      exact ⟨.ref c, List.getElem?_set_self (by rw [w.len]; exact hl), c, [], rfl, .inr rfl, w.new0 hc, upd_same, rfl⟩
    · rw [List.getElem?_set_ne ej] at h ⊢
      exact w1.env j s h
  · have lt : ∀ {m : Nat} {u : Option Sl}, (ρ.set i (some (.ownD [])))[m]? = some u → m < ρ.length := fun h => by
      have := (List.getElem?_eq_some_iff.mp h).1
      rwa [List.length_set] at this
    by_cases ej : i = j
    · subst ej
      rw [List.getElem?_set_self (by rw [w.len]; exact lt hj)] at e
      cases e
      rw [List.getElem?_set_ne ne] at hk ⊢
      exact oth k t sk hk
    · rw [List.getElem?_set_ne ej] at hj e
      by_cases ek : i = k
      · subst ek
        rw [List.getElem?_set_self (by rw [w.len]; exact lt hk)]
        intro z
        cases z
        exact oth j s sj hj e
      · rw [List.getElem?_set_ne ek] at hk ⊢
        exact w.dis j k b s t ne hj hk sj sk e
/-- a, b = e, {} -/
def dParD (i j : Nat) (te : TD) : TDS := fun De ρ n x => te ρ n (fun d n1 => De.nx ((ρ.set i (some (.val d))).set j (some (.ownD []))) n1) x
theorem ds_parD {i j : Nat} {x y : Str} {px py pt pd : Pos} {kt k2 pt2} (hc : ∀ k, (Xs k).calm = true) (hN : ∀ k, (Xs k).N.Nodup) (hi : ∀ k, (Xs k).N[i]? = some x) (hj : ∀ k, (Xs k).N[j]? = some y) (hij : i ≠ j)
    (hx : ∀ k, (Xs k).env.scope.names.lookup x = some .local) (hy : ∀ k, (Xs k).env.scope.names.lookup y = some .local) (he : DE Xs K E e te)
    (hw : ∀ k, swappedStores [.Tuple [.Name x px, .Name y py] kt pt] (.Tuple [e, .Dict [] [] pd] k2 pt2) (Xs k).env = pure (some [x, y]))
    (hst : ∀ i, starEach [e, .Dict [] [] pd] (Xs i).env = (false, eval e (Xs i).env) :: starEach [.Dict [] [] pd] (Xs i).env := by intro _; rfl)
    (hs : ∀ k, swapsWithSole [.Tuple [.Name x px, .Name y py] kt pt] (.Tuple [e, .Dict [] [] pd] k2 pt2) pos.line (Xs k).env = pure false := by intro _; rfl) : DS Xs K E (.Assign [.Tuple [.Name x px, .Name y py] kt pt] (.Tuple [e, .Dict [] [] pd] k2 pt2) pos) (dParD i j te) := by
  obtain ⟨v, pe, ev⟩ := he
  refine ⟨tPar i j (tCons v (tCons tDNewK tNil)), fun k => ps_par (hc k) (hN k) (hi k) (hj k) hij (hx k) (hy k) (pa_cons (pe k) (pa_cons pe_dnewK pa_nil) (hst k)) (hw k) (hs k), fun {p H0 Z0 ρ n Z σ H x De Dv} w x hh qn qr qb qc => ev w x hh fun u H1 d n1 w1 k1 r1 h1 c hc' => ?_⟩
  refine ⟨u, .ref c, rfl, qn _ n1 (zAdd Z c) _ _ ?_ ((w.mv k1).trans (mv_add hc')) h1⟩
  have w2 := w1.set i r1
  exact w2.newD hc' j
/-- d[k] = v -/
def dPut (j : Nat) (tk te : TD) : TDS := fun De ρ n x => te ρ n (fun d n1 => ∃ l, ρ[j]? = some (some (.ownD l)) ∧ l.length < most ∧ tk ρ n1 (fun k n2 => ∃ c : Key, k = keyD c ∧ De.nx (ρ.set j (some (.ownD (putD l c d)))) n2) x) x
theorem ds_put {j : Nat} {y : Str} {py pos' : Pos} (hu : ∀ i, (Xs i).A.units + 1 < cLine) (hN : ∀ k, (Xs k).N[j]? = some y) (hv : ∀ k, Vis (Xs k).env.scope y) (hk : DE Xs K E a tk) (he : DE Xs K E e te) (hs : ∀ i, swapsWith e (some (.Subscript (.Name y py) a pos')) pos.line (Xs i).env = pure false := by intro _; rfl)
    (hd : (y == ("__debug__" : Str)) = false := by decide) (hcd : (y == ("__classdict__" : Str)) = false := by decide) : DS Xs K E (.Assign [.Subscript (.Name y py) a pos'] e pos) (dPut j tk te) := by
  obtain ⟨vk, pk, ek⟩ := hk
  obtain ⟨ve, pe, ee⟩ := he
  refine ⟨sDPut (tVar j) vk ve, fun i => ps_dput (hu i) (pe_var (hN i) (hv i) hd hcd) (pk i) (pe i) (hs i), fun {p H0 Z0 ρ n Z σ H x De Dv} w x hh qn qr qb qc => ee w x hh fun u H1 d n1 w1 k1 r1 ⟨l, el, hl, h1⟩ => ?_⟩
  obtain ⟨c, kvs, es, zc, h0, hc, rk⟩ := w1.ownD el
  refine ⟨.ref c, es, ek w1 x h1 fun v2 H2 d2 n2 w2 k2 r2 ⟨ck, e2, h2⟩ => ?_⟩
  subst e2
  have hv2 := key_of r2
  subst hv2
  have hcp : c ≠ p := w1.own_ne h0
  have hc2 := k2 c _ hcp hc
  have rk2 := rk.mv (w1.mv k2)
  refine ⟨c, _, rfl, DPut.k hc2 (by rw [← rk2.len]; exact Nat.lt_of_lt_of_le hl (by decide)), qn _ n2 Z _ _ ?_ (((w.mv k1).trans (w1.mv k2)).trans fun b ob z h => ⟨z, (upd_ne (fun e => z (by rw [e]; exact zc))).trans h⟩) h2⟩
  have mU : Mv Z H2 Z (upd H2 c (.dK (putK kvs ck u))) := fun b ob z h => ⟨z, (upd_ne (fun e => z (by rw [e]; exact zc))).trans h⟩
  have hjl : j < ρ.length := (List.getElem?_eq_some_iff.mp el).1
  refine ⟨?_, w2.zp, w2.d0, w2.sub, fun b z => ?_, fun b ob nb h => ?_, by rw [List.length_set]; exact w2.len, fun m s h => ?_, fun m k b s t ne hm hk sm sk e => ?_⟩
  · obtain ⟨oo, s, cc, hp, r⟩ := w2.pot
    exact ⟨oo, s, cc, by rw [upd_ne (Ne.symm hcp)]; exact hp, r⟩
  · by_cases eb : b = c
    · rw [eb, upd_same]; exact fun h => nomatch h
    · rw [upd_ne eb]; exact w2.dom b z
  · by_cases eb : b = c
    · rw [eb, h0] at h; cases h
    · rw [upd_ne eb]; exact w2.keep b ob nb h
  · by_cases ej : j = m
    · subst ej
      rw [List.getElem?_set_self hjl] at h
      cases h
      exact ⟨.ref c, es, c, _, rfl, zc, h0, upd_same, (rk2.put (r1.mv (w1.mv k2))).mv mU⟩
    · rw [List.getElem?_set_ne ej] at h
      obtain ⟨v, ev, r⟩ := w2.env m s h
      refine ⟨v, ev, ?_⟩
      cases s with
      | val d => exact Rep.mv mU r
      | own l' =>
        obtain ⟨b, vs, eb, zb, b0, hb, rb⟩ := r
        have nb : b ≠ c := fun z => by
          subst eb
          rw [z] at ev
          exact w2.dis j m c _ _ ej el h rfl rfl es ev
        exact ⟨b, vs, eb, zb, b0, by rw [upd_ne nb]; exact hb, rb.mv mU⟩
      | ownD l' =>
        obtain ⟨b, vs, eb, zb, b0, hb, rb⟩ := r
        have nb : b ≠ c := fun z => by
          subst eb
          rw [z] at ev
          exact w2.dis j m c _ _ ej el h rfl rfl es ev
        exact ⟨b, vs, eb, zb, b0, by rw [upd_ne nb]; exact hb, rb.mv mU⟩
  · have back : ∀ {m : Nat} {s : Sl}, (ρ.set j (some (.ownD (putD l ck d))))[m]? = some (some s) → s.owned = true → ∃ s', ρ[m]? = some (some s') ∧ s'.owned = true := fun {m s} h so => by
      by_cases ej : j = m
      · subst ej; exact ⟨_, el, rfl⟩
      · rw [List.getElem?_set_ne ej] at h; exact ⟨s, h, so⟩
    obtain ⟨s', hm', sm'⟩ := back hm sm
    obtain ⟨t', hk', sk'⟩ := back hk sk
    exact w2.dis m k b s' t' ne hm' hk' sm' sk' e
/-- return of it -/
def dRetD (j : Nat) : TDS := fun De ρ n _ => ∃ l, ρ[j]? = some (some (.ownD l)) ∧ De.rt (.dct l) n
theorem ds_retD {j : Nat} {y : Str} {py : Pos} (hN : ∀ k, (Xs k).N[j]? = some y) (hv : ∀ k, Vis (Xs k).env.scope y) (hd : (y == ("__debug__" : Str)) = false := by decide) (hcd : (y == ("__classdict__" : Str)) = false := by decide) : DS Xs K E (.Return (some (.Name y py)) pos) (dRetD j) := by
  refine ⟨tRet (tVar j), fun i => ps_ret (pe_var (hN i) (hv i) hd hcd), fun {p H0 Z0 ρ n Z σ H x De Dv} w x hh qn qr qb qc => ?_⟩
  obtain ⟨l, el, h1⟩ := hh
  obtain ⟨c, kvs, es, zc, h0, hc, rk⟩ := w.ownD el
  refine ⟨.ref c, es, qr _ H (.dct l) n w.pot w.keep ⟨c, kvs, rfl, ⟨fun z => w.d0 c z h0, hc⟩, rk.mv fun a o z h => ⟨fun g => z (w.sub a g), h⟩⟩ h1⟩
end
end DL
set_option Elab.async false
set_option linter.all false
set_option maxRecDepth 100000
set_option maxHeartbeats 1000000
set_option autoImplicit false
/-! DL: the rules in short, over one record of what every place of a def knows. -/
namespace DL
open PySem L2

/-- the built-in names that the module does not write -/
structure Bt (mg : Str → Option Value) : Prop where
  isi : mg "isinstance" = none
  int : mg "int" = none
  bool : mg "bool" = none
  str : mg "str" = none
  tuple : mg "tuple" = none
  list : mg "list" = none
  dict : mg "dict" = none
  set : mg "set" = none
  len : mg "len" = none
  all : mg "all" = none
  any : mg "any" = none
  max : mg "max" = none
  min : mg "min" = none
  sorted : mg "sorted" = none
  range : mg "range" = none
structure En {ι : Type} (Xs : ι → Cx) (P : Program) (w : World) (K : PySem.W.Frag) (mg : Str → Option Value) (base : Heap) (N : List Str) (k : Nat) : Prop where
  hP : ∀ i, (Xs i).prog = P
  hw : ∀ i, (Xs i).w = w
  hK : ∀ i, (Xs i).K = K
  hm : ∀ i, (Xs i).mg = mg
  hb : ∀ i, (Xs i).base = base
  hN : ∀ i, (Xs i).N = N
  hc : ∀ i, (Xs i).calm = true
  hr : ∀ i, Room k (Xs i).A
  nd : N.Nodup
  bt : Bt mg
section
variable {ι : Type} {Xs : ι → Cx} {P : Program} {w : World} {K : PySem.W.Frag} {mg : Str → Option Value} {base : Heap} {N : List Str} {k : Nat}
theorem En.blk (e : En Xs P w K mg base N k) {sc : Scope} : En (blkF Xs sc) P w K mg base N k := ⟨fun i => e.hP i.1, fun i => e.hw i.1, fun i => e.hK i.1, fun i => e.hm i.1, fun i => e.hb i.1, fun i => e.hN i.1, fun i => e.hc i.1, fun i => e.hr i.1, e.nd, e.bt⟩
theorem En.u64 (e : En Xs P w K mg base N k) : ∀ i, (Xs i).A.units + 64 < cLine := fun i => (e.hr i).units
theorem En.u1 (e : En Xs P w K mg base N k) : ∀ i, (Xs i).A.units + 1 < cLine := fun i => hu_of (e.hr i)
theorem En.nd' (e : En Xs P w K mg base N k) : ∀ i, (Xs i).N.Nodup := fun i => by rw [e.hN i]; exact e.nd
theorem En.no (e : En Xs P w K mg base N k) {x : Str} (h : mg x = none) : ∀ i, (Xs i).mg x = none := fun i => by rw [e.hm i]; exact h
theorem En.at (e : En Xs P w K mg base N k) {x : Str} {u : Value} (h : mg x = some u) : ∀ i, (Xs i).mg x = some u := fun i => by rw [e.hm i]; exact h
theorem En.opK (e : En Xs P w K mg base N k) {f : Value → Value → Sem Value} {r : PySem.W.Frag → R2} (h : ∀ i, OpR (Xs i) f (r (Xs i).K)) : ∀ i, OpR (Xs i) f (r K) := fun i => by have := h i; rw [e.hK i] at this; exact this
theorem En.clK (e : En Xs P w K mg base N k) {f : Value} {r : PySem.W.Frag → List V → Hp → VK → Prop} (h : ∀ i, CallR (Xs i) f (r (Xs i).K)) : ∀ i, CallR (Xs i) f (r K) := fun i => by have := h i; rw [e.hK i] at this; exact this
variable {E : XK} {pos q p1 p2 apos cpos : Pos} {tg a b c e o iter : Expr} {es : List Expr} {ta tb tc te to tk tx : TD} {t : TDA} {ti : TDL} {x : Str} {F : DF} {tt : TDT} {kF : Nat}
variable (en : En Xs P w K mg base N k)
include en
/-! names -/
theorem v (i : Nat) (hN : N[i]? = some x := by rfl) (hv : ∀ j, Vis (Xs j).env.scope x := by intro _; first | exact Or.inl rfl | exact Or.inr (Or.inl rfl) | exact Or.inr (Or.inr rfl)) (hd : (x == ("__debug__" : Str)) = false := by decide) (hcd : (x == ("__classdict__" : Str)) = false := by decide) : DE Xs K E (.Name x pos) (dVar i) :=
  de_var i (fun j => by rw [en.hN j]; exact hN) hv hd hcd
theorem glb {vv : V} {u : Value} {d : D} (hm : mg x = some u) (r : RelV vv u) (rd : ∀ Z p H, Rep K Z p H d vv) (hg : ∀ i, Gl (Xs i) x := by intro _; rfl) (hd : (x == ("__debug__" : Str)) = false := by decide) : DE Xs K E (.Name x pos) (dC d) :=
  dglob (en.at hm) r rd hg hd
/-- what the module's name x holds -/
def GlV (mg : Str → Option Value) (x : Str) (vv : V) : Prop := ∃ u, mg x = some u ∧ RelV vv u
theorem gl {vv : V} {d : D} (h : GlV mg x vv) (rd : ∀ Z p H, Rep K Z p H d vv) (hg : ∀ i, Gl (Xs i) x := by intro _; rfl) (hd : (x == ("__debug__" : Str)) = false := by decide) : DE Xs K E (.Name x pos) (dC d) := by
  obtain ⟨u, hm, r⟩ := h
  exact dglob (en.at hm) r rd hg hd
/-! operators -/
theorem eAdd (ha : DE Xs K E a ta) (hb : DE Xs K E b tb) : DE Xs K E (.BinOp a .Add b pos) (dOp addD ta tb) := de_op (en.opK (r := rAdd) fun _ => or_add) od_add ha hb
omit en in
theorem eSub (ha : DE Xs K E a ta) (hb : DE Xs K E b tb) : DE Xs K E (.BinOp a .Sub b pos) (dOp subD ta tb) := de_op (fun _ => op_sub) od_sub ha hb
omit en in
theorem eMul (ha : DE Xs K E a ta) (hb : DE Xs K E b tb) : DE Xs K E (.BinOp a .Mult b pos) (dOp mulD ta tb) := de_op (fun _ => op_mul) od_mul ha hb
omit en in
theorem eMod (ha : DE Xs K E a ta) (hb : DE Xs K E b tb) : DE Xs K E (.BinOp a .Mod b pos) (dOp modD ta tb) := de_op (fun _ => op_mod) od_mod ha hb
omit en in
theorem ePow (ha : DE Xs K E a ta) (hb : DE Xs K E b tb) : DE Xs K E (.BinOp a .Pow b pos) (dOp powD ta tb) := de_op (fun _ => op_pow) od_pow ha hb
omit en in
theorem eNeg (ha : DE Xs K E a ta) : DE Xs K E (.UnaryOp .USub a pos) (dUn negD ta) := de_un (fun _ => un_neg) ud_neg ha
omit en in
theorem eLt (ha : DE Xs K E a ta) (hb : DE Xs K E b tb) : DE Xs K E (.Compare a [.Lt] [b] pos) (dOp ltD ta tb) := de_cmp (fun _ => op_lt) od_lt ha hb (nomark _)
omit en in
theorem eLe (ha : DE Xs K E a ta) (hb : DE Xs K E b tb) : DE Xs K E (.Compare a [.LtE] [b] pos) (dOp leD ta tb) := de_cmp (fun _ => op_le) od_le ha hb (nomark _)
omit en in
theorem eGt (ha : DE Xs K E a ta) (hb : DE Xs K E b tb) : DE Xs K E (.Compare a [.Gt] [b] pos) (dOp gtD ta tb) := de_cmp (fun _ => op_gt) od_gt ha hb (nomark _)
omit en in
theorem eGe (ha : DE Xs K E a ta) (hb : DE Xs K E b tb) : DE Xs K E (.Compare a [.GtE] [b] pos) (dOp geD ta tb) := de_cmp (fun _ => op_ge) od_ge ha hb (nomark _)
omit en in
theorem tLt (ha : DE Xs K E a ta) (hb : DE Xs K E b tb) : DT Xs K E (.Compare a [.Lt] [b] pos) (dTest (dOp ltD ta tb)) := dt_cmp (fun _ => op_lt) od_lt ha hb (nomark _)
omit en in
theorem tLe (ha : DE Xs K E a ta) (hb : DE Xs K E b tb) : DT Xs K E (.Compare a [.LtE] [b] pos) (dTest (dOp leD ta tb)) := dt_cmp (fun _ => op_le) od_le ha hb (nomark _)
omit en in
theorem tGt (ha : DE Xs K E a ta) (hb : DE Xs K E b tb) : DT Xs K E (.Compare a [.Gt] [b] pos) (dTest (dOp gtD ta tb)) := dt_cmp (fun _ => op_gt) od_gt ha hb (nomark _)
omit en in
theorem tGe (ha : DE Xs K E a ta) (hb : DE Xs K E b tb) : DT Xs K E (.Compare a [.GtE] [b] pos) (dTest (dOp geD ta tb)) := dt_cmp (fun _ => op_ge) od_ge ha hb (nomark _)
omit en in
theorem tLeLe (ha : DE Xs K E a ta) (hb : DE Xs K E b tb) (hc : DE Xs K E c tc) : DT Xs K E (.Compare a [.LtE, .LtE] [b, c] pos) (dTest (dChain leD leD ta tb tc)) := dt_chain (fun _ => op_le) od_le (fun _ => op_le) od_le ha hb hc (by show behindInMarks .LtE c = false; exact nomark _)
theorem eEq (ha : DE Xs K E a ta) (hb : DE Xs K E b tb) : DE Xs K E (.Compare a [.Eq] [b] pos) (dOp eqD ta tb) := de_cmp (en.opK (r := rEqD) fun i => op_eqD (en.u64 i)) od_eq ha hb (nomark _)
theorem eNe (ha : DE Xs K E a ta) (hb : DE Xs K E b tb) : DE Xs K E (.Compare a [.NotEq] [b] pos) (dOp neD ta tb) := de_cmp (en.opK (r := rNeD) fun i => op_neD (en.u64 i)) od_ne ha hb (nomark _)
theorem tEq (ha : DE Xs K E a ta) (hb : DE Xs K E b tb) : DT Xs K E (.Compare a [.Eq] [b] pos) (dTest (dOp eqD ta tb)) := dt_cmp (en.opK (r := rEqD) fun i => op_eqD (en.u64 i)) od_eq ha hb (nomark _)
theorem tNe (ha : DE Xs K E a ta) (hb : DE Xs K E b tb) : DT Xs K E (.Compare a [.NotEq] [b] pos) (dTest (dOp neD ta tb)) := dt_cmp (en.opK (r := rNeD) fun i => op_neD (en.u64 i)) od_ne ha hb (nomark _)
omit en in
theorem eIs (ha : DE Xs K E a ta) (hb : DE Xs K E b tb) : DE Xs K E (.Compare a [.Is] [b] pos) (dOp isND ta tb) := de_cmp (fun _ => op_isN) od_isN ha hb (nomark _)
omit en in
theorem tIs (ha : DE Xs K E a ta) (hb : DE Xs K E b tb) : DT Xs K E (.Compare a [.Is] [b] pos) (dTest (dOp isND ta tb)) := dt_cmp (fun _ => op_isN) od_isN ha hb (nomark _)
theorem eIn (ha : DE Xs K E a ta) (hb : DE Xs K E b tb) (hm : behindInMarks .In b = false := by with_unfolding_all rfl) : DE Xs K E (.Compare a [.In] [b] pos) (dOp inD ta tb) := de_cmp (en.opK (r := rInA) fun _ => or_in) od_in ha hb hm
theorem tIn (ha : DE Xs K E a ta) (hb : DE Xs K E b tb) (hm : behindInMarks .In b = false := by with_unfolding_all rfl) : DT Xs K E (.Compare a [.In] [b] pos) (dTest (dOp inD ta tb)) := dt_cmp (en.opK (r := rInA) fun _ => or_in) od_in ha hb hm
/-! built-ins -/
theorem eIsi {C : Addr} (I : Isi K C) (ha : DA Xs K E (e :: es) t) (hg : ∀ i, Gl (Xs i) "isinstance" := by intro _; rfl) (he : ∀ i, starEach (e :: es) (Xs i).env = (false, eval e (Xs i).env) :: starEach es (Xs i).env := by intro _; rfl) (hpl : ∀ i, (backTo pos (starEach es (Xs i).env)).any (·.1) = false := by intro _; rfl) :
    DE Xs K E (.Call (.Name "isinstance" q) (e :: es) [] pos) (dCl (isiD C) t) := de_callB (en.clK (r := rIsiY) fun _ => call_isiY) (cd_isi I) hg (en.no en.bt.isi) (by first | rfl | exact PySem.boot_isinstance) ha (by decide) (by decide) he hpl
theorem eLen (ha : DA Xs K E (e :: es) t) (hg : ∀ i, Gl (Xs i) "len" := by intro _; rfl) (he : ∀ i, starEach (e :: es) (Xs i).env = (false, eval e (Xs i).env) :: starEach es (Xs i).env := by intro _; rfl) (hpl : ∀ i, (backTo pos (starEach es (Xs i).env)).any (·.1) = false := by intro _; rfl) :
    DE Xs K E (.Call (.Name "len" q) (e :: es) [] pos) (dCl lenD t) := de_callB (en.clK (r := fun K xs H Q => ∃ x n, xs = [x] ∧ LenV K x H n ∧ Q (.int n) H) fun _ => call_len) cd_len hg (en.no en.bt.len) (by decide +kernel) ha (by decide) (by decide) he hpl
theorem eInt (ha : DA Xs K E (e :: es) t) (hg : ∀ i, Gl (Xs i) "int" := by intro _; rfl) (he : ∀ i, starEach (e :: es) (Xs i).env = (false, eval e (Xs i).env) :: starEach es (Xs i).env := by intro _; rfl) (hpl : ∀ i, (backTo pos (starEach es (Xs i).env)).any (·.1) = false := by intro _; rfl) :
    DE Xs K E (.Call (.Name "int" q) (e :: es) [] pos) (dCl int1D t) := de_callT (fun _ => call_int1) cd_int hg (en.no en.bt.int) (by decide +kernel) ha (by decide) (by decide) he hpl
theorem eMax (ha : DA Xs K E (e :: es) t) (hg : ∀ i, Gl (Xs i) "max" := by intro _; rfl) (he : ∀ i, starEach (e :: es) (Xs i).env = (false, eval e (Xs i).env) :: starEach es (Xs i).env := by intro _; rfl) (hpl : ∀ i, (backTo pos (starEach es (Xs i).env)).any (·.1) = false := by intro _; rfl) :
    DE Xs K E (.Call (.Name "max" q) (e :: es) [] pos) (dCl max2D t) := de_callB (fun i => call_max2 (en.hc i)) cd_max2 hg (en.no en.bt.max) (by decide +kernel) ha (by decide) (by decide) he hpl
theorem eMin (ha : DA Xs K E (e :: es) t) (hg : ∀ i, Gl (Xs i) "min" := by intro _; rfl) (he : ∀ i, starEach (e :: es) (Xs i).env = (false, eval e (Xs i).env) :: starEach es (Xs i).env := by intro _; rfl) (hpl : ∀ i, (backTo pos (starEach es (Xs i).env)).any (·.1) = false := by intro _; rfl) :
    DE Xs K E (.Call (.Name "min" q) (e :: es) [] pos) (dCl min2D t) := de_callB (fun i => call_min2 (en.hc i)) cd_min2 hg (en.no en.bt.min) (by decide +kernel) ha (by decide) (by decide) he hpl
theorem eAll (ha : DA Xs K E (e :: es) t) (hg : ∀ i, Gl (Xs i) "all" := by intro _; rfl) (he : ∀ i, starEach (e :: es) (Xs i).env = (false, eval e (Xs i).env) :: starEach es (Xs i).env := by intro _; rfl) (hpl : ∀ i, (backTo pos (starEach es (Xs i).env)).any (·.1) = false := by intro _; rfl) :
    DE Xs K E (.Call (.Name "all" q) (e :: es) [] pos) (dCl allD t) := de_callB (en.clK (r := rAll) fun i => cr_all (en.hc i)) cd_all hg (en.no en.bt.all) (by decide +kernel) ha (by decide) (by decide) he hpl
theorem eAny (ha : DA Xs K E (e :: es) t) (hg : ∀ i, Gl (Xs i) "any" := by intro _; rfl) (he : ∀ i, starEach (e :: es) (Xs i).env = (false, eval e (Xs i).env) :: starEach es (Xs i).env := by intro _; rfl) (hpl : ∀ i, (backTo pos (starEach es (Xs i).env)).any (·.1) = false := by intro _; rfl) :
    DE Xs K E (.Call (.Name "any" q) (e :: es) [] pos) (dCl anyD t) := de_callB (en.clK (r := rAny) fun i => cr_any (en.hc i)) cd_any hg (en.no en.bt.any) (by decide +kernel) ha (by decide) (by decide) he hpl
theorem eTuple (ha : DA Xs K E (e :: es) t) (hg : ∀ i, Gl (Xs i) "tuple" := by intro _; rfl) (he : ∀ i, starEach (e :: es) (Xs i).env = (false, eval e (Xs i).env) :: starEach es (Xs i).env := by intro _; rfl) (hpl : ∀ i, (backTo pos (starEach es (Xs i).env)).any (·.1) = false := by intro _; rfl) :
    DE Xs K E (.Call (.Name "tuple" q) (e :: es) [] pos) (dCl tupleD t) := de_callT (en.clK (r := fun K xs H Q => ∃ p ys, xs = [.ref p] ∧ ((SqL K H p ys ∧ ∀ l, H l = none → Q (.ref l) (upd H l (.tup ys))) ∨ (SqT K H p ys ∧ Q (.ref p) H))) fun _ => call_tuple_of) cd_tuple hg (en.no en.bt.tuple) (by decide +kernel) ha (by decide) (by decide) he hpl
theorem eList (ha : DA Xs K E (e :: es) t) (hg : ∀ i, Gl (Xs i) "list" := by intro _; rfl) (he : ∀ i, starEach (e :: es) (Xs i).env = (false, eval e (Xs i).env) :: starEach es (Xs i).env := by intro _; rfl) (hpl : ∀ i, (backTo pos (starEach es (Xs i).env)).any (·.1) = false := by intro _; rfl) :
    DE Xs K E (.Call (.Name "list" q) (e :: es) [] pos) (dCl listD t) := de_callT (en.clK (r := fun K xs H Q => ∃ p ys, xs = [.ref p] ∧ (SqL K H p ys ∨ SqT K H p ys) ∧ ∀ l, H l = none → Q (.ref l) (upd H l (.lst ys))) fun _ => call_list_of) cd_list hg (en.no en.bt.list) (by decide +kernel) ha (by decide) (by decide) he hpl
theorem ty_int (hg : ∀ i, Gl (Xs i) "int" := by intro _; rfl) : DE Xs K E (.Name "int" pos) (dC (.ty "int")) := dty (en.no en.bt.int) (by decide +kernel) hg
theorem ty_bool (hg : ∀ i, Gl (Xs i) "bool" := by intro _; rfl) : DE Xs K E (.Name "bool" pos) (dC (.ty "bool")) := dty (en.no en.bt.bool) (by decide +kernel) hg
theorem ty_str (hg : ∀ i, Gl (Xs i) "str" := by intro _; rfl) : DE Xs K E (.Name "str" pos) (dC (.ty "str")) := dty (en.no en.bt.str) (by decide +kernel) hg
theorem ty_tuple (hg : ∀ i, Gl (Xs i) "tuple" := by intro _; rfl) : DE Xs K E (.Name "tuple" pos) (dC (.ty "tuple")) := dty (en.no en.bt.tuple) (by decide +kernel) hg
theorem ty_list (hg : ∀ i, Gl (Xs i) "list" := by intro _; rfl) : DE Xs K E (.Name "list" pos) (dC (.ty "list")) := dty (en.no en.bt.list) (by decide +kernel) hg
theorem ty_dict (hg : ∀ i, Gl (Xs i) "dict" := by intro _; rfl) : DE Xs K E (.Name "dict" pos) (dC (.ty "dict")) := dty (en.no en.bt.dict) (by decide +kernel) hg
/-! subscripts, slices -/
theorem eIx (ha : DE Xs K E a ta) (hb : DE Xs K E b tb) (hs : PlainIx b := by intro _ _; rfl) : DE Xs K E (.Subscript a b pos) (dOp ixD ta tb) := de_ix (fun i => by have := ix_seq (X := Xs i); rw [en.hK i] at this; exact this) od_ix ha hb hs
theorem eSlice {lo hi : Option Expr} {tl th : TDO} (he : DE Xs K E e te) (hl : DOp Xs K E lo tl) (hh : DOp Xs K E hi th) : DE Xs K E (.Subscript e (.Slice lo hi none p2) pos) (dSlice te tl th) := de_slice en.hK he hl hh
theorem eRev {k' : Nat} {p3 : Pos} (he : DE Xs K E e te) : DE Xs K E (.Subscript e (.Slice none none (some (.UnaryOp .USub (.Constant (.int 1) k' p1) p2)) p3) pos) (dRev te) := de_rev en.hK he
/-! calls of defs, makers, own operators -/
theorem call (h : Fn1 P w K mg base K x kF F) (ha : DA Xs K E0 (e :: es) t) (hk : kF ≤ k := by decide) (hg : ∀ i, Gl (Xs i) x := by intro _; rfl) (hdb : (x == ("__debug__" : Str)) = false := by decide)
    (he : ∀ i, starEach (e :: es) (Xs i).env = (false, eval e (Xs i).env) :: starEach es (Xs i).env := by intro _; rfl) (hpl : ∀ i, (backTo pos (starEach es (Xs i).env)).any (·.1) = false := by intro _; rfl) :
    DE Xs K E0 (.Call (.Name x q) (e :: es) [] pos) (dCall F [] t) := dcall (fun i => by rw [en.hP i, en.hw i, en.hK i, en.hm i, en.hb i]; exact h) (fun i => (en.hr i).mono hk) ha hg hdb he hpl
/-- a maker's facts -/
def Mk1 (P : Program) (w : World) (K : PySem.W.Frag) (mg : Str → Option Value) (base : Heap) (x : Str) (C : Addr) (k : Nat) (F : DF) : Prop :=
  ∃ f fd ps, Mk K C f ∧ FnOk P w K mg base CX0 k f fd ps (spMk K C F) ∧ mg x = some (.ref C) ∧ Binds K fd ps []
theorem make {C : Addr} (h : Mk1 P w K mg base x C kF F) (ha : DA Xs K E0 (e :: es) t) (hk : kF + 1 ≤ k := by decide) (hg : ∀ i, Gl (Xs i) x := by intro _; rfl) (hdb : (x == ("__debug__" : Str)) = false := by decide)
    (he : ∀ i, starEach (e :: es) (Xs i).env = (false, eval e (Xs i).env) :: starEach es (Xs i).env := by intro _; rfl) (hpl : ∀ i, (backTo pos (starEach es (Xs i).env)).any (·.1) = false := by intro _; rfl) :
    DE Xs K E0 (.Call (.Name x q) (e :: es) [] pos) (dMake F t) := by
  obtain ⟨f, fd, ps, M, G, hm, hb⟩ := h
  exact de_make (C := C) (f := f) (fd := fd) (ps := ps) (fun i => by rw [en.hK i]; exact M) (fun i => by rw [en.hP i, en.hw i, en.hK i, en.hm i, en.hb i]; exact G) (fun i => (en.hr i).mono hk) (en.at hm) (fun i => by rw [en.hK i]; exact hb) ha hg hdb he hpl
/-- a method's facts, the def forgotten -/
def Ow1 (P : Program) (w : World) (K : PySem.W.Frag) (mg : Str → Option Value) (base : Heap) (C : Addr) (m : Str) (k : Nat) (F : DF) : Prop :=
  ∃ f fd ps, OwnM P w K mg base K C m k F f fd ps
theorem En.own {C f : Addr} {fd : FuncData} {ps : List Str} {m : Str} (h : OwnM P w K mg base K C m kF F f fd ps) : ∀ i, OwnM (Xs i).prog (Xs i).w (Xs i).K (Xs i).mg (Xs i).base K C m kF F f fd ps := fun i => by
  rw [en.hP i, en.hw i, en.hK i, en.hm i, en.hb i]; exact h
theorem ownOp {C : Addr} {op : Operator} (h : Ow1 P w K mg base C (PySem.dunder op.info.2) kF F) (ha : DE Xs K E0 a ta) (hb : DE Xs K E0 b tb) (hk : kF ≤ k := by decide) : DE Xs K E0 (.BinOp a op b pos) (dOwn2 C F ta tb) := by
  obtain ⟨f, fd, ps, M⟩ := h
  exact de_opOwn (en.own M) (fun i => (en.hr i).mono hk) ha hb
theorem ownCmp {C : Addr} {op : CmpOp} (h : Ow1 P w K mg base C (cmpInfo op).2.1 kF F) (ha : DE Xs K E0 a ta) (hb : DE Xs K E0 b tb) (hop : ∀ a b, compareOp op a b = richCompare op a b := by intro _ _; rfl) (hk : kF ≤ k := by decide) (h1 : op ≠ .In := by decide) (h2 : op ≠ .NotIn := by decide) : DE Xs K E0 (.Compare a [op] [b] pos) (dOwn2 C F ta tb) := by
  obtain ⟨f, fd, ps, M⟩ := h
  exact de_cmpOwn hop (en.own M) (fun i => (en.hr i).mono hk) ha hb (nomark _ h1 h2)
theorem ownIx {C : Addr} (h : Ow1 P w K mg base C "__getitem__" kF F) (ha : DE Xs K E0 a ta) (hb : DE Xs K E0 b tb) (hsl : ∀ o i, subscripted b true o i = runValue (.builtin "lifetime.subscript" ⟨[o, i], []⟩) := by intro _ _; rfl) (hk : kF + 1 ≤ k := by decide) : DE Xs K E0 (.Subscript a b pos) (dOwnIx C F ta tb) := by
  obtain ⟨f, fd, ps, M⟩ := h
  exact de_ixOwn (en.own M) (fun i => (en.hr i).mono hk) ha hb hsl
theorem fld {f : Str} {C : Addr} (hC : Cls K C) (hA : NoAttr K C f) (ha : DE Xs K E a ta) (hb : ∀ i, attributeBase a f (Xs i).env (eval a (Xs i).env) = eval a (Xs i).env := by intro _; rfl) : DE Xs K E (.Attribute a f pos) (dFld C f ta) := de_fld en.hK hC hA ha hb
/-! sets, dicts -/
theorem sortS (ha : DE Xs K E a ta) (hg : ∀ i, Gl (Xs i) "sorted" := by intro _; rfl) (hg2 : ∀ i, Gl (Xs i) "set" := by intro _; rfl) (na : ∀ i, starEach [a] (Xs i).env = (false, eval a (Xs i).env) :: starEach [] (Xs i).env := by intro _; rfl) :
    DE Xs K E (.Call (.Name "sorted" p1) [.Call (.Name "set" p2) [a] [] q] [] pos) (dSortS ta) := de_sortS en.hK en.hc en.u64 (en.no en.bt.sorted) (en.no en.bt.set) ha hg hg2 na
theorem sortP (ha : DE Xs K E a ta) (hg : ∀ i, Gl (Xs i) "sorted" := by intro _; rfl) (hg2 : ∀ i, Gl (Xs i) "set" := by intro _; rfl) (na : ∀ i, starEach [a] (Xs i).env = (false, eval a (Xs i).env) :: starEach [] (Xs i).env := by intro _; rfl) :
    DE Xs K E (.Call (.Name "sorted" p1) [.Call (.Name "set" p2) [a] [] q] [] pos) (dSortP ta) := de_sortP en.hK en.hc en.u64 (en.no en.bt.sorted) (en.no en.bt.set) ha hg hg2 na
theorem lenS (ha : DE Xs K E a ta) (hg : ∀ i, Gl (Xs i) "len" := by intro _; rfl) (hg2 : ∀ i, Gl (Xs i) "set" := by intro _; rfl) (na : ∀ i, starEach [a] (Xs i).env = (false, eval a (Xs i).env) :: starEach [] (Xs i).env := by intro _; rfl) :
    DE Xs K E (.Call (.Name "len" p1) [.Call (.Name "set" p2) [a] [] q] [] pos) (dLenS ta) := de_lenS en.hK en.hc en.u64 (en.no en.bt.len) (en.no en.bt.set) ha hg hg2 na
theorem join {z : Str} {jz : Nat} {pz : Pos} (he : DE Xs K E e te) (hs : ∀ i, starEach [e] (Xs i).env = [(false, eval e (Xs i).env)] := by intro _; rfl) (hline : (apos.endLine == pos.line) = true := by rfl) :
    DE Xs K E (.Call (.Attribute (.Constant (.str z) jz pz) "join" apos) [e] [] pos) (dJoin (dC (.str z)) te) := de_join en.hK he hs hline
theorem mkDict (ha : DA Xs K E [e] t) (hg : ∀ i, Gl (Xs i) "dict" := by intro _; rfl) (he : ∀ i, starEach [e] (Xs i).env = (false, eval e (Xs i).env) :: starEach [] (Xs i).env := by intro _; rfl) : DE Xs K E (.Call (.Name "dict" q) [e] [] pos) (dDict t) := de_dict en.hK en.hc (en.no en.bt.dict) ha hg he
theorem get2 (ho : DE Xs K E o to) (he : DE Xs K E a tk) (hf : DE Xs K E b tx) (m : ∀ i, M2 (Xs i) o "get" apos a b cpos := by intro _; exact ⟨rfl, rfl, rfl, rfl⟩) : DE Xs K E (.Call (.Attribute o "get" apos) [a, b] [] cpos) (dGet2 to tk tx) := de_get2 en.u1 ho he hf m
theorem listIt (ho : DE Xs K E o to) (hg : ∀ i, Gl (Xs i) "list" := by intro _; rfl) (hbase : ∀ i, attributeBase o "items" (Xs i).env (eval o (Xs i).env) = eval o (Xs i).env := by intro _; rfl) (hline : (apos.endLine == cpos.line) = true := by rfl)
    (hs : ∀ i, starEach [.Call (.Attribute o "items" apos) [] [] cpos] (Xs i).env = (false, eval (.Call (.Attribute o "items" apos) [] [] cpos) (Xs i).env) :: starEach [] (Xs i).env := by intro _; rfl) :
    DE Xs K E (.Call (.Name "list" q) [.Call (.Attribute o "items" apos) [] [] cpos] [] pos) (dListIt to) := de_listItems en.hc (en.no en.bt.list) ho hg hbase hline hs
/-! walks -/
theorem inL (h : DE Xs K E e te) : DI Xs K E tg e (dSeqL te) := di_list en.hK h
theorem inT (h : DE Xs K E e te) : DI Xs K E tg e (dSeqT te) := di_tup en.hK h
omit en in
theorem inS (h : DE Xs K E e te) : DI Xs K E tg e (dSigns te) := di_str h
theorem inR (ha : DA Xs K E [a] t) (hg : ∀ i, Gl (Xs i) "range" := by intro _; rfl) (hs : ∀ i, starEach [a] (Xs i).env = [(false, eval a (Xs i).env)] := by intro _; rfl) : DI Xs K E tg (.Call (.Name "range" q) [a] [] pos) (dRange t) := di_range (en.no en.bt.range) ha hg hs
/-! targets, statements -/
theorem nm (i : Nat) (hi : N[i]? = some x := by rfl) (hx : ∀ j, Loc (Xs j).env.scope x := by intro _; first | exact Or.inl rfl | exact Or.inr rfl) (hf : ∀ j, (Xs j).fn x = true ∨ (Xs j).env.scope.names.lookup x = some .local := by intro _; first | exact Or.inr rfl | exact Or.inl rfl) : DG Xs K (.Name x pos) [i] (gN i) :=
  dg_name en.nd' (fun j => by rw [en.hN j]; exact hi) hx hf
theorem nms (kk : Nat) {j : Nat} {tgs : List Expr} {ts : List Nat} {fs : List D → DSt → Option DSt} (h : DGs Xs K tgs ts fs) (hn : ∀ i, (assignEach tgs (Xs i).env).length = kk := by intro _; rfl) (hst : ∀ i, (assignEach tgs (Xs i).env).findIdx? (·.1) = none := by intro _; rfl) : DG Xs K (.Tuple tgs j pos) ts (gT kk fs) := dg_tup en.hK en.hc h hn hst
theorem set (i : Nat) {pos' : Pos} (he : DE Xs K E e te) (hi : N[i]? = some x := by rfl) (hx : ∀ j, Loc (Xs j).env.scope x := by intro _; first | exact Or.inl rfl | exact Or.inr rfl) (hf : ∀ j, (Xs j).fn x = true ∨ (Xs j).env.scope.names.lookup x = some .local := by intro _; first | exact Or.inr rfl | exact Or.inl rfl)
    (hs : ∀ j, swapsWith e (some (.Name x pos')) pos.line (Xs j).env = pure false := by intro _; rfl) : DS Xs K E (.Assign [.Name x pos'] e pos) (dAsg te (gN i)) := ds_set en.nd' (fun j => by rw [en.hN j]; exact hi) hx hf he hs
theorem par (i j : Nat) {y : Str} {px py pt : Pos} {kt k2 pt2} (ha : DA Xs K E [a, b] t) (hij : i ≠ j := by decide) (hi : N[i]? = some x := by rfl) (hj : N[j]? = some y := by rfl) (hx : ∀ k, (Xs k).env.scope.names.lookup x = some .local := by intro _; rfl) (hy : ∀ k, (Xs k).env.scope.names.lookup y = some .local := by intro _; rfl)
    (hw : ∀ k, swappedStores [.Tuple [.Name x px, .Name y py] kt pt] (.Tuple [a, b] k2 pt2) (Xs k).env = pure (some [x, y]) := by intro _; rfl)
    (hs : ∀ k, swapsWithSole [.Tuple [.Name x px, .Name y py] kt pt] (.Tuple [a, b] k2 pt2) pos.line (Xs k).env = pure false := by intro _; rfl) : DS Xs K E (.Assign [.Tuple [.Name x px, .Name y py] kt pt] (.Tuple [a, b] k2 pt2) pos) (dPar i j t) :=
  ds_par en.hc en.nd' (fun j => by rw [en.hN j]; exact hi) (fun i => by rw [en.hN i]; exact hj) hij hx hy ha hw hs
theorem parD (i j : Nat) {y : Str} {px py pt pd : Pos} {kt k2 pt2} (he : DE Xs K E e te) (hij : i ≠ j := by decide) (hi : N[i]? = some x := by rfl) (hj : N[j]? = some y := by rfl) (hx : ∀ k, (Xs k).env.scope.names.lookup x = some .local := by intro _; rfl) (hy : ∀ k, (Xs k).env.scope.names.lookup y = some .local := by intro _; rfl)
    (hw : ∀ k, swappedStores [.Tuple [.Name x px, .Name y py] kt pt] (.Tuple [e, .Dict [] [] pd] k2 pt2) (Xs k).env = pure (some [x, y]) := by intro _; rfl)
    (hst : ∀ i, starEach [e, .Dict [] [] pd] (Xs i).env = (false, eval e (Xs i).env) :: starEach [.Dict [] [] pd] (Xs i).env := by intro _; rfl)
    (hs : ∀ k, swapsWithSole [.Tuple [.Name x px, .Name y py] kt pt] (.Tuple [e, .Dict [] [] pd] k2 pt2) pos.line (Xs k).env = pure false := by intro _; rfl) : DS Xs K E (.Assign [.Tuple [.Name x px, .Name y py] kt pt] (.Tuple [e, .Dict [] [] pd] k2 pt2) pos) (dParD i j te) :=
  ds_parD en.hc en.nd' (fun j => by rw [en.hN j]; exact hi) (fun i => by rw [en.hN i]; exact hj) hij hx hy he hw hst hs
/-- a, b, c = x, y, z -/
def dPar3 (i j l : Nat) (t : TDA) : TDS := fun De ρ n x => t ρ n (fun ds n1 => ∃ d1 d2 d3, ds = [d1, d2, d3] ∧ De.nx (((ρ.set i (some (.val d1))).set j (some (.val d2))).set l (some (.val d3))) n1) x
theorem par3 (i j l : Nat) {y z : Str} {px py pz pt : Pos} {kt k2 pt2} (ha : DA Xs K E [a, b, c] t) (hij : i ≠ j := by decide) (hil : i ≠ l := by decide) (hjl : j ≠ l := by decide) (hi : N[i]? = some x := by rfl) (hj : N[j]? = some y := by rfl) (hl : N[l]? = some z := by rfl) (hx : ∀ k, (Xs k).env.scope.names.lookup x = some .local := by intro _; rfl) (hy : ∀ k, (Xs k).env.scope.names.lookup y = some .local := by intro _; rfl) (hz : ∀ k, (Xs k).env.scope.names.lookup z = some .local := by intro _; rfl)
    (hw : ∀ k, swappedStores [.Tuple [.Name x px, .Name y py, .Name z pz] kt pt] (.Tuple [a, b, c] k2 pt2) (Xs k).env = pure (some [x, y, z]) := by intro _; rfl)
    (hs : ∀ k, swapsWithSole [.Tuple [.Name x px, .Name y py, .Name z pz] kt pt] (.Tuple [a, b, c] k2 pt2) pos.line (Xs k).env = pure false := by intro _; rfl) : DS Xs K E (.Assign [.Tuple [.Name x px, .Name y py, .Name z pz] kt pt] (.Tuple [a, b, c] k2 pt2) pos) (dPar3 i j l t) := by
  obtain ⟨v, p, h⟩ := ha
  refine ⟨tPar3 i j l v, fun k => ps_par3 (en.hc k) (en.nd' k) (by rw [en.hN k]; exact hi) (by rw [en.hN k]; exact hj) (by rw [en.hN k]; exact hl) hij hil hjl (hx k) (hy k) (hz k) (p k) (hw k) (hs k), fun {p H0 Z0 ρ n Z σ H x De Dv} w x hh qn qr qb qc => h w x hh fun vs H1 ds n1 w1 k1 r1 ⟨d1, d2, d3, e1, h1⟩ => ?_⟩
  subst e1
  obtain ⟨v1, r, e1, ra, v2, r', e2, rb, v3, r'', e3, rc, e4⟩ := r1
  have e4 : r'' = [] := e4
  subst e4 e3 e2 e1
  exact ⟨v1, v2, v3, rfl, qn _ n1 Z _ H1 (((w1.set i ra).set j rb).set l rc) (w.mv k1) h1⟩
theorem put (j : Nat) {y : Str} {py pos' : Pos} (hk : DE Xs K E a tk) (he : DE Xs K E e te) (hN : N[j]? = some y := by rfl) (hv : ∀ k, Vis (Xs k).env.scope y := by intro _; first | exact Or.inl rfl | exact Or.inr (Or.inl rfl) | exact Or.inr (Or.inr rfl)) (hs : ∀ i, swapsWith e (some (.Subscript (.Name y py) a pos')) pos.line (Xs i).env = pure false := by intro _; rfl)
    (hd : (y == ("__debug__" : Str)) = false := by decide) (hcd : (y == ("__classdict__" : Str)) = false := by decide) : DS Xs K E (.Assign [.Subscript (.Name y py) a pos'] e pos) (dPut j tk te) := ds_put en.u1 (fun k => by rw [en.hN k]; exact hN) hv hk he hs hd hcd
theorem retD (j : Nat) {y : Str} {py : Pos} (hN : N[j]? = some y := by rfl) (hv : ∀ k, Vis (Xs k).env.scope y := by intro _; first | exact Or.inl rfl | exact Or.inr (Or.inl rfl) | exact Or.inr (Or.inr rfl)) (hd : (y == ("__debug__" : Str)) = false := by decide) (hcd : (y == ("__classdict__" : Str)) = false := by decide) : DS Xs K E (.Return (some (.Name y py)) pos) (dRetD j) := ds_retD (fun k => by rw [en.hN k]; exact hN) hv hd hcd
theorem forIn {ts : List Nat} {f : TDG} {tb : TDS} {body : List Stmt} (hi : DI Xs K E0 tg iter ti) (hg : DG Xs K tg ts f) (hb : DSs Xs K E0 body tb) (hp : ∀ i, PassesOwn (model (Xs i).prog (Xs i).w) (Xs i).A (Xs i).env (Xs i).xe := by intro _; exact PassesOwn.never) (hs : ∀ i x, foldedSetIterable iter (Xs i).env x = pure x := by intro _ _; rfl) : DS Xs K E0 (.For tg iter body [] pos) (dFor ti f tb) := ds_for hp en.hc hi hg hb hs
theorem lc {elt : Expr} {ifs : List Expr} {scope : Scope} (sc : Scope) (own : List (Str × Nat)) {ts : List Nat} {f : TDG} (hi : DI Xs K E tg iter ti) (hg : DG (blkF Xs scope) K tg ts f) (ht : DTs (blkF Xs scope) K E0 ifs tt) (he : DE (blkF Xs scope) K E0 elt te) (hsc : ∀ i, (Xs i).env.scope = sc := by intro _; rfl) (ok : BlkOk N sc scope own := by exact blkOk_by (by decide +kernel)) (hts : ∀ i ∈ ts, i ∈ own.map (·.2) := by decide)
    (hs : ∀ i x, foldedSetIterable iter (Xs i).env x = pure x := by intro _ _; rfl) : DE Xs K E (.ListComp elt [⟨tg, iter, ifs, 0⟩] scope pos) (dLc ti f tt te (own.map (·.2))) := de_lc en.hc en.nd' hi (fun i => by rw [en.hN i, hsc i]; exact ok) hg ht he hts hs
theorem setLc (i : Nat) {y : Str} {py : Pos} {elt : Expr} {ifs : List Expr} {scope : Scope} (sc : Scope) (own : List (Str × Nat)) {spos : Pos} {ts : List Nat} {f : TDG} (hi : DI Xs K E tg iter ti) (hg : DG (blkF Xs scope) K tg ts f) (ht : DTs (blkF Xs scope) K E0 ifs tt) (he : DE (blkF Xs scope) K E0 elt te) (hy : N[i]? = some y := by rfl) (hyl : ∀ j, (Xs j).env.scope.names.lookup y = some .local := by intro _; rfl)
    (hsw : ∀ j, swapsWith (.ListComp elt [⟨tg, iter, ifs, 0⟩] scope pos) (some (.Name y py)) spos.line (Xs j).env = pure true := by intro _; rfl) (hsc : ∀ i, (Xs i).env.scope = sc := by intro _; rfl) (ok : BlkOk N sc scope own := by exact blkOk_by (by decide +kernel)) (hts : ∀ i ∈ ts, i ∈ own.map (·.2) := by decide)
    (hs : ∀ i x, foldedSetIterable iter (Xs i).env x = pure x := by intro _ _; rfl) : DS Xs K E (.Assign [.Name y py] (.ListComp elt [⟨tg, iter, ifs, 0⟩] scope pos) spos) (dAsg (dLc ti f tt te (own.map (·.2))) (gN i)) := ds_setLc en.hc en.nd' (fun j => by rw [en.hN j]; exact hy) hyl hsw hi (fun i => by rw [en.hN i, hsc i]; exact ok) hg ht he hts hs
end
end DL
set_option Elab.async false
set_option linter.all false
set_option maxRecDepth 100000
set_option maxHeartbeats 1000000
set_option autoImplicit false
/-! DL: a dict's items copied; != of own objects; op=; a def from its derivation. -/
namespace DL
open PySem L2
section
variable {ι : Type} {Xs : ι → Cx} {P : Program} {w : World} {K : PySem.W.Frag} {mg : Str → Option Value} {base : Heap} {N : List Str} {k : Nat}
variable {E : XK} {pos q p1 p2 apos cpos : Pos} {tg a b c e o iter : Expr} {es : List Expr} {ta tb tc te to tk tx : TD} {t : TDA} {ti : TDL} {x : Str} {F : DF} {tt : TDT} {kF : Nat}
/-! [(s, n) for s, n in d.items()] -/
def dLcIt (i j1 j2 : Nat) : TD := fun ρ n Q _ => ∃ l, ρ[i]? = some (some (.val (.dct l))) ∧ j1 < ρ.length ∧ j2 < ρ.length ∧ l.length ≤ most ∧ Q (.lst (l.map itemD)) n
theorem paired_snoc {α β : Type} {R : α → β → Prop} : ∀ {l : List α} {m : List β} {a : α} {b : β}, Paired R l m → R a b → Paired R (l ++ [a]) (m ++ [b])
  | _, _, _, _, .nil, h => .cons h .nil
  | _, _, _, _, .cons h r, h2 => .cons h (paired_snoc r h2)
theorem wipe_set {σ : St} {i : Nat} {u : Option V} {vs : List Nat} (h : i ∈ vs) : wipe (σ.set i u) vs = wipe σ vs := by
  refine List.ext_getElem? fun j => ?_
  rw [wipe_at, wipe_at, List.length_set]
  by_cases hj : j ∈ vs ∧ j < σ.length
  · rw [if_pos hj, if_pos hj]
  · rw [if_neg hj, if_neg hj]
    by_cases e : i = j
    · subst e
      rw [List.getElem?_eq_none (by rw [List.length_set]; exact Nat.le_of_not_lt fun z => hj ⟨h, z⟩), List.getElem?_eq_none (Nat.le_of_not_lt fun z => hj ⟨h, z⟩)]
    · rw [List.getElem?_set_ne e]
theorem ev_lcIt {i j1 j2 : Nat} {vs : List Nat} (h1 : j1 ∈ vs) (h2 : j2 ∈ vs) (hne : j1 ≠ j2) :
    EvD K E (tLockE (tLc (iItems (tVar i)) (gTup K 2 (gCons (gName j1) (gCons (gName j2) gNil))) tYes (tTup (tCons (tVar j1) (tCons (tVar j2) tNil))) vs)) (dLcIt i j1 j2) := by
  intro p H0 Z0 ρ n Z σ H x Q Qv w hx hh q
  obtain ⟨l, el, hj1, hj2, hl, hq⟩ := hh
  obtain ⟨v, ev, d, kvs, evd, ⟨zd, hd⟩, rk⟩ := w.val el
  subst evd
  have hlen := rk.len
  refine ⟨d, .dK kvs, hd, trivial, fun od => ⟨.ref d, ev, d, od, kvs, rfl, upd_same, fun D hD => ?_⟩⟩
  have nDd : D ≠ d := fun e => by rw [e, upd_same] at hD; cases hD
  have hDn : H D = none := by rwa [upd_ne nDd] at hD
  have hdp : d ≠ p := fun e => zd (by rw [e]; exact w.zpp)
  let R : Hp → Addr → Key × V → Prop := fun H' t kv => H t = none ∧ t ≠ D ∧ t ≠ d ∧ H' t = some (.tup [kV kv.1, kv.2])
  refine ⟨fun i m H' => m = kvs.length - i ∧ i ≤ kvs.length ∧ ∃ ts : List Addr, ts.length = i ∧ H' D = some (.lst (ts.map V.ref)) ∧ H' d = some (.frz od (.dK kvs)) ∧ (∀ a o, a ≠ d → H a = some o → H' a = some o) ∧ Paired (R H') ts (kvs.take i),
    ⟨_, rfl, Nat.zero_le _, [], rfl, upd_same, by rw [upd_ne (Ne.symm nDd), upd_same], fun a o na h => by rw [upd_ne (ne_of_none h hDn), upd_ne na]; exact h, .nil⟩, ?_⟩
  rintro i m H' ⟨rfl, hi, ts, htl, hD', hd', keep, pr⟩
  by_cases hlt : i < kvs.length
  · refine .inr ⟨⟨hd', hlt⟩, fun H2 => ∃ ts : List Addr, ts.length = i + 1 ∧ H2 D = some (.lst (ts.map V.ref)) ∧ H2 d = some (.frz od (.dK kvs)) ∧ (∀ a o, a ≠ d → H a = some o → H2 a = some o) ∧ Paired (R H2) ts (kvs.take (i + 1)), fun H2 h2 => ⟨_, by omega, rfl, hlt, h2⟩, ?_⟩
    rintro y H2 ⟨T, kk, vv, ek, rfl, nT, rfl⟩
    have hσ : σ.length = ρ.length := w.len
    refine ⟨T, [kV kk, vv], rfl, .inl (.inl upd_same), rfl, kV kk, [vv], rfl, vv, [], rfl, rfl, ?_, ?_⟩
    · rw [wipe_set h2, wipe_set h1, wipe_wipe]
    · dsimp only [tYes]
      rw [if_pos rfl]
      have l1 : j1 < (wipe σ vs).length := by rw [wipe_length, hσ]; exact hj1
      have l2 : j2 < (wipe σ vs).length := by rw [wipe_length, hσ]; exact hj2
      refine ⟨kV kk, ?_, vv, ?_, by show 2 ≤ sizeLine; decide, fun T2 nT2 => ?_⟩
      · rw [List.getElem?_set_ne (Ne.symm hne), List.getElem?_set_self l1]
      · rw [List.getElem?_set_self (by rw [List.length_set]; exact l2)]
      · have nT2T : T2 ≠ T := fun e => by rw [e, upd_same] at nT2; cases nT2
        have nT2' : H' T2 = none := by rwa [upd_ne nT2T] at nT2
        have nT2D : T2 ≠ D := fun e => by rw [e, hD'] at nT2'; cases nT2'
        have nT2d : T2 ≠ d := fun e => by rw [e, hd'] at nT2'; cases nT2'
        have nTD : T ≠ D := fun e => by rw [e, hD'] at nT; cases nT
        have nTd : T ≠ d := fun e => by rw [e, hd'] at nT; cases nT
        have fr : ∀ {t : Addr}, H' t = none → H t = none ∨ t = d := fun {t} ht => by
          by_cases e : t = d
          · exact .inr e
          · left
            cases h : H t with
            | none => rfl
            | some o => rw [keep t o e h] at ht; cases ht
        have hT2 : H T2 = none := (fr nT2').resolve_right nT2d
        refine ⟨ts.map V.ref, by rw [upd_ne (Ne.symm nT2D), upd_ne (Ne.symm nTD)]; exact hD', ?_, ts ++ [T2], by rw [List.length_append, htl]; rfl, by rw [upd_same, List.map_append]; rfl, ?_, fun a o na h => ?_, ?_⟩
        · rw [List.length_map, htl]
          exact most_lt (by omega)
        · rw [upd_ne (Ne.symm nDd), upd_ne (Ne.symm nT2d), upd_ne (Ne.symm nTd)]; exact hd'
        · have h3 := keep a o na h
          rw [upd_ne (ne_of_none h hDn), upd_ne (ne_of_none h3 nT2'), upd_ne (ne_of_none h3 nT)]
          exact h3
        · rw [List.take_add_one, ek]
          refine paired_snoc (Paired.mono (fun t kv r => ⟨r.1, r.2.1, r.2.2.1, by rw [upd_ne r.2.1, upd_ne (ne_of_none r.2.2.2 nT2'), upd_ne (ne_of_none r.2.2.2 nT)]; exact r.2.2.2⟩) pr) ⟨hT2, nT2D, nT2d, by rw [upd_ne nT2D, upd_same]⟩
  · have ei : i = kvs.length := by omega
    subst ei
    refine .inl ⟨⟨hd', Nat.le_refl _⟩, hd', ?_⟩
    have kk : Kp p H (upd H' d (.dK kvs)) := fun a o na h => by
      by_cases e : a = d
      · subst e; rw [upd_same]; rw [hd] at h; exact h
      · rw [upd_ne e]; exact keep a o e h
    have hpot : PotAt (upd H' d (.dK kvs)) p n := by
      obtain ⟨oo, s, cc, hp, r⟩ := w.pot
      exact ⟨oo, s, cc, by rw [upd_ne (Ne.symm hdp)]; exact keep p _ (Ne.symm hdp) hp, r⟩
    have w2 := w.kp kk hpot
    refine q _ _ (.lst (l.map itemD)) n w2 kk ⟨D, ts.map V.ref, rfl, ⟨w.notin hDn, by rw [upd_ne nDd]; exact hD'⟩, ?_⟩ hq
    rw [List.take_length] at pr
    exact reps_of_items (rk.mv (w.mv kk)) (Paired.mono (fun t kv ⟨r1, r2, r3, r4⟩ => ⟨w.notin r1, by rw [upd_ne r3]; exact r4⟩) pr)
theorem lcItems (en : En Xs P w K mg base N k) (sc : Scope) (i j1 j2 : Nat) {x y z : Str} {px py pz py' pz' pt pt' : Pos} {kt kt' : Nat} {scope : Scope} (hx : N[i]? = some x := by rfl) (h1 : N[j1]? = some y := by rfl) (h2 : N[j2]? = some z := by rfl) (hne : j1 ≠ j2 := by decide)
    (hv : ∀ j, Vis (Xs j).env.scope x := by intro _; first | exact Or.inl rfl | exact Or.inr (Or.inl rfl) | exact Or.inr (Or.inr rfl))
    (hbase : ∀ i, attributeBase (.Name x px) "items" (Xs i).env (eval (.Name x px) (Xs i).env) = eval (.Name x px) (Xs i).env := by intro _; rfl) (hline : (apos.endLine == cpos.line) = true := by rfl)
    (hsc : ∀ i, (Xs i).env.scope = sc := by intro _; rfl) (ok : BlkOk N sc scope [(y, j1), (z, j2)] := by exact blkOk_by (by decide +kernel))
    (hgN : ∀ j : ι × Shared × Hp × Addr × List (Str × Addr) × List Addr, (Loc (blkF Xs scope j).env.scope y ∧ ((blkF Xs scope j).fn y = true ∨ (blkF Xs scope j).env.scope.names.lookup y = some .local)) ∧ (Loc (blkF Xs scope j).env.scope z ∧ ((blkF Xs scope j).fn z = true ∨ (blkF Xs scope j).env.scope.names.lookup z = some .local)) := by intro _; exact ⟨⟨by first | exact Or.inl rfl | exact Or.inr rfl, by first | exact Or.inr rfl | exact Or.inl rfl⟩, by first | exact Or.inl rfl | exact Or.inr rfl, by first | exact Or.inr rfl | exact Or.inl rfl⟩)
    (hs : ∀ i x', foldedSetIterable (.Call (.Attribute (.Name x px) "items" apos) [] [] cpos) (Xs i).env x' = pure x' := by intro _ _; rfl) (d1 : (x == ("__debug__" : Str)) = false := by decide) (d2 : (x == ("__classdict__" : Str)) = false := by decide) (d3 : (y == ("__debug__" : Str)) = false := by decide) (d4 : (y == ("__classdict__" : Str)) = false := by decide) (d5 : (z == ("__debug__" : Str)) = false := by decide) (d6 : (z == ("__classdict__" : Str)) = false := by decide) :
    DE Xs K E (.ListComp (.Tuple [.Name y py', .Name z pz'] kt' pt') [⟨.Tuple [.Name y py, .Name z pz] kt pt, .Call (.Attribute (.Name x px) "items" apos) [] [] cpos, [], 0⟩] scope pos) (dLcIt i j1 j2) := by
  refine ⟨_, fun j => ?_, ev_lcIt (vs := [j1, j2]) (List.mem_cons_self ..) (List.mem_cons_of_mem _ (List.mem_cons_self ..)) hne⟩
  have vis : ∀ {s : Scope} {n : Str}, Loc s n → Vis s n := fun h => h.imp id Or.inl
  have eN := en.blk (sc := scope)
  refine pe_lock (pe_lc (own := [(y, j1), (z, j2)]) (en.hc j) (en.nd' j) (pi_items (pe_var (by rw [en.hN j]; exact hx) (hv j) d1 d2) (hbase j) hline) (by rw [en.hN j, hsc j]; exact ok) (fun s H C cl fp => ?_) (fun s H C cl fp => pts_nil) (fun s H C cl fp => ?_) (hs j))
  · have g := hgN (j, s, H, C, cl, fp)
    have := pg_tup (X := blkF Xs scope (j, s, H, C, cl, fp)) (pos := pt) (k := kt) (n := 2) (eN.hc _) (pgs_cons (pg_name (pos := py) (eN.nd' _) (by rw [eN.hN]; exact h1) g.1.1 g.1.2) (pgs_cons (pg_name (pos := pz) (eN.nd' _) (by rw [eN.hN]; exact h2) g.2.1 g.2.2) pgs_nil))
    rw [eN.hK] at this
    exact this
  · have g := hgN (j, s, H, C, cl, fp)
    exact pe_tup (pa_cons (pe_var (by rw [eN.hN (j, s, H, C, cl, fp)]; exact h1) (vis g.1.1) d3 d4) (pa_cons (pe_var (by rw [eN.hN (j, s, H, C, cl, fp)]; exact h2) (vis g.2.1) d5 d6) pa_nil))
/-! own != and op= -/
def OwNe (P : Program) (w : World) (K : PySem.W.Frag) (mg : Str → Option Value) (base : Heap) (C : Addr) (k : Nat) (F : DF) : Prop :=
  ∃ f fd ps, OwnM P w K mg base K C "__eq__" k F f fd ps ∧ ∀ (h : Heap) (a dx : Addr), K.In h → h.get? a = some (PySem.W.instObj C dx) → h.OwnEqNoNe a C f "object" [.type "object"]
theorem ownNe (en : En Xs P w K mg base N k) {C : Addr} (h : OwNe P w K mg base C kF F) (ha : DE Xs K E0 a ta) (hb : DE Xs K E0 b tb) (hk : kF + 1 ≤ k := by decide) : DE Xs K E0 (.Compare a [.NotEq] [b] pos) (dOwnNe C F ta tb) := by
  obtain ⟨f, fd, ps, M, hO⟩ := h
  exact de_neOwn PySem.F.cmp_object (fun i => by rw [en.hK i]; exact hO) (en.own M) (fun i => (en.hr i).mono hk) ha hb (nomark _)
/-- no method of its own for op= -/
structure NoI (K : PySem.W.Frag) (C : Addr) (m : Str) : Prop where
  cls : ∃ cd, PySem.W.clsIn K C = some cd ∧ cd.mro = [.ref C, .type "object"]
  own : PySem.W.findIn K (.ref C) m = some none
  obj : PySem.W.findIn K (.type "object") m = some none
theorem augOwn (en : En Xs P w K mg base N k) (i : Nat) {C : Addr} {op : Operator} {pos' : Pos} (h : Ow1 P w K mg base C (PySem.dunder op.info.2) kF F) (hn : NoI K C (PySem.dunderI op.info.2)) (hb : DE Xs K E0 b tb) (hi : N[i]? = some x := by rfl) (hk : kF ≤ k := by decide) (hx : ∀ j, Loc (Xs j).env.scope x := by intro _; first | exact Or.inl rfl | exact Or.inr rfl) (hf : ∀ j, (Xs j).fn x = true ∨ (Xs j).env.scope.names.lookup x = some .local := by intro _; first | exact Or.inr rfl | exact Or.inl rfl) :
    DS Xs K E0 (.AugAssign (.Name x pos') op b pos) (dAugOwn C F i tb) := by
  obtain ⟨f, fd, ps, M⟩ := h
  obtain ⟨⟨cd, hcd, hm⟩, h1, h2⟩ := hn
  exact ds_augOwn (en.own M) (fun i => (en.hr i).mono hk) (fun i => by rw [en.hK i]; exact hcd) hm (fun i => by rw [en.hK i]; exact h1) (fun i => by rw [en.hK i]; exact h2) en.nd' (fun j => by rw [en.hN j]; exact hi) hx hf hb
end
section
variable {P : Program} {w : World} {K : PySem.W.Frag} {mg : Str → Option Value} {base : Heap}
/-! ### a def of the text keeps its promise -/
abbrev fam (P : Program) (w : World) (K : PySem.W.Frag) (mg : Str → Option Value) (base : Heap) (N : List Str) (qual : Str) (sc : Scope) (f : Addr) (cdv : Value) (A : Around) (outer : List Env) (s : Shared) (H : Hp) (E : XK) : Unit → Cx :=
  fun _ => (cxOf CX0 P w K mg base N qual sc f cdv A outer s H E).nox
/-- the derivation of a body, wherever the def runs -/
def Der (P : Program) (w : World) (K : PySem.W.Frag) (mg : Str → Option Value) (base : Heap) (N : List Str) (qual : Str) (st : Stmt) (k : Nat) (t : TDS) : Prop :=
  ∀ (f : Addr) (cdv : Value) (A : Around) (outer : List Env) (s : Shared) (H : Hp) (E : XK), En (fam P w K mg base N qual (defScope st) f cdv A outer s H E) P w K mg base N k → DSs (fam P w K mg base N qual (defScope st) f cdv A outer s H E) K E0 (defBody st) t
theorem fnD {x qual : Str} {st : Stmt} {f : Addr} {fd : FuncData} {N ps : List Str} {k : Nat} {F : DF} {t : TDS} (G : Fun K x qual st f fd) (S : FnScope N ps (defScope st)) (bt : Bt mg) (len : ∀ ds n Q x, F ds n Q x → ds.length = ps.length) (d : Der P w K mg base N qual st k t)
    (ht : ∀ ds n Q x, F ds n Q x → t { nx := fun _ n' => Q .non n', rt := Q } (startD N ds) n x0) : FnOk P w K mg base CX0 (k + 1) f fd ps (spD K F) :=
  fn_ok G S len fun cdv A outer s H E hr => ⟨t, d f cdv A outer s H E ⟨fun _ => rfl, fun _ => rfl, fun _ => rfl, fun _ => rfl, fun _ => rfl, fun _ => rfl, fun _ => rfl, fun _ => hr, S.nd, bt⟩, ht⟩
/-- where the module's def x stands -/
def DefAt (K : PySem.W.Frag) (mg : Str → Option Value) (x : Str) (st : Stmt) (ps : List Str) : Prop :=
  ∃ f fd, Fun K x x st f fd ∧ mg x = some (.ref f) ∧ PySem.W.keepIn K (.ref f) = true ∧ Binds K fd ps []
theorem DefAt.fn {x : Str} {st : Stmt} {N ps : List Str} {k : Nat} {F : DF} {t : TDS} (h : DefAt K mg x st ps) (S : FnScope N ps (defScope st)) (bt : Bt mg) (d : Der P w K mg base N x st k t) (len : ∀ ds n Q x, F ds n Q x → ds.length = ps.length)
    (ht : ∀ ds n Q x, F ds n Q x → t { nx := fun _ n' => Q .non n', rt := Q } (startD N ds) n x0) : Fn1 P w K mg base K x (k + 1) F := by
  obtain ⟨f, fd, G, hm, hk, hb⟩ := h
  exact ⟨f, fd, ps, fnD G S bt len d ht, hm, hk, hb⟩
/-- where the class's method m stands -/
def MethAt (K : PySem.W.Frag) (C : Addr) (m qual : Str) (st : Stmt) (ps : List Str) (f : Addr) : Prop :=
  ∃ fd, Fun K m qual st f fd ∧ Binds K fd ps [] ∧ PySem.W.findIn K (.ref C) m = some (some (.ref f)) ∧ PySem.W.isFn K (.ref f) = true ∧ PySem.W.fnIn K f = true ∧ PySem.W.selfFirst K C = true
theorem MethAt.ow {C f : Addr} {m qual : Str} {st : Stmt} {N ps : List Str} {k : Nat} {F : DF} {t : TDS} (h : MethAt K C m qual st ps f) (S : FnScope N ps (defScope st)) (bt : Bt mg) (d : Der P w K mg base N qual st k t) (len : ∀ ds n Q x, F ds n Q x → ds.length = ps.length)
    (ht : ∀ ds n Q x, F ds n Q x → t { nx := fun _ n' => Q .non n', rt := Q } (startD N ds) n x0) : ∃ fd, OwnM P w K mg base K C m (k + 1) F f fd ps := by
  obtain ⟨fd, G, hb, h1, h2, h3, h4⟩ := h
  exact ⟨fd, fnD G S bt len d ht, hb, h1, h2, h3, h4⟩
end
end DL
set_option Elab.async false
set_option linter.all false
set_option maxRecDepth 100000
set_option maxHeartbeats 1000000
set_option autoImplicit false
/-! DL: what the readings come to. -/
namespace DL
open PySem L2
/-! ### == of whole numbers, texts, rows -/
def plB : Nat → D → Bool
  | 0, d => match d with
    | .int _ => true
    | .str s => PyData.strOk s
    | _ => false
  | k + 1, d => match d with
    | .int _ => true
    | .str s => PyData.strOk s
    | .tup l => l.all (plB k)
    | .lst l => l.all (plB k)
    | _ => false
theorem pureL_of {l : List D} (h : ∀ d ∈ l, d.pure = true) : pureL l = true := by
  induction l with
  | nil => rfl
  | cons d l ih =>
    show (d.pure && pureL l) = true
    rw [h d (List.mem_cons_self ..), ih fun e he => h e (List.mem_cons_of_mem _ he)]
    rfl
theorem layAll_of {l : List D} (h : ∀ d ∈ l, PyData.canLay0 d.py = true) : PyData.canLayAll0 (pyL l) = true := by
  induction l with
  | nil => rfl
  | cons d l ih =>
    show (PyData.canLay0 d.py && PyData.canLayAll0 (pyL l)) = true
    rw [h d (List.mem_cons_self ..), ih fun e he => h e (List.mem_cons_of_mem _ he)]
    rfl
theorem depAll_of {l : List D} {k : Nat} (h : ∀ d ∈ l, PyData.depth d.py ≤ k) : PyData.depthAll (pyL l) ≤ k := by
  induction l with
  | nil => exact Nat.zero_le _
  | cons d l ih =>
    show max (PyData.depth d.py) (PyData.depthAll (pyL l)) ≤ k
    exact Nat.max_le.mpr ⟨h d (List.mem_cons_self ..), ih fun e he => h e (List.mem_cons_of_mem _ he)⟩
theorem pl_ok : ∀ (k : Nat) {d : D}, plB k d = true → d.pure = true ∧ PyData.canLay0 d.py = true ∧ PyData.depth d.py ≤ k
  | 0, d, h => by
    cases d with
    | int i => exact ⟨rfl, rfl, Nat.le_refl _⟩
    | str s => exact ⟨rfl, h, Nat.le_refl _⟩
    | _ => cases h
  | k + 1, d, h => by
    cases d with
    | int i => exact ⟨rfl, rfl, Nat.zero_le _⟩
    | str s => exact ⟨rfl, h, Nat.zero_le _⟩
    | tup l =>
      have h : l.all (plB k) = true := h
      have ih := fun d hd => pl_ok k (List.all_eq_true.mp h d hd)
      exact ⟨pureL_of fun d hd => (ih d hd).1, layAll_of fun d hd => (ih d hd).2.1, Nat.succ_le_succ (depAll_of fun d hd => (ih d hd).2.2)⟩
    | lst l =>
      have h : l.all (plB k) = true := h
      have ih := fun d hd => pl_ok k (List.all_eq_true.mp h d hd)
      exact ⟨pureL_of fun d hd => (ih d hd).1, layAll_of fun d hd => (ih d hd).2.1, Nat.succ_le_succ (depAll_of fun d hd => (ih d hd).2.2)⟩
    | _ => cases h
theorem eqAll_of : ∀ {l m : List D}, (∀ d ∈ l, ∀ e ∈ m, (PyData.eqv d.py e.py = true ↔ d = e)) → (PyData.eqvAll (pyL l) (pyL m) = true ↔ l = m)
  | [], [], _ => ⟨fun _ => rfl, fun _ => rfl⟩
  | [], _ :: _, _ => ⟨fun h => (nomatch h), fun h => (nomatch h)⟩
  | _ :: _, [], _ => ⟨fun h => (nomatch h), fun h => (nomatch h)⟩
  | d :: l, e :: m, h => by
    show (PyData.eqv d.py e.py && PyData.eqvAll (pyL l) (pyL m)) = true ↔ _
    rw [Bool.and_eq_true_iff, h d (List.mem_cons_self ..) e (List.mem_cons_self ..), eqAll_of fun a ha b hb => h a (List.mem_cons_of_mem _ ha) b (List.mem_cons_of_mem _ hb), List.cons.injEq]
theorem pl_eq : ∀ (k : Nat) {d e : D}, plB k d = true → plB k e = true → (PyData.eqv d.py e.py = true ↔ d = e)
  | 0, d, e, h, h2 => by
    cases d with
    | int i => cases e with
      | int j => show (i == j) = true ↔ _; rw [beq_iff_eq, D.int.injEq]
      | str s => exact ⟨fun q => (nomatch q), fun q => (nomatch q)⟩
      | _ => cases h2
    | str i => cases e with
      | str j => show (i == j) = true ↔ _; rw [beq_iff_eq, D.str.injEq]
      | int s => exact ⟨fun q => (nomatch q), fun q => (nomatch q)⟩
      | _ => cases h2
    | _ => cases h
  | k + 1, d, e, h, h2 => by
    cases d with
    | int i => cases e with
      | int j => show (i == j) = true ↔ _; rw [beq_iff_eq, D.int.injEq]
      | str s => exact ⟨fun q => (nomatch q), fun q => (nomatch q)⟩
      | tup s => exact ⟨fun q => (nomatch q), fun q => (nomatch q)⟩
      | lst s => exact ⟨fun q => (nomatch q), fun q => (nomatch q)⟩
      | _ => cases h2
    | str i => cases e with
      | str j => show (i == j) = true ↔ _; rw [beq_iff_eq, D.str.injEq]
      | int s => exact ⟨fun q => (nomatch q), fun q => (nomatch q)⟩
      | tup s => exact ⟨fun q => (nomatch q), fun q => (nomatch q)⟩
      | lst s => exact ⟨fun q => (nomatch q), fun q => (nomatch q)⟩
      | _ => cases h2
    | tup l => cases e with
      | tup m =>
        have h : l.all (plB k) = true := h
        have h2 : m.all (plB k) = true := h2
        show PyData.eqvAll (pyL l) (pyL m) = true ↔ _
        rw [eqAll_of fun d hd e he => pl_eq k (List.all_eq_true.mp h d hd) (List.all_eq_true.mp h2 e he), D.tup.injEq]
      | int s => exact ⟨fun q => (nomatch q), fun q => (nomatch q)⟩
      | str s => exact ⟨fun q => (nomatch q), fun q => (nomatch q)⟩
      | lst s => exact ⟨fun q => (nomatch q), fun q => (nomatch q)⟩
      | _ => cases h2
    | lst l => cases e with
      | lst m =>
        have h : l.all (plB k) = true := h
        have h2 : m.all (plB k) = true := h2
        show PyData.eqvAll (pyL l) (pyL m) = true ↔ _
        rw [eqAll_of fun d hd e he => pl_eq k (List.all_eq_true.mp h d hd) (List.all_eq_true.mp h2 e he), D.lst.injEq]
      | int s => exact ⟨fun q => (nomatch q), fun q => (nomatch q)⟩
      | str s => exact ⟨fun q => (nomatch q), fun q => (nomatch q)⟩
      | tup s => exact ⟨fun q => (nomatch q), fun q => (nomatch q)⟩
      | _ => cases h2
    | _ => cases h
theorem pl_cmp {k : Nat} (hk : k ≤ 64) {d : D} (h : plB k d = true) : cmpOk d = true := by
  obtain ⟨a, b, c⟩ := pl_ok k h
  unfold cmpOk SeqAt.shaped
  rw [a, b, decide_eq_true (Nat.le_trans c hk)]
  rfl
theorem eq_pl {k : Nat} {d e : D} {c : Bool} (h : plB k d = true) (h2 : plB k e = true) (hc : c = true ↔ d = e) (hk : k ≤ 64 := by decide) : eqD d e = some (.bl c) := by
  unfold eqD
  rw [pl_cmp hk h, pl_cmp hk h2, if_pos (show (true && true) = true from rfl)]
  have := pl_eq k h h2
  cases c <;> cases hh : PyData.eqv d.py e.py <;> simp_all
theorem ne_pl {k : Nat} {d e : D} {c : Bool} (h : plB k d = true) (h2 : plB k e = true) (hc : c = true ↔ d = e) (hk : k ≤ 64 := by decide) : neD d e = some (.bl (!c)) := by
  unfold neD
  rw [pl_cmp hk h, pl_cmp hk h2, if_pos (show (true && true) = true from rfl)]
  have := pl_eq k h h2
  cases c <;> cases hh : PyData.eqv d.py e.py <;> simp_all
theorem eq_int (a b : Int) : eqD (.int a) (.int b) = some (.bl (decide (a = b))) := eq_pl (k := 0) rfl rfl (by simp)
theorem eq_bl (a b : Bool) : eqD (.bl a) (.bl b) = some (.bl (decide (a = b))) := by
  show some (D.bl (a == b)) = _
  cases a <;> cases b <;> rfl
theorem eq_str {a b : Str} (ha : PyData.strOk a = true) (hb : PyData.strOk b = true) : eqD (.str a) (.str b) = some (.bl (decide (a = b))) := eq_pl (k := 0) ha hb (by simp)
/-! ### lists made by a comprehension -/
section
variable {f : TDG} {tt : TDT} {te : TD} {vs : List Nat} {ρ : DSt} {l : List D} {n1 : Nat} {Q : DQ}
theorem filterMap_snoc {α β : Type} {g : α → Option β} : ∀ (l : List α) (a : α), (l ++ [a]).filterMap g = l.filterMap g ++ (g a).toList
  | l, a => by rw [List.filterMap_append]; cases h : g a <;> simp [h]
/-- some of them, changed -/
theorem lc_some (g : D → Option D) (hl : l.length ≤ most) (h : ∀ d ∈ l, ∃ ρ', f d (wipeD ρ vs) = some ρ' ∧ ∀ (n : Nat) (Qt : DQ) (Qf : Nat → Prop), (∀ r, g d = some r → Qt r n) → (g d = none → Qf n) → tt ρ' n (fun b n2 => if b = true then te ρ' n2 Qt x0 else Qf n2) x0)
    (q : Q (.lst (l.filterMap g)) n1) : LcB f tt te vs ρ Q l n1 := by
  refine ⟨hl, fun i acc n => n = n1 ∧ acc = (l.take i).filterMap g, ⟨rfl, rfl⟩, fun i acc n d hd ⟨en, ea⟩ => ?_, fun acc n ⟨en, ea⟩ _ => ?_⟩
  · obtain ⟨ρ', ef, hh⟩ := h d (List.mem_of_getElem? hd)
    have e2 : (l.take (i + 1)).filterMap g = acc ++ (g d).toList := by rw [List.take_add_one, hd, ea]; exact filterMap_snoc _ _
    refine ⟨ρ', ef, hh n _ _ (fun r hr => ⟨en, ?_⟩) fun hr => ⟨en, ?_⟩⟩
    · rw [e2, hr]; rfl
    · rw [e2, hr]; exact (List.append_nil _).symm
  · rw [List.take_length] at ea
    rw [en, ea]; exact q
/-- each, changed -/
theorem lc_each (g : D → D) (hl : l.length ≤ most) (h : ∀ d ∈ l, ∃ ρ', f d (wipeD ρ vs) = some ρ' ∧ ∀ (n : Nat) (Qt : DQ), Qt (g d) n → te ρ' n Qt x0) (q : Q (.lst (l.map g)) n1) : LcB f dYes te vs ρ Q l n1 := by
  refine lc_some (fun d => some (g d)) hl (fun d hd => ?_) (by rw [List.filterMap_eq_map']; exact q)
  obtain ⟨ρ', ef, hh⟩ := h d hd
  exact ⟨ρ', ef, fun n Qt Qf ht _ => hh n _ (ht _ rfl)⟩
/-- each item by what P lets it become; c draws each -/
theorem lc_rel (P : D → Option D → Prop) (c : Nat) (hl : l.length ≤ most) (hn : c * l.length ≤ n1)
    (h : ∀ d ∈ l, ∃ ρ', f d (wipeD ρ vs) = some ρ' ∧ ∀ (n : Nat) (Qt : DQ) (Qf : Nat → Prop), c ≤ n → (∀ r n', P d (some r) → n ≤ n' + c → Qt r n') → (∀ n', P d none → n ≤ n' + c → Qf n') → tt ρ' n (fun b n2 => if b = true then te ρ' n2 Qt x0 else Qf n2) x0)
    (q : ∀ os n', Paired P l os → n1 ≤ n' + c * l.length → Q (.lst (os.filterMap id)) n') : LcB f tt te vs ρ Q l n1 := by
  refine ⟨hl, fun i acc n => n1 ≤ n + c * i ∧ ∃ os, Paired P (l.take i) os ∧ acc = os.filterMap id, ⟨by omega, [], .nil, rfl⟩, fun i acc n d hd ⟨en, os, ho, ea⟩ => ?_, fun acc n ⟨en, os, ho, ea⟩ _ => ?_⟩
  · obtain ⟨ρ', ef, hh⟩ := h d (List.mem_of_getElem? hd)
    have hi : i + 1 ≤ l.length := (List.getElem?_eq_some_iff.mp hd).1
    have hm : c * (i + 1) ≤ c * l.length := Nat.mul_le_mul_left c hi
    rw [Nat.mul_succ] at hm
    have e2 : l.take (i + 1) = l.take i ++ [d] := by rw [List.take_add_one, hd]; rfl
    refine ⟨ρ', ef, hh n _ _ (by omega) (fun r n' hr hn' => ⟨by rw [Nat.mul_succ]; omega, os ++ [some r], by rw [e2]; exact paired_snoc ho hr, by rw [ea, filterMap_snoc]; rfl⟩) fun n' hr hn' => ⟨by rw [Nat.mul_succ]; omega, os ++ [none], by rw [e2]; exact paired_snoc ho hr, by rw [ea, filterMap_snoc]; exact (List.append_nil _).symm⟩⟩
  · rw [List.take_length] at ho
    rw [ea]; exact q os n ho en
end
/-! ### what is at a place -/
theorem at_nat {l : List D} {i : Int} {j : Nat} (h : i = (j : Int)) (hj : j < l.length) : atI l i = l[j]? := by
  subst h
  unfold atI ixN
  rw [if_pos (by omega), if_pos (by omega)]
  rfl
end DL
set_option Elab.async false
set_option linter.all false
set_option maxRecDepth 100000
set_option maxHeartbeats 1000000
set_option autoImplicit false
/-! Marks in plain Lean: rows of names and numbers. -/
namespace MK
open PySem
open DSet (ltS ltP)
def lettersS : Str := "abcdefghijklmnopqrstuvwxyz"
def wordsL : List Str := ["none", "only", "without", "one", "as"]
structure NameOk (s : Str) : Prop where
  lo : 1 ≤ s.length
  hi : s.length ≤ 8
  wd : s ∉ wordsL
  al : ∀ c ∈ s.cps.toList, c ∈ lettersS.cps.toList
theorem letter_lt : ∀ c ∈ lettersS.cps.toList, c < 0x110000 := by decide +kernel
theorem NameOk.ok {s : Str} (h : NameOk s) : PyData.strOk s = true := by
  unfold PyData.strOk
  rw [← Array.all_toList, List.all_eq_true]
  exact fun c hc => decide_eq_true (letter_lt c (h.al c hc))
abbrev Row := List (Str × Int)
def val (l : Row) (s : Str) : Int := (l.lookup s).getD 0
def Nds (l : Row) : Prop := (l.map (·.1)).Nodup
theorem look_mem : ∀ {l : Row}, Nds l → ∀ {s : Str} {i : Int}, (s, i) ∈ l ↔ l.lookup s = some i
  | [], _, s, i => by simp
  | (t, j) :: l, h, s, i => by
    have h : t ∉ l.map (·.1) ∧ Nds l := List.nodup_cons.mp h
    rw [List.lookup_cons, List.mem_cons]
    by_cases e : s = t
    · subst e
      rw [beq_self_eq_true]
      constructor
      · rintro (q | q)
        · cases q; rfl
        · exact absurd (List.mem_map.mpr ⟨_, q, rfl⟩) h.1
      · intro q; cases q; exact .inl rfl
    · rw [show (s == t) = false from by simpa using e]
      show _ ↔ l.lookup s = some i
      rw [← look_mem h.2]
      exact ⟨fun q => q.resolve_left fun z => e (Prod.mk.inj z).1, .inr⟩
theorem val_mem {l : Row} (h : Nds l) {z : Str × Int} (hz : z ∈ l) : val l z.1 = z.2 := by
  unfold val
  rw [(look_mem h).mp hz]
  rfl
theorem val_none {l : Row} {s : Str} (h : s ∉ l.map (·.1)) : val l s = 0 := by
  unfold val
  cases e : l.lookup s with
  | none => rfl
  | some i =>
    exfalso
    induction l with
    | nil => cases e
    | cons z l ih =>
      rw [List.lookup_cons] at e
      split at e
      · rename_i q
        exact h (by rw [List.map_cons, List.mem_cons]; exact .inl (by simpa using q))
      · exact ih (fun q => h (by rw [List.map_cons]; exact List.mem_cons_of_mem _ q)) e
theorem val_ne {l : Row} (h : Nds l) {s : Str} (hz : val l s ≠ 0) : (s, val l s) ∈ l := by
  unfold val at hz ⊢
  cases e : l.lookup s with
  | none => rw [e] at hz; exact absurd rfl hz
  | some i => exact (look_mem h).mpr e
/-- a mark's numbers -/
structure WF (l : Row) : Prop where
  so : l.Pairwise ltP
  nd : Nds l
  ps : ∀ z ∈ l, 0 < z.2
  nm : ∀ z ∈ l, NameOk z.1
/-- a table of numbers -/
structure Tbl (l : Row) : Prop where
  nd : Nds l
  nn : ∀ z ∈ l, 0 ≤ z.2
  nm : ∀ z ∈ l, NameOk z.1
theorem WF.tbl {l : Row} (h : WF l) : Tbl l := ⟨h.nd, fun z q => Int.le_of_lt (h.ps z q), h.nm⟩
theorem Tbl.nonneg {l : Row} (h : Tbl l) (s : Str) : 0 ≤ val l s := by
  by_cases e : val l s = 0
  · rw [e]; exact Int.le_refl _
  · exact h.nn _ (val_ne h.nd e)
theorem sorted_eq {α : Type} {lt : α → α → Prop} (irr : ∀ a, ¬ lt a a) (tr : ∀ {a b c}, lt a b → lt b c → lt a c) : ∀ {l m : List α}, l.Pairwise lt → m.Pairwise lt → (∀ z, z ∈ l ↔ z ∈ m) → l = m
  | [], [], _, _, _ => rfl
  | [], b :: m, _, _, h => absurd ((h b).mpr (List.mem_cons_self ..)) (List.not_mem_nil)
  | a :: l, [], _, _, h => absurd ((h a).mp (List.mem_cons_self ..)) (List.not_mem_nil)
  | a :: l, b :: m, hl, hm, h => by
    obtain ⟨la, hl1⟩ := List.pairwise_cons.mp hl
    obtain ⟨mb, hm1⟩ := List.pairwise_cons.mp hm
    have e : a = b := by
      rcases List.mem_cons.mp ((h a).mp (List.mem_cons_self ..)) with e | e
      · exact e
      · rcases List.mem_cons.mp ((h b).mpr (List.mem_cons_self ..)) with e' | e'
        · exact e'.symm
        · exact absurd (tr (la b e') (mb a e)) (irr a)
    subst e
    refine congrArg (a :: ·) (sorted_eq irr tr hl1 hm1 fun z => ?_)
    constructor
    · intro q
      rcases List.mem_cons.mp ((h z).mp (List.mem_cons_of_mem _ q)) with e | e
      · rw [e] at q; exact absurd (la a q) (irr a)
      · exact e
    · intro q
      rcases List.mem_cons.mp ((h z).mpr (List.mem_cons_of_mem _ q)) with e | e
      · rw [e] at q; exact absurd (mb a q) (irr a)
      · exact e
theorem WF.mem {l : Row} (h : WF l) {z : Str × Int} : z ∈ l ↔ 0 < z.2 ∧ val l z.1 = z.2 := by
  constructor
  · exact fun q => ⟨h.ps z q, val_mem h.nd q⟩
  · rintro ⟨p, q⟩
    have := val_ne h.nd (s := z.1) (by omega)
    rw [q] at this
    exact this
theorem WF.ext {l m : Row} (h : WF l) (k : WF m) (e : ∀ s, val l s = val m s) : l = m :=
  sorted_eq DSet.ltP_irr DSet.ltP_trans h.so k.so fun z => by rw [h.mem, k.mem, e]
/-- the positive ones, in order -/
structure Due (ps qs : Row) : Prop where
  so : qs.Pairwise ltP
  me : ∀ z, z ∈ qs ↔ z ∈ ps ∧ 0 < z.2
theorem nds_of {l : Row} (so : l.Pairwise ltP) (h : ∀ s i j, (s, i) ∈ l → (s, j) ∈ l → i = j) : Nds l := by
  induction l with
  | nil => exact List.nodup_nil
  | cons z l ih =>
    obtain ⟨hz, so⟩ := List.pairwise_cons.mp so
    refine List.nodup_cons.mpr ⟨fun q => ?_, ih so fun s i j a b => h s i j (List.mem_cons_of_mem _ a) (List.mem_cons_of_mem _ b)⟩
    obtain ⟨y, hy, e⟩ := List.mem_map.mp q
    have e2 := h z.1 z.2 y.2 (List.mem_cons_self ..) (List.mem_cons_of_mem _ (by have e : y.1 = z.1 := e; rw [← e]; exact hy))
    have e3 : y = z := Prod.ext e e2.symm
    rw [e3] at hy
    exact absurd (hz z hy) (DSet.ltP_irr z)
theorem Due.wf {ps qs : Row} (h : Tbl ps) (d : Due ps qs) : WF qs := by
  refine ⟨d.so, nds_of d.so fun s i j a b => ?_, fun z q => ((d.me z).mp q).2, fun z q => h.nm z ((d.me z).mp q).1⟩
  have h1 := val_mem h.nd ((d.me _).mp a).1
  have h2 := val_mem h.nd ((d.me _).mp b).1
  exact h1.symm.trans h2
theorem Due.val {ps qs : Row} (h : Tbl ps) (d : Due ps qs) (s : Str) : val qs s = val ps s := by
  have w := d.wf h
  have n := h.nonneg s
  by_cases e : MK.val ps s = 0
  · rw [e]
    by_cases e2 : MK.val qs s = 0
    · exact e2
    · have := (d.me _).mp (val_ne w.nd e2)
      have : MK.val ps s = MK.val qs s := val_mem h.nd this.1
      omega
  · exact val_mem w.nd ((d.me _).mpr ⟨val_ne h.nd e, by show 0 < MK.val ps s; omega⟩)
theorem Due.eq {ps qs rs : Row} (d : Due ps qs) (e : Due ps rs) : qs = rs :=
  sorted_eq DSet.ltP_irr DSet.ltP_trans d.so e.so fun z => by rw [d.me, e.me]
end MK
set_option Elab.async false
set_option linter.all false
set_option maxRecDepth 100000
set_option maxHeartbeats 1000000
set_option autoImplicit false
/-! Marks as data. -/
namespace MK
open PySem L2 DL
theorem isi_eq {C : Addr} {d c : D} {a b : Tn} (h : tnOf d = some a) (ho : okT C a = true) (hc : clOf c = some b) (hb : okT C b = true) : isiD C [d, c] = some (.bl (isiT a b)) := by
  dsimp only [isiD]
  rw [h, hc]
  dsimp only
  rw [ho, hb]
  rfl
theorem all_eq {α : Type} (l : List α) (f : α → Bool) : allD [.lst (l.map fun a => .bl (f a))] = some (.bl (l.all f)) := by
  have h : boolsOf (l.map fun a => D.bl (f a)) = some (l.map f) := by
    induction l with
    | nil => rfl
    | cons a l ih =>
      show (boolsOf (l.map fun a => D.bl (f a))).map (f a :: ·) = _
      rw [ih]
      rfl
  show (boolsOf _).map _ = _
  rw [h]
  show some (D.bl ((l.map f).all id)) = _
  rw [List.all_map]
  rfl
/-! the four tests -/
def countB : D → Bool
  | .int i => decide (0 ≤ i)
  | _ => false
def tupB : D → Int → Bool
  | .tup l, m => decide ((l.length : Int) = m)
  | _, _ => false
def nameB (s : Str) : Bool := decide (1 ≤ s.length) && decide (s.length ≤ 8) && !decide (s ∈ wordsL) && s.cps.toList.all fun c => decide (c ∈ lettersS.cps.toList)
theorem nameB_iff {s : Str} : nameB s = true ↔ NameOk s := by
  unfold nameB
  simp only [Bool.and_eq_true, decide_eq_true_eq, Bool.not_eq_true', decide_eq_false_iff_not, List.all_eq_true]
  exact ⟨fun ⟨⟨⟨a, b⟩, c⟩, d⟩ => ⟨a, b, c, d⟩, fun h => ⟨⟨⟨h.lo, h.hi⟩, h.wd⟩, h.al⟩⟩
def F_is_integer (C : Addr) : DF := fun ds n Q _ => ∃ d a, ds = [d] ∧ tnOf d = some a ∧ okT C a = true ∧ Q (.bl (decide (a = .int))) n
def F_is_count (C : Addr) : DF := fun ds n Q _ => ∃ d a, ds = [d] ∧ tnOf d = some a ∧ okT C a = true ∧ Q (.bl (countB d)) n
def F_is_tuple_of (C : Addr) : DF := fun ds n Q _ => ∃ d a m, ds = [d, .int m] ∧ tnOf d = some a ∧ okT C a = true ∧ Q (.bl (tupB d m)) n
def F_is_name : DF := fun ds n Q _ => ∃ s : Str, ds = [.str s] ∧ s.length ≤ most ∧ Q (.bl (nameB s)) n
/-! rows as data -/
def rowD (l : Row) : List D := l.map pairD
def tblD (l : Row) : D := .dct (l.map fun q => ((Sum.inr q.1 : Key), D.int q.2))
def markD (C : Addr) (l : Row) : D := .ins C [("numbers", .tup (rowD l))]
theorem items_eq (l : Row) : (l.map fun q => ((Sum.inr q.1 : Key), D.int q.2)).map itemD = rowD l := by
  unfold rowD
  rw [List.map_map]
  rfl
def F_pairs_in : DF := fun ds n Q _ => ∃ ps : Row, Tbl ps ∧ ps.length < 64 ∧ (ds = [.tup (rowD ps)] ∨ ds = [tblD ps]) ∧ Q (.tup (rowD ps)) n
def F_Mark (C : Addr) : DF := fun ds n Q _ => ∃ ps : Row, Tbl ps ∧ ps.length < 64 ∧ (ds = [.tup (rowD ps)] ∨ ds = [tblD ps]) ∧ ∀ qs, Due ps qs → Q (markD C qs) n
def F_stores_of (C : Addr) : DF := fun ds n Q _ => ∃ qs rs : Row, ds = [markD C qs, markD C rs] ∧ qs.length + rs.length < 64 ∧ ∀ ys : List Str, ys.Pairwise DSet.ltS → (∀ s, s ∈ ys ↔ s ∈ qs.map (·.1) ∨ s ∈ rs.map (·.1)) → Q (.lst (ys.map .str)) n
/-! a mark's methods; at most 31 names -/
structure Mk (l : Row) : Prop where
  wf : WF l
  le : l.length < 32
def F_get (C : Addr) : DF := fun ds n Q _ => ∃ (qs : Row) (s : Str), ds = [markD C qs, .str s] ∧ Mk qs ∧ PyData.strOk s = true ∧ Q (.int (val qs s)) n
def F_eq (C : Addr) : DF := fun ds n Q _ => ∃ qs rs : Row, ds = [markD C qs, markD C rs] ∧ Mk qs ∧ Mk rs ∧ ∀ b : Bool, (b = true ↔ qs = rs) → Q (.bl b) n
def F_bin (C : Addr) (f : Int → Int → Int) : DF := fun ds n Q _ => ∃ qs rs : Row, ds = [markD C qs, markD C rs] ∧ Mk qs ∧ Mk rs ∧ qs.length + rs.length < 32 ∧ ∀ ts : Row, Mk ts → (∀ s, val ts s = f (val qs s) (val rs s)) → Q (markD C ts) n
def subI (a b : Int) : Int := if b < a then a else 0
def maxI (a b : Int) : Int := if b > a then b else a
def minI (a b : Int) : Int := if b < a then b else a
def F_cmp (C : Addr) (p : Row → Row → Prop) : DF := fun ds n Q _ => ∃ qs rs : Row, ds = [markD C qs, markD C rs] ∧ Mk qs ∧ Mk rs ∧ ∀ b : Bool, (b = true ↔ p qs rs) → Q (.bl b) n
def leP (q r : Row) : Prop := ∀ z ∈ q, z.2 ≤ val r z.1
def ltP' (q r : Row) : Prop := leP q r ∧ q ≠ r
theorem row_pl {l : Row} (h : ∀ z ∈ l, NameOk z.1) : plB 2 (.tup (rowD l)) = true := by
  show (rowD l).all (plB 1) = true
  unfold rowD
  rw [List.all_map, List.all_eq_true]
  intro z hz
  show (([D.str z.1, D.int z.2] : List D).all (plB 0)) = true
  show (PyData.strOk z.1 && (true && true)) = true
  rw [(h z hz).ok]
  rfl
theorem pairD_inj {a b : Str × Int} (h : pairD a = pairD b) : a = b := by
  unfold pairD at h
  simp only [D.tup.injEq, List.cons.injEq, D.str.injEq, D.int.injEq] at h
  exact Prod.ext h.1 h.2.1
theorem rowD_inj {a b : Row} : (D.tup (rowD a) = .tup (rowD b)) ↔ a = b := by
  constructor
  · intro h
    exact (List.map_inj_right fun _ _ => pairD_inj).mp (D.tup.inj h)
  · intro h; rw [h]
/-- the pairs with a number above 0 -/
def posG : D → Option D
  | .tup [.str s, .int i] => if 0 < i then some (.tup [.str s, .int i]) else none
  | _ => none
def posR (l : Row) : Row := l.filter fun z => decide (0 < z.2)
theorem pos_row (l : Row) : (rowD l).filterMap posG = rowD (posR l) := by
  induction l with
  | nil => rfl
  | cons z l ih =>
    show (pairD z :: rowD l).filterMap posG = _
    rw [List.filterMap_cons]
    unfold posR
    rw [List.filter_cons]
    by_cases h : 0 < z.2
    · have : posG (pairD z) = some (pairD z) := if_pos h
      rw [this, decide_eq_true h]
      show pairD z :: _ = _
      rw [ih]
      rfl
    · have : posG (pairD z) = none := if_neg h
      rw [this, decide_eq_false h]
      exact ih
theorem pos_due {l ys : Row} (so : ys.Pairwise DSet.ltP) (h : ∀ z, z ∈ ys ↔ z ∈ posR l) : Due l ys := ⟨so, fun z => by rw [h]; unfold posR; rw [List.mem_filter, decide_eq_true_eq]⟩
theorem posR_len (l : Row) : (posR l).length ≤ l.length := List.length_filter_le _ _
theorem row_len (l : Row) : (rowD l).length = l.length := by unfold rowD; rw [List.length_map]
end MK
set_option Elab.async false
set_option linter.all false
set_option maxRecDepth 100000
set_option maxHeartbeats 1000000
set_option autoImplicit false
namespace K0
open PySem L2 DL MK
def top (i : Nat) : Stmt := PySem.Challenge.pw_carriedmarks_k00_numbers_of_marks.main.body.getD i (.Pass ⟨0, 0, 0, 0⟩)
structure Tx (K : PySem.W.Frag) (mg : Str → Option Value) (C : Addr) : Prop where
  bt : Bt mg
  isi : Isi K C
  letters : GlV mg "LETTERS" (.str lettersS)
  longest : GlV mg "LONGEST_NAME" (.int 8)
  words : ∃ a, GlV mg "WORDS" (.ref a) ∧ WrT K a (wordsL.map V.str)
  markV : GlV mg "Mark" (.ref C)
  cl : Cls K C
  nN : NoAttr K C "numbers"
  nOr : NoI K C (PySem.dunderI (Operator.BitOr).info.2)
  nAnd : NoI K C (PySem.dunderI (Operator.BitAnd).info.2)
  nSub : NoI K C (PySem.dunderI (Operator.Sub).info.2)
section
variable {P : Program} {w : World} {K : PySem.W.Frag} {mg : Str → Option Value} {base : Heap} {C : Addr}
theorem Tx.wordsE {ι : Type} {Xs : ι → Cx} {N : List Str} {k : Nat} {E : XK} {pos : Pos} (T : Tx K mg C) (en : En Xs P w K mg base N k) (hg : ∀ i, Gl (Xs i) "WORDS" := by intro _; rfl) : DE Xs K E (.Name "WORDS" pos) (dC (.tup (wordsL.map .str))) := by
  obtain ⟨a, h1, h2⟩ := T.words
  exact gl en h1 (fun Z p H => ⟨a, _, rfl, .inr h2, reps_strs.mpr rfl⟩) hg
abbrev s_is_integer : Stmt := top 10
abbrev N_is_integer : List Str := ["value"]
theorem sc_is_integer : FnScope N_is_integer ["value"] (defScope s_is_integer) := ⟨rfl, rfl, rfl, by decide +kernel, rfl, by decide +kernel, by decide +kernel⟩
abbrev s_is_count : Stmt := top 11
abbrev N_is_count : List Str := ["value"]
theorem sc_is_count : FnScope N_is_count ["value"] (defScope s_is_count) := ⟨rfl, rfl, rfl, by decide +kernel, rfl, by decide +kernel, by decide +kernel⟩
abbrev s_is_name : Stmt := top 12
abbrev N_is_name : List Str := ["value", "sign"]
theorem sc_is_name : FnScope N_is_name ["value"] (defScope s_is_name) := ⟨rfl, rfl, rfl, by decide +kernel, rfl, by decide +kernel, by decide +kernel⟩
abbrev s_is_tuple_of : Stmt := top 13
abbrev N_is_tuple_of : List Str := ["value", "many"]
theorem sc_is_tuple_of : FnScope N_is_tuple_of ["value", "many"] (defScope s_is_tuple_of) := ⟨rfl, rfl, rfl, by decide +kernel, rfl, by decide +kernel, by decide +kernel⟩
abbrev s_pairs_in : Stmt := top 16
abbrev N_pairs_in : List Str := ["value", "pairs", "pair", "store", "number"]
theorem sc_pairs_in : FnScope N_pairs_in ["value"] (defScope s_pairs_in) := ⟨rfl, rfl, rfl, by decide +kernel, rfl, by decide +kernel, by decide +kernel⟩
abbrev s_stores_of : Stmt := top 17
abbrev N_stores_of : List Str := ["one", "other", "pair"]
theorem sc_stores_of : FnScope N_stores_of ["one", "other"] (defScope s_stores_of) := ⟨rfl, rfl, rfl, by decide +kernel, rfl, by decide +kernel, by decide +kernel⟩
theorem ok_is_integer (h : DefAt K mg "is_integer" s_is_integer ["value"]) (T : Tx K mg C) : Fn1 P w K mg base K "is_integer" 1 (F_is_integer C) := by
  refine h.fn sc_is_integer T.bt (k := 0) (fun f cdv A outer s H E en => (dss_one (ds_ret (de_and (eIsi en T.isi (da_cons (v en 0) (da_cons (ty_int en) da_nil))) (de_one (de_not (eIsi en T.isi (da_cons (v en 0) (da_cons (ty_bool en) da_nil))))))))) ?_ ?_
  · rintro ds n Q x ⟨d, a, rfl, _⟩; rfl
  · rintro ds n Q x ⟨d, a, rfl, ht, ho, q⟩
    refine ⟨d, rfl, _, isi_eq ht ho (b := .int) rfl rfl, _, rfl, ite2 (fun e => ?_) (fun e => ?_)⟩
    · refine ⟨d, rfl, _, isi_eq ht ho (b := .bool) rfl rfl, _, rfl, ?_⟩
      cases a <;> first | exact q | (exfalso; simp [isiT] at e)
    · cases a <;> first | exact q | (exfalso; simp [isiT] at e)
theorem ok_is_count (h : DefAt K mg "is_count" s_is_count ["value"]) (T : Tx K mg C) (h_is_integer : Fn1 P w K mg base K "is_integer" 1 (F_is_integer C)) : Fn1 P w K mg base K "is_count" 2 (F_is_count C) := by
  refine h.fn sc_is_count T.bt (k := 1) (fun f cdv A outer s H E en => (dss_one (ds_ret (de_and (call en h_is_integer (da_cons (v en 0) da_nil)) (de_one (eGe (v en 0) de_int)))))) ?_ ?_
  · rintro ds n Q x ⟨d, a, rfl, _⟩; rfl
  · rintro ds n Q x ⟨d, a, rfl, ht, ho, q⟩
    refine ⟨d, rfl, d, a, rfl, ht, ho, _, rfl, ite2 (fun e => ?_) (fun e => ?_)⟩
    · have e : a = .int := of_decide_eq_true e
      subst e
      cases d with
      | int i => exact ⟨.int i, rfl, _, rfl, q⟩
      | _ => cases ht
    · have e : a ≠ .int := fun z => e (decide_eq_true z)
      cases d with
      | int i => cases ht; exact absurd rfl e
      | _ => exact q
theorem ok_is_tuple_of (h : DefAt K mg "is_tuple_of" s_is_tuple_of ["value", "many"]) (T : Tx K mg C) : Fn1 P w K mg base K "is_tuple_of" 1 (F_is_tuple_of C) := by
  refine h.fn sc_is_tuple_of T.bt (k := 0) (fun f cdv A outer s H E en => (dss_one (ds_ret (de_and (eIsi en T.isi (da_cons (v en 0) (da_cons (ty_tuple en) da_nil))) (de_one (eEq en (eLen en (da_cons (v en 0) da_nil)) (v en 1))))))) ?_ ?_
  · rintro ds n Q x ⟨d, a, m, rfl, _⟩; rfl
  · rintro ds n Q x ⟨d, a, m, rfl, ht, ho, q⟩
    refine ⟨d, rfl, _, isi_eq ht ho (b := .tup) rfl rfl, _, rfl, ite2 (fun e => ?_) (fun e => ?_)⟩
    · cases d with
      | tup l => exact ⟨.tup l, rfl, _, rfl, .int m, rfl, _, eq_int _ _, q⟩
      | _ => cases ht <;> simp [isiT] at e
    · cases d with
      | tup l => cases ht; exact absurd rfl e
      | _ => exact q
theorem in_words (s : Str) : inD (.str s) (.tup (wordsL.map .str)) = some (.bl (decide (s ∈ wordsL))) := by
  show inSeqD false (.str s) (wordsL.map .str) = _
  unfold inSeqD
  have h1 : (flatD (.str s) && (wordsL.map D.str).all flatD) = true := rfl
  rw [if_pos h1]
  show some (D.bl (inV (.str s) ((wordsL.map D.str).map flatOf))) = _
  rw [List.map_map]
  have h2 : ∀ l : List Str, inV (.str s) (l.map (flatOf ∘ D.str)) = decide (s ∈ l) := by
    intro l
    induction l with
    | nil => rfl
    | cons a l ih =>
      show (eqV (.str a) (.str s) || inV (.str s) (l.map (flatOf ∘ D.str))) = _
      rw [ih]
      have : eqV (.str a) (.str s) = decide (s = a) := by
        by_cases e : s = a
        · subst e; simp [eqV]
        · have : ¬ a = s := fun z => e z.symm
          simp [eqV, e, this]
      rw [this]
      simp [List.mem_cons, Bool.decide_or]
  rw [h2]
theorem ok_is_name (h : DefAt K mg "is_name" s_is_name ["value"]) (T : Tx K mg C) : Fn1 P w K mg base K "is_name" 1 F_is_name := by
  refine h.fn sc_is_name T.bt (k := 0) (fun f cdv A outer s H E en => (dss_cons (ds_if (DW.dt (dw_or (dt_not (dt_val (eIsi en T.isi (da_cons (v en 0) (da_cons (ty_str en) da_nil))))) (dw_or (dt_not (tLeLe de_int (eLen en (da_cons (v en 0) da_nil)) (gl en (d := .int 8) T.longest fun _ _ _ => rfl))) (dw_or1 (tIn en (v en 0) (T.wordsE en))))))
    (dss_one (ds_ret de_bl))
    dss_nil)
    (dss_one (ds_ret (eAll en (da_cons (lc en (defScope s_is_name) [("sign", 1)] (inS (v en 0)) (nm en.blk 1) dts_nil (eIn en.blk (v en.blk 1) (gl en.blk (d := .str MK.lettersS) T.letters fun _ _ _ => rfl))) da_nil)))))) ?_ ?_
  · rintro ds n Q x ⟨s, rfl, _⟩; rfl
  · rintro ds n Q x ⟨s, rfl, hs, q⟩
    refine ⟨.str s, rfl, _, rfl, true, rfl, iteF ?_⟩
    have hlen : lenD [.str s] = some (.int s.length) := if_pos hs
    refine ⟨.str s, rfl, _, hlen, decide ((1 : Int) ≤ s.length), rfl, ite2 (fun e1 => ⟨_, rfl, decide ((s.length : Int) ≤ 8), rfl, ite2 (fun e2 => ?_) (fun e2 => ?_)⟩) (fun e1 => ⟨false, rfl, iteT (iteT ?_)⟩)⟩
    · have e2 : ¬ (s.length : Int) ≤ 8 := by simpa using e2
      refine iteT ?_
      have : nameB s = false := by unfold nameB; rw [decide_eq_false (show ¬ s.length ≤ 8 by omega)]; simp
      rw [this] at q
      exact q
    · have e2 : (s.length : Int) ≤ 8 := by simpa using e2
      have e1 : (1 : Int) ≤ s.length := of_decide_eq_true e1
      refine ⟨.str s, rfl, _, in_words s, _, rfl, ite2 (fun e3 => ?_) (fun e3 => ?_)⟩
      · have : nameB s = false := by unfold nameB; rw [decide_eq_true (of_decide_eq_true e3)]; simp
        rw [this] at q
        exact q
      · have e3 : s ∉ wordsL := by simpa using e3
        refine ⟨.str s, rfl, s, rfl, lc_each (fun d => (inD d (.str lettersS)).getD .non) ?_ (fun d hd => ?_) ?_⟩
        · unfold signs
          rw [List.length_map, Array.length_toList]
          exact hs
        · obtain ⟨c, hc, rfl⟩ := List.mem_map.mp hd
          exact ⟨_, rfl, fun n Qt hq => ⟨_, rfl, _, rfl, hq⟩⟩
        · refine ⟨_, ?_, q⟩
          have e4 : nameB s = s.cps.toList.all fun c => decide (c ∈ lettersS.cps.toList) := by
            unfold nameB
            rw [decide_eq_true (show 1 ≤ s.length by omega), decide_eq_true (show s.length ≤ 8 by omega), decide_eq_false e3]
            rfl
          rw [e4, ← all_eq]
          unfold signs
          rw [List.map_map]
          rfl
    · have e1 : ¬ (1 : Int) ≤ s.length := fun z => e1 (decide_eq_true z)
      have : nameB s = false := by unfold nameB; rw [decide_eq_false (show ¬ 1 ≤ s.length by omega)]; simp
      rw [this] at q
      exact q
end
end K0
set_option Elab.async false
set_option linter.all false
set_option maxRecDepth 100000
set_option maxHeartbeats 1000000
set_option autoImplicit false
namespace K0
open PySem L2 DL
section
variable {P : Program} {w : World} {K : PySem.W.Frag} {mg : Str → Option Value} {base : Heap} {C : Addr}

abbrev s__law_take : Stmt := top 20
abbrev N__law_take : List Str := ["_law_pot_here", "_law_upto", "_law_digit", "_law_prime", "_law_stirred"]
theorem sc__law_take : FnScope N__law_take ["_law_pot_here", "_law_upto"] (defScope s__law_take) := ⟨rfl, rfl, rfl, by decide +kernel, rfl, by decide +kernel, by decide +kernel⟩
abbrev s__law_pot : Stmt := top 19
abbrev N__law_pot : List Str := ["_law_script", "_law_k", "_law_cell", "_law_own"]
theorem sc__law_pot : FnScope N__law_pot ["_law_script", "_law_k"] (defScope s__law_pot) := ⟨rfl, rfl, rfl, by decide +kernel, rfl, by decide +kernel, by decide +kernel⟩
abbrev s__law_pots : Stmt := top 26
abbrev N__law_pots : List Str := ["_law_script", "_law_most", "_law_k"]
theorem sc__law_pots : FnScope N__law_pots ["_law_script", "_law_most"] (defScope s__law_pots) := ⟨rfl, rfl, rfl, by decide +kernel, rfl, by decide +kernel, by decide +kernel⟩
/-! ### the pot -/
def F_take : DF := fun ds n Q _ => ∃ k : Int, ds = [.pot, .int k] ∧ 0 < k ∧ k < 1073741824 ∧ 1 ≤ n ∧ ∀ r : Int, 0 ≤ r → r < k → Q (.int r) (n - 1)
theorem pot_set {Z : Addr → Prop} {p : Addr} {H : Hp} {n : Nat} {o s c : Int} (h : 0 ≤ o ∧ o < 10 ^ 300 ∧ 0 ≤ s ∧ s < 2 ^ 61 ∧ 0 ≤ c ∧ c + n ≤ 1000000) : PotAt (upd H p (.lst [.int o, .int s, .int c])) p n ∧ Kp p H (upd H p (.lst [.int o, .int s, .int c])) :=
  ⟨⟨o, s, c, upd_same, h⟩, fun a ob na ha => by rw [upd_ne na]; exact ha⟩
theorem ok_take (h : DefAt K mg "_law_take" s__law_take ["_law_pot_here", "_law_upto"]) (bt : Bt mg) : Fn1 P w K mg base K "_law_take" 1 F_take := by
  obtain ⟨f, fd, G, hm, hk, hb⟩ := h
  refine ⟨f, fd, _, G.ok (k := 0) sc__law_take (fun vs H Q E h => ?_) (fun cdv A outer s H vs Q E hr h => ?_), hm, hk, hb⟩
  · obtain ⟨ds, Z, p, n, x, Qd, hp, zp, hd, r, ⟨k, e1, _⟩, _⟩ := h
    subst e1
    rw [← r.len]
    rfl
  · obtain ⟨ds, Z, p, n, x, Qd, hp, zp, hd, r, ⟨k, e1, hk0, hk1, hn, hq⟩, hQ, _⟩ := h
    subst e1
    obtain ⟨v1, v2, rfl, r1, r2⟩ := reps2 r
    have r1 : v1 = .ref p := r1
    have r2 : v2 = .int k := r2
    subst r1 r2
    obtain ⟨o, sd, c, hH, ho0, ho1, hs0, hs1, hc0, hc1⟩ := hp
    have bI : bootBuiltins "int" = some (.type "int") := by decide +kernel
    refine ⟨_, pss_cons (ps_if (pt_cmpR op_gt (pe_ix ix_list (pv 0) pe_int (fun _ _ => rfl)) pe_int (nomark _))
        (pss_cons (ps_set (i := 2) sc__law_take.nd rfl (.inl rfl) (pe_op op_mod (pe_callTy call_int1 (by rfl) bt.int bI (pa_cons (pe_ix ix_list (pv 0) pe_int (fun _ _ => rfl)) pa_nil)) (pv 1)))
        (pss_cons (ps_asg (pe_op op_fdiv (pe_ix ix_list (pv 0) pe_int (fun _ _ => rfl)) (pv 1)) (pg_sub (pv 0) pe_int set_list))
        (pss_one (ps_ret (pv 2))))) pss_nil)
      (pss_cons (ps_asg (pe_op op_add (pe_ix ix_list (pv 0) pe_int (fun _ _ => rfl)) pe_int) (pg_sub (pv 0) pe_int set_list))
      (pss_cons (ps_set (i := 3) sc__law_take.nd rfl (.inl rfl) (pe_ix ix_list (pe_lst (pa_cons pe_int (pa_cons pe_int (pa_cons pe_int (pa_cons pe_int (pa_cons pe_int pa_nil)))))) (pe_op op_mod (pe_callTy call_int1 (by rfl) bt.int bI (pa_cons (pe_ix ix_list (pv 0) pe_int (fun _ _ => rfl)) pa_nil)) pe_int) (fun _ _ => rfl)))
      (pss_cons (ps_set (i := 4) sc__law_take.nd rfl (.inl rfl) (pe_op op_mod (pe_callTy call_int1 (by rfl) bt.int bI (pa_cons (pe_op op_pow (pe_callTy call_int1 (by rfl) bt.int bI (pa_cons (pe_op op_add (pe_op op_add (pe_ix ix_list (pv 0) pe_int (fun _ _ => rfl)) (pe_op op_mul (pe_op op_mul pe_int (pe_ix ix_list (pv 0) pe_int (fun _ _ => rfl))) (pe_ix ix_list (pv 0) pe_int (fun _ _ => rfl)))) pe_int) pa_nil)) pe_int) pa_nil)) (pv 3)))
      (pss_cons (ps_set (i := 4) sc__law_take.nd rfl (.inl rfl) (pe_op op_mod (pe_callTy call_int1 (by rfl) bt.int bI (pa_cons (pe_op op_mul (pv 4) (pe_op op_add (pe_op op_mod (pe_callTy call_int1 (by rfl) bt.int bI (pa_cons (pv 4) pa_nil)) pe_int) (pe_op op_mul pe_int (pe_ix ix_list (pv 0) pe_int (fun _ _ => rfl))))) pa_nil)) pe_int))
      (pss_one (ps_ret (pe_op op_mod (pe_callTy call_int1 (by rfl) bt.int bI (pa_cons (pe_op op_fdiv (pv 4) pe_int) pa_nil)) (pv 1)))))))), ?_⟩
    have a0 : SqL K H p [.int o, .int sd, .int c] := .inl (.inl hH)
    -- if pot[0] > 0
    refine ⟨.ref p, rfl, p, _, 0, .int o, rfl, rfl, a0, rfl, o, 0, rfl, rfl, _, rfl, ite2 (fun e => ?_) (fun e => ?_)⟩
    · have e : 0 < o := of_decide_eq_true e
      refine ⟨.ref p, rfl, p, _, 0, .int o, rfl, rfl, a0, rfl, .inl ⟨o, rfl, .int k, rfl, o, k, rfl, rfl, hk0, ?_⟩⟩
      refine ⟨.ref p, rfl, p, _, 0, .int o, rfl, rfl, a0, rfl, .int k, rfl, o, k, rfl, rfl, ⟨hk0, hk1⟩, ?_⟩
      refine ⟨.ref p, rfl, p, _, 0, 0, rfl, rfl, hH, rfl, ?_⟩
      refine ⟨.int (o % k), rfl, ?_⟩
      have hz : 0 ≤ o / k := Int.ediv_nonneg (by omega) (by omega)
      have hz2 : o / k ≤ o := Int.ediv_le_self _ (by omega)
      obtain ⟨P1, P2⟩ := pot_set (Z := Z) (p := p) (H := H) (n := n - 1) (o := o / k) (s := sd) (c := c) ⟨hz, by omega, hs0, hs1, hc0, by omega⟩
      exact hQ (.int (o % k)) (n - 1) _ _ P1 P2 rfl (hq _ (Int.emod_nonneg _ (by omega)) (Int.emod_lt_of_pos _ hk0))
    · have hcc : c + 1 ≤ 1000000 := by omega
      refine ⟨.ref p, rfl, p, _, 2, .int c, rfl, rfl, a0, rfl, c, 1, rfl, rfl, .ref p, rfl, p, _, 2, 2, rfl, rfl, hH, rfl, ?_⟩
      have hd0 : 0 ≤ c + 1 := by omega
      -- the prime
      obtain ⟨pr, hat, hp0, hp1⟩ : ∃ pr : Int, atI [V.int 2147483647, .int 2147483629, .int 2147483587, .int 2147483579, .int 2147483563] ((c + 1) % 5) = some (.int pr) ∧ 0 < pr ∧ pr < 2147483648 := by
        have h5 : (c + 1) % 5 = 0 ∨ (c + 1) % 5 = 1 ∨ (c + 1) % 5 = 2 ∨ (c + 1) % 5 = 3 ∨ (c + 1) % 5 = 4 := by omega
        rcases h5 with e | e | e | e | e <;> rw [e]
        · exact ⟨2147483647, rfl, by decide, by decide⟩
        · exact ⟨2147483629, rfl, by decide, by decide⟩
        · exact ⟨2147483587, rfl, by decide, by decide⟩
        · exact ⟨2147483579, rfl, by decide, by decide⟩
        · exact ⟨2147483563, rfl, by decide, by decide⟩
      have a1 : SqL K (upd H p (.lst [.int o, .int sd, .int (c + 1)])) p [.int o, .int sd, .int (c + 1)] := .inl (.inl upd_same)
      refine ⟨by show 5 ≤ sizeLine; decide, fun q nq => ?_⟩
      have nqp : q ≠ p := fun e => by rw [e, upd_same] at nq; cases nq
      have a2 : SqL K (upd (upd H p (.lst [.int o, .int sd, .int (c + 1)])) q (.lst [.int 2147483647, .int 2147483629, .int 2147483587, .int 2147483579, .int 2147483563])) p [.int o, .int sd, .int (c + 1)] := .inl (.inl (by rw [upd_ne (Ne.symm nqp), upd_same]))
      refine ⟨.ref p, rfl, p, _, 2, .int (c + 1), rfl, rfl, a2, rfl, .inl ⟨(c + 1), rfl, (c + 1), 5, rfl, rfl, (by show (0 : Int) < 5; decide), q, _, (c + 1) % 5, .int pr, rfl, rfl, .inl (.inl upd_same), hat, ?_⟩⟩
      -- the two stirrings
      have m0 : 0 ≤ 98849 * (c + 1) ∧ 98849 * (c + 1) ≤ 98849000000 := by omega
      have m1 : 0 ≤ 98849 * (c + 1) * (c + 1) := Int.mul_nonneg m0.1 hd0
      have m2 : 98849 * (c + 1) * (c + 1) ≤ 98849000000 * 1000000 := Int.mul_le_mul m0.2 hcc hd0 (by decide)
      refine ⟨.ref p, rfl, p, _, 1, .int sd, rfl, rfl, a2, rfl, .ref p, rfl, p, _, 2, .int (c + 1), rfl, rfl, a2, rfl, 98849, (c + 1), rfl, rfl, .inl ⟨by decide, by decide⟩, .ref p, rfl, p, _, 2, .int (c + 1), rfl, rfl, a2, rfl, 98849 * (c + 1), (c + 1), rfl, rfl, .inl ⟨by omega, by omega⟩, sd, 98849 * (c + 1) * (c + 1), rfl, rfl, sd + 98849 * (c + 1) * (c + 1), 67, rfl, rfl, .inl ⟨sd + 98849 * (c + 1) * (c + 1) + 67, rfl, ?_⟩⟩
      generalize hE : sd + 98849 * (c + 1) * (c + 1) + 67 = g at *
      have g0 : 0 ≤ g := by omega
      have g1 : g < 2 ^ 63 := by omega
      refine ⟨g, 3, rfl, rfl, ⟨by decide, by decide, by omega⟩, .inl ⟨g ^ (3 : Int).toNat, rfl, .int pr, rfl, g ^ (3 : Int).toNat, pr, rfl, rfl, hp0, ?_⟩⟩
      have t0 : 0 ≤ g ^ (3 : Int).toNat % pr := Int.emod_nonneg _ (by omega)
      have t1 : g ^ (3 : Int).toNat % pr < pr := Int.emod_lt_of_pos _ hp0
      refine ⟨.int (g ^ (3 : Int).toNat % pr), rfl, .int (g ^ (3 : Int).toNat % pr), rfl, .inl ⟨(g ^ (3 : Int).toNat % pr), rfl, (g ^ (3 : Int).toNat % pr), 10009, rfl, rfl, (by show (0 : Int) < 10009; decide), .ref p, rfl, p, _, 2, .int (c + 1), rfl, rfl, a2, rfl, 89, (c + 1), rfl, rfl, .inl ⟨by decide, by decide⟩, (g ^ (3 : Int).toNat % pr) % 10009, 89 * (c + 1), rfl, rfl, (g ^ (3 : Int).toNat % pr), (g ^ (3 : Int).toNat % pr) % 10009 + 89 * (c + 1), rfl, rfl, .inl ⟨by omega, by omega⟩, .inl ⟨(g ^ (3 : Int).toNat % pr) * ((g ^ (3 : Int).toNat % pr) % 10009 + 89 * (c + 1)), rfl, (g ^ (3 : Int).toNat % pr) * ((g ^ (3 : Int).toNat % pr) % 10009 + 89 * (c + 1)), 2305843009213693907, rfl, rfl, (by show (0 : Int) < 2305843009213693907; decide), ?_⟩⟩⟩
      refine ⟨_, rfl, _, 101, rfl, rfl, ⟨by decide, by decide⟩, .inl ⟨_, rfl, .int k, rfl, _, k, rfl, rfl, hk0, ?_⟩⟩
      have P1 : PotAt (upd (upd H p (.lst [.int o, .int sd, .int (c + 1)])) q (.lst [.int 2147483647, .int 2147483629, .int 2147483587, .int 2147483579, .int 2147483563])) p (n - 1) := ⟨o, sd, (c + 1), by rw [upd_ne (Ne.symm nqp), upd_same], ho0, ho1, hs0, hs1, hd0, by omega⟩
      refine hQ (.int (_ % k)) (n - 1) _ _ P1 (fun a ob na ha => ?_) rfl (hq _ (Int.emod_nonneg _ (by omega)) (Int.emod_lt_of_pos _ hk0))
      have ha1 : (upd H p (.lst [.int o, .int sd, .int (c + 1)])) a = some ob := by rw [upd_ne na]; exact ha
      rw [upd_ne (ne_of_none ha1 nq)]
      exact ha1

theorem op_powG {X : Cx} : OpR X (binaryOp .Pow) (rI (fun a n => 0 ≤ n ∧ (Builtin.Int.intBits a : Int) * n ≤ 2 ^ 27) fun i j => .int (i ^ j.toNat)) := opI fun _ _ _ _ _ _ _ hc q => PyProof.Rows.pow_int hc.1 hc.2 q
theorem big_pos : (0 : Int) < (10 ^ (60 : Int).toNat) ^ (5 : Int).toNat := by decide +kernel
theorem bit_small (b : Bool) : -(2 ^ 64) < (if b = true then (1 : Int) else 0) ∧ (if b = true then (1 : Int) else 0) < 2 ^ 64 := by cases b <;> decide
theorem own_ok (x : Int) (b : Bool) : 0 ≤ x % (10 ^ (60 : Int).toNat) ^ (5 : Int).toNat * (if b = true then 1 else 0) ∧ x % (10 ^ (60 : Int).toNat) ^ (5 : Int).toNat * (if b = true then 1 else 0) < 10 ^ 300 := by
  have h0 := Int.emod_nonneg x (Int.ne_of_gt big_pos)
  have h1 := Int.emod_lt_of_pos x big_pos
  have e : ((10 : Int) ^ (60 : Int).toNat) ^ (5 : Int).toNat = 10 ^ 300 := by decide +kernel
  rw [e] at h0 h1 ⊢
  cases b
  · rw [if_neg (by decide), Int.mul_zero]; exact ⟨Int.le_refl _, by decide +kernel⟩
  · rw [if_pos rfl, Int.mul_one]; exact ⟨h0, h1⟩
def NewPot (H : Hp) (q : Addr) (H' : Hp) : Prop := ∃ o s : Int, 0 ≤ o ∧ o < 10 ^ 300 ∧ 0 ≤ s ∧ s < 2 ^ 61 ∧ H q = none ∧ H' = upd H q (.lst [.int o, .int s, .int 0])
def spPot (K : PySem.W.Frag) : Sp := fun vs H Q _ => ∃ (a : Addr) (ns : List Int) (k : Int), vs = [.ref a, .int k] ∧ SqL K H a (ns.map V.int) ∧ 0 ≤ k ∧ k ≤ 100 ∧ ∀ q H', NewPot H q H' → Q (.ref q) H'
theorem ok_pot {f : Addr} {fd : FuncData} (G : Fun K "_law_pot" "_law_pot" s__law_pot f fd) (bt : Bt mg) (hab : mg "abs" = none) : FnOk P w K mg base CX0 1 f fd ["_law_script", "_law_k"] (spPot K) := by
  refine G.ok (k := 0) sc__law_pot (fun vs H Q E h => ?_) (fun cdv A outer s H vs Q E hr h => ?_)
  · obtain ⟨a, ns, k, rfl, _⟩ := h
    rfl
  · obtain ⟨a, ns, k, rfl, hS, hk0, hk1, hq⟩ := h
    have bI : bootBuiltins "int" = some (.type "int") := by decide +kernel
    have bA : bootBuiltins "abs" = some (.builtin "abs") := by decide +kernel
    have bL : bootBuiltins "len" = some (.builtin "len") := by decide +kernel
    refine ⟨_, pss_cons (ps_set (i := 2) sc__law_pot.nd rfl (.inl rfl) (pe_ifExp (pt_cmpR op_lt (pv 1) (pe_callB call_len (by rfl) bt.len bL (pa_cons (pv 0) pa_nil)) (nomark _)) (pe_ix ix_list (pv 0) (pv 1) (fun _ _ => rfl)) (pe_op op_add (pe_op op_mul pe_int (pv 1)) pe_int)))
      (pss_cons (ps_set (i := 3) sc__law_pot.nd rfl (.inl rfl) (pe_op op_mul (pe_op op_mod (pe_callTy call_int1 (by rfl) bt.int bI (pa_cons (pe_callB call_abs (by rfl) hab bA (pa_cons (pv 2) pa_nil)) pa_nil)) (pe_op op_powG (pe_op op_pow pe_int pe_int) pe_int)) (pe_callTy call_int1 (by rfl) bt.int bI (pa_cons (pe_cmpR op_ge (pe_callB call_abs (by rfl) hab bA (pa_cons (pv 2) pa_nil)) (pe_op op_pow pe_int pe_int) (nomark _)) pa_nil))))
      (pss_one (ps_ret (pe_lst (pa_cons (pv 3) (pa_cons (pe_op op_mod (pe_callTy call_int1 (by rfl) bt.int bI (pa_cons (pe_op op_add (pe_op op_add (pe_op op_mul (pe_op op_mod (pe_callTy call_int1 (by rfl) bt.int bI (pa_cons (pv 2) pa_nil)) pe_int) pe_int) (pe_op op_mul (pe_op op_mul pe_int (pv 1)) (pv 1))) pe_int) pa_nil)) pe_int) (pa_cons pe_int pa_nil))))))), ?_⟩
    refine ⟨.int k, rfl, .ref a, rfl, .ref a, ns.length, rfl, .inl ⟨ns.map V.int, hS, by rw [List.length_map]⟩, k, ns.length, rfl, rfl, _, rfl, ite2 (fun e => ?_) (fun e => ?_)⟩
    · have e : k < ns.length := of_decide_eq_true e
      have hkn : k.toNat < ns.length := by omega
      refine ⟨.ref a, rfl, .int k, rfl, a, ns.map V.int, k, .int ns[k.toNat], rfl, rfl, hS, ?_, ?_⟩
      · have e3 : ((k.toNat : Nat) : Int) = k := by omega
        have := atI_nat (xs := ns.map V.int) (j := k.toNat) (v := .int ns[k.toNat]) (by rw [List.getElem?_map, List.getElem?_eq_getElem hkn]; rfl)
        rw [e3] at this
        exact this
      · refine ⟨.int _, rfl, _, rfl, .inl ⟨_, rfl, 10, 60, rfl, rfl, ⟨by decide, by decide, by decide⟩, _, 5, rfl, rfl, ⟨by decide, by decide +kernel⟩, _, _, rfl, rfl, big_pos, .int _, rfl, _, rfl, 10, 18, rfl, rfl, ⟨by decide, by decide, by decide⟩, _, _, rfl, rfl, .inr ⟨_, rfl, _, _, rfl, rfl, .inr (bit_small _), ?_⟩⟩⟩
        refine ⟨_, rfl, .int _, rfl, .inl ⟨_, rfl, _, 2305843009213693951, rfl, rfl, (by show (0 : Int) < 2305843009213693951; decide), _, 70979, rfl, rfl, .inr ⟨by decide, by decide⟩, .int k, rfl, 7489, k, rfl, rfl, .inl ⟨by decide, by decide⟩, .int k, rfl, 7489 * k, k, rfl, rfl, .inl ⟨by omega, by omega⟩, _, _, rfl, rfl, _, 97, rfl, rfl, .inl ⟨_, rfl, _, 2305843009213693921, rfl, rfl, (by show (0 : Int) < 2305843009213693921; decide), (by show 3 ≤ sizeLine; decide), fun q nq => ?_⟩⟩⟩
        exact hq q _ ⟨_, _, (own_ok _ _).1, (own_ok _ _).2, Int.emod_nonneg _ (by decide), Int.lt_trans (Int.emod_lt_of_pos _ (by decide)) (by decide), nq, rfl⟩
    · refine ⟨.int k, rfl, 47, k, rfl, rfl, .inl ⟨by decide, by decide⟩, 47 * k, 31, rfl, rfl, ?_⟩
      refine ⟨.int _, rfl, _, rfl, .inl ⟨_, rfl, 10, 60, rfl, rfl, ⟨by decide, by decide, by decide⟩, _, 5, rfl, rfl, ⟨by decide, by decide +kernel⟩, _, _, rfl, rfl, big_pos, .int _, rfl, _, rfl, 10, 18, rfl, rfl, ⟨by decide, by decide, by decide⟩, _, _, rfl, rfl, .inr ⟨_, rfl, _, _, rfl, rfl, .inr (bit_small _), ?_⟩⟩⟩
      refine ⟨_, rfl, .int _, rfl, .inl ⟨_, rfl, _, 2305843009213693951, rfl, rfl, (by show (0 : Int) < 2305843009213693951; decide), _, 70979, rfl, rfl, .inr ⟨by decide, by decide⟩, .int k, rfl, 7489, k, rfl, rfl, .inl ⟨by decide, by decide⟩, .int k, rfl, 7489 * k, k, rfl, rfl, .inl ⟨by omega, by omega⟩, _, _, rfl, rfl, _, 97, rfl, rfl, .inl ⟨_, rfl, _, 2305843009213693921, rfl, rfl, (by show (0 : Int) < 2305843009213693921; decide), (by show 3 ≤ sizeLine; decide), fun q nq => ?_⟩⟩⟩
      exact hq q _ ⟨_, _, (own_ok _ _).1, (own_ok _ _).2, Int.emod_nonneg _ (by decide), Int.lt_trans (Int.emod_lt_of_pos _ (by decide)) (by decide), nq, rfl⟩

def spPots (K : PySem.W.Frag) : Sp := fun vs H Q _ => ∃ (a : Addr) (ns : List Int) (m : Int), vs = [.ref a, .int m] ∧ SqL K H a (ns.map V.int) ∧ 1 ≤ m ∧ m ≤ 100 ∧ ∀ (q : Addr) (ps : List Addr) (H' : Hp), Same H H' → H' q = some (.lst (ps.map V.ref)) → ps.Nodup → (∀ b ∈ ps, b ≠ q ∧ PotAt H' b 1000000) → Q (.ref q) H'
theorem ok_pots {f g : Addr} {fd gd : FuncData} (G : Fun K "_law_pots" "_law_pots" s__law_pots f fd) (bt : Bt mg) (GP : FnOk P w K mg base CX0 1 g gd ["_law_script", "_law_k"] (spPot K)) (mP : mg "_law_pot" = some (.ref g)) (kP : PySem.W.keepIn K (.ref g) = true) (bP : Binds K gd ["_law_script", "_law_k"] []) : FnOk P w K mg base CX0 2 f fd ["_law_script", "_law_most"] (spPots K) := by
  refine G.ok (k := 1) sc__law_pots (fun vs H Q E h => ?_) (fun cdv A outer s H vs Q E hr h => ?_)
  · obtain ⟨a, ns, k, rfl, _⟩ := h
    rfl
  · obtain ⟨a, ns, m, rfl, hS, hm0, hm1, hq⟩ := h
    have bI : bootBuiltins "int" = some (.type "int") := by decide +kernel
    have bL : bootBuiltins "len" = some (.builtin "len") := by decide +kernel
    have bX : bootBuiltins "max" = some (.builtin "max") := by decide +kernel
    have bN : bootBuiltins "min" = some (.builtin "min") := by decide +kernel
    refine ⟨_, pss_one (ps_ret (pe_lc (own := [("_law_k", 2)]) rfl sc__law_pots.nd (pi_range1 (by rfl) bt.range (pa_cons (pe_callB (call_max2 rfl) (by rfl) bt.max bX (pa_cons pe_int (pa_cons (pe_callB (call_min2 rfl) (by rfl) bt.min bN (pa_cons (pe_callB call_len (by rfl) bt.len bL (pa_cons (pv 0) pa_nil)) (pa_cons (pe_callTy call_int1 (by rfl) bt.int bI (pa_cons (pv 1) pa_nil)) pa_nil))) pa_nil))) pa_nil))
      (show BlkOk N__law_pots (defScope s__law_pots) _ _ from blkOk_by (by decide +kernel)) (fun s H C cl fp => pg_name (i := 2) sc__law_pots.nd rfl (.inl rfl)) (fun s H C cl fp => pts_nil) (fun s H C cl fp => pe_call GP hr (by rfl) mP kP bP .nil pass0 (pa_cons (pv 0) (pa_cons (pv 2) pa_nil))))), ?_⟩
    refine ⟨.ref a, rfl, .ref a, ns.length, rfl, .inl ⟨ns.map V.int, hS, by rw [List.length_map]⟩, .int m, rfl, .inl ⟨m, rfl, ns.length, m, rfl, 1, _, rfl, _, rfl, ?_, ?_, ?_⟩⟩
    · split <;> split <;> omega
    · split <;> split <;> omega
    · have hJ : (if (if m < (ns.length : Int) then m else (ns.length : Int)) > 1 then (if m < (ns.length : Int) then m else (ns.length : Int)) else 1).toNat ≤ 100 := by split <;> split <;> omega
      generalize (if (if m < (ns.length : Int) then m else (ns.length : Int)) > 1 then (if m < (ns.length : Int) then m else (ns.length : Int)) else 1).toNat = J at hJ ⊢
      intro D hD
      refine ⟨fun i m H' => m = J - i ∧ i ≤ J ∧ ∃ ps : List Addr, ps.length = i ∧ H' D = some (.lst (ps.map V.ref)) ∧ Same H H' ∧ ps.Nodup ∧ ∀ b ∈ ps, b ≠ D ∧ PotAt H' b 1000000, ⟨_, rfl, Nat.zero_le _, [], rfl, upd_same, fun b o e => by rw [upd_ne (ne_of_none e hD)]; exact e, List.nodup_nil, fun b hb => nomatch hb⟩, ?_⟩
      rintro i m' H' ⟨rfl, hi, ps, hl, hD', sm, nd, hp⟩
      by_cases hlt : i < J
      · refine .inr ⟨hlt, fun H2 => ∃ ps : List Addr, ps.length = i + 1 ∧ H2 D = some (.lst (ps.map V.ref)) ∧ Same H H2 ∧ ps.Nodup ∧ ∀ b ∈ ps, b ≠ D ∧ PotAt H2 b 1000000, fun H2 h2 => ⟨_, by omega, rfl, hlt, h2⟩, ?_⟩
        rintro y H2 ⟨rfl, rfl⟩
        refine ⟨rfl, ?_⟩
        dsimp only [tYes]
        rw [if_pos rfl]
        refine ⟨.ref a, rfl, .int (0 + (i : Int)), rfl, a, ns, 0 + (i : Int), rfl, sm.seq hS, by omega, by omega, ?_⟩
        rintro q H3 ⟨o, sd, h1, h2, h3, h4, nq, rfl⟩
        have nqD : q ≠ D := fun e => by rw [e, hD'] at nq; cases nq
        refine ⟨ps.map V.ref, by rw [upd_ne (Ne.symm nqD)]; exact hD', by rw [List.length_map, hl]; exact most_lt (Nat.le_trans (Nat.le_trans hi hJ) (by decide)), ps ++ [q], by rw [List.length_append, hl]; rfl, by rw [upd_same, List.map_append]; rfl, fun b o e => ?_, ?_, fun b hb => ?_⟩
        · rw [upd_ne (ne_of_none e hD), upd_ne (ne_of_none (sm b o e) nq)]; exact sm b o e
        · refine List.nodup_append.mpr ⟨nd, List.nodup_cons.mpr ⟨fun z => (nomatch z), List.nodup_nil⟩, fun b hb c hc e => ?_⟩
          have hc : c = q := List.mem_singleton.mp hc
          obtain ⟨o', s', c', hh, _⟩ := (hp b hb).2
          rw [e, hc, nq] at hh
          cases hh
        · rcases List.mem_append.mp hb with hb | hb
          · obtain ⟨n1, o', s', c', hh, r⟩ := hp b hb
            exact ⟨n1, o', s', c', by rw [upd_ne n1, upd_ne (ne_of_none hh nq)]; exact hh, r⟩
          · have hb : b = q := List.mem_singleton.mp hb
            rw [hb]
            exact ⟨nqD, o, sd, 0, by rw [upd_ne nqD, upd_same], h1, h2, h3, h4, Int.le_refl _, by decide⟩
      · have ei : i = J := by omega
        subst ei
        exact .inl ⟨Nat.le_refl _, hq D ps H' sm hD' nd hp⟩

end
end K0
set_option Elab.async false
set_option linter.all false
set_option maxRecDepth 100000
set_option maxHeartbeats 1000000
set_option autoImplicit false
namespace K0
open PySem L2 DL MK
section
variable {P : Program} {w : World} {K : PySem.W.Frag} {mg : Str → Option Value} {base : Heap} {C : Addr}
theorem names_len {ps : Row} (h : Nds ps) {ys : List Str} (nd : ys.Nodup) (hm : ∀ z, z ∈ ys ↔ z ∈ ps.map (·.1)) : ys.length = ps.length := by
  have : ys.Perm (ps.map (·.1)) := (List.perm_ext_iff_of_nodup nd h).mpr hm
  rw [this.length_eq, List.length_map]
theorem names_of (ps : Row) : (rowD ps).map (fun d => (ixD d (.int 0)).getD .non) = (ps.map (·.1)).map D.str := by
  unfold rowD
  rw [List.map_map, List.map_map]
  rfl
theorem ok_pairs_in (h : DefAt K mg "pairs_in" s_pairs_in ["value"]) (T : Tx K mg C) (h_is_tuple_of : Fn1 P w K mg base K "is_tuple_of" 1 (F_is_tuple_of C)) (h_is_name : Fn1 P w K mg base K "is_name" 1 F_is_name) (h_is_count : Fn1 P w K mg base K "is_count" 2 (F_is_count C)) : Fn1 P w K mg base K "pairs_in" 3 F_pairs_in := by
  refine h.fn sc_pairs_in T.bt (k := 2) (fun f cdv A outer s H E en => (dss_cons (set en 1 (v en 0))
    (dss_cons (ds_if (dt_val (eIsi en T.isi (da_cons (v en 0) (da_cons (ty_dict en) da_nil))))
    (dss_one (set en 1 (eTuple en (da_cons (lcItems en (defScope s_pairs_in) 0 3 4) da_nil))))
    dss_nil)
    (dss_cons (ds_if (dt_not (dt_val (eIsi en T.isi (da_cons (v en 1) (da_cons (ty_tuple en) da_nil)))))
    (dss_one (ds_ret de_non))
    dss_nil)
    (dss_cons (forIn en (inT en (v en 1)) (nm en 2)
    (dss_one (ds_if (DW.dt (dw_or (dt_not (dt_val (call en h_is_tuple_of (da_cons (v en 2) (da_cons de_int da_nil))))) (dw_or (dt_not (dt_val (call en h_is_name (da_cons (eIx en (v en 2) de_int) da_nil)))) (dw_or1 (dt_not (dt_val (call en h_is_count (da_cons (eIx en (v en 2) de_int) da_nil))))))))
    (dss_one (ds_ret de_non))
    dss_nil)))
    (dss_one (ds_ret (de_if (tEq en (lenS en (lc en (defScope s_pairs_in) [("pair", 2)] (inT en (v en 1)) (nm en.blk 2) dts_nil (eIx en.blk (v en.blk 2) de_int))) (eLen en (da_cons (v en 1) da_nil))) (v en 1) de_non)))))))) ?_ ?_
  · rintro ds n Q x ⟨ps, _, _, rfl | rfl, _⟩ <;> rfl
  · rintro ds n Q x ⟨ps, ht, hl, hds, q⟩
    have hl2 : (rowD ps).length = ps.length := by unfold rowD; rw [List.length_map]
    -- from the second test on
    have rest : ∀ v0 : D, dSeq (dIfS (dNot (dTest (dCl (isiD C) (dCons (dVar 1) (dCons (dC (.ty "tuple")) dNil))))) (dRet (dC .non)) dNext) (dSeq (dFor (dSeqT (dVar 1)) (gN 2) (dIfS (dOr (dNot (dTest (dCall (F_is_tuple_of C) [] (dCons (dVar 2) (dCons (dC (.int 2)) dNil))))) (dOr (dNot (dTest (dCall F_is_name [] (dCons (dOp ixD (dVar 2) (dC (.int 0))) dNil)))) (dNot (dTest (dCall (F_is_count C) [] (dCons (dOp ixD (dVar 2) (dC (.int 1))) dNil)))))) (dRet (dC .non)) dNext))
        (dRet (dIf (dTest (dOp eqD (dLenS (dLc (dSeqT (dVar 1)) (gN 2) dYes (dOp ixD (dVar 2) (dC (.int 0))) [2])) (dCl lenD (dCons (dVar 1) dNil)))) (dVar 1) (dC .non)))) { nx := fun _ n' => Q .non n', rt := Q } [some (.val v0), some (.val (.tup (rowD ps))), none, none, none] n x0 := by
      intro v0
      refine ⟨_, rfl, .bl true, rfl, true, rfl, iteF ?_⟩
      refine ⟨_, rfl, rowD ps, rfl, fun i ρ n' => n' = n ∧ ∃ y, ρ = [some (.val v0), some (.val (.tup (rowD ps))), y, none, none], ⟨rfl, none, rfl⟩, ?_, ?_⟩
      · rintro i ρ n' d hd ⟨rfl, y, rfl⟩
        obtain ⟨z, hz, rfl⟩ := List.mem_map.mp (List.mem_of_getElem? hd)
        have hn := ht.nm z hz
        have hi := ht.nn z hz
        refine ⟨_, rfl, _, rfl, pairD z, .tup, 2, rfl, rfl, rfl, true, rfl, iteF ?_⟩
        refine ⟨_, rfl, .str z.1, rfl, z.1, rfl, Nat.le_trans hn.hi (by decide), true, by rw [nameB_iff.mpr hn], iteF ?_⟩
        refine ⟨_, rfl, .int z.2, rfl, .int z.2, .int, rfl, rfl, rfl, true, ?_, iteF ⟨rfl, _, rfl⟩⟩
        show D.bl (decide (0 ≤ z.2)) = _
        rw [decide_eq_true hi]
      · rintro ρ n' ⟨rfl, y, rfl⟩
        refine ⟨_, rfl, rowD ps, rfl, lc_each (fun d => (ixD d (.int 0)).getD .non) (by rw [hl2]; exact Nat.le_trans (Nat.le_of_lt hl) (by decide)) (fun d hd => ?_) ?_⟩
        · obtain ⟨z, hz, rfl⟩ := List.mem_map.mp hd
          exact ⟨_, rfl, fun n Qt hq => ⟨_, rfl, _, rfl, hq⟩⟩
        · refine ⟨ps.map (·.1), by rw [names_of], by rw [List.length_map]; exact hl, fun ys nd hm => ?_⟩
          refine ⟨_, rfl, _, rfl, _, eq_int _ _, true, ?_, iteT ⟨_, rfl, q⟩⟩
          rw [names_len ht.nd nd hm, hl2, decide_eq_true rfl]
    rcases hds with rfl | rfl
    · refine ⟨_, rfl, _, rfl, _, rfl, .bl false, rfl, false, rfl, iteF (rest _)⟩
    · refine ⟨_, rfl, _, rfl, _, rfl, .bl true, rfl, true, rfl, iteT ?_⟩
      refine ⟨_, rfl, (by show 3 < 5; decide), (by show 4 < 5; decide), ?_, _, rfl, ?_⟩
      · rw [List.length_map]; exact Nat.le_trans (Nat.le_of_lt hl) (by decide)
      · have := rest (tblD ps)
        refine ⟨_, rfl, ?_⟩
        rw [items_eq]
        exact this
theorem ok_stores_of (h : DefAt K mg "stores_of" s_stores_of ["one", "other"]) (T : Tx K mg C) : Fn1 P w K mg base K "stores_of" 1 (F_stores_of C) := by
  refine h.fn sc_stores_of T.bt (k := 0) (fun f cdv A outer s H E en => (dss_one (ds_ret (sortS en (lc en (defScope s_stores_of) [("pair", 2)] (inT en (eAdd en (fld en T.cl T.nN (v en 0)) (fld en T.cl T.nN (v en 1)))) (nm en.blk 2) dts_nil (eIx en.blk (v en.blk 2) de_int)))))) ?_ ?_
  · rintro ds n Q x ⟨qs, rs, rfl, _⟩; rfl
  · rintro ds n Q x ⟨qs, rs, rfl, hl, q⟩
    have hl2 : ∀ ps : Row, (rowD ps).length = ps.length := fun ps => by unfold rowD; rw [List.length_map]
    have hadd : addD (.tup (rowD qs)) (.tup (rowD rs)) = some (.tup (rowD (qs ++ rs))) := by
      show (if _ then _ else _) = _
      rw [if_pos (by rw [hl2, hl2]; exact Nat.le_trans (Nat.le_of_lt hl) (by decide))]
      unfold rowD
      rw [List.map_append]
    refine ⟨_, rfl, _, _, rfl, rfl, _, rfl, _, _, rfl, rfl, _, hadd, _, rfl, lc_each (fun d => (ixD d (.int 0)).getD .non) (by rw [hl2, List.length_append]; exact Nat.le_trans (Nat.le_of_lt hl) (by decide)) (fun d hd => ?_) ?_⟩
    · obtain ⟨z, hz, rfl⟩ := List.mem_map.mp hd
      exact ⟨_, rfl, fun n Qt hq => ⟨_, rfl, _, rfl, hq⟩⟩
    · refine ⟨(qs ++ rs).map (·.1), by rw [names_of], by rw [List.length_map, List.length_append]; exact hl, fun ys so hm => q ys so fun s => ?_⟩
      rw [hm, List.map_append, List.mem_append]
end
end K0
set_option Elab.async false
set_option linter.all false
set_option maxRecDepth 100000
set_option maxHeartbeats 1000000
set_option autoImplicit false
namespace K0
open PySem L2 DL MK
section
variable {P : Program} {w : World} {K : PySem.W.Frag} {mg : Str → Option Value} {base : Heap} {C : Addr}
def asgVal : Stmt → Expr
  | .Assign _ v _ => v
  | _ => .Constant .none 0 ⟨0, 0, 0, 0⟩
abbrev s_Mark___init__ : Stmt := inClass (top 15) 0
abbrev N_Mark___init__ : List Str := ["self", "numbers", "pairs", "store", "number"]
theorem sc_Mark___init__ : FnScope N_Mark___init__ ["self", "numbers"] (defScope s_Mark___init__) := ⟨rfl, rfl, rfl, by decide +kernel, rfl, by decide +kernel, by decide +kernel⟩
theorem ok_init {f : Addr} {dV kV doc pm cdv ct oc : Value} {an od : Option Addr} {osl : Array (Option Value)} (lk : K.lookup f = some ⟨oc, od, .func (PySem.W.fnOf "__init__" "Mark.__init__" (defArgs s_Mark___init__) (defBody s_Mark___init__) (defScope s_Mark___init__) dV kV doc pm an cdv ct), osl⟩) (hcd : PySem.W.codeIn K cdv "Mark.__init__" = true)
    (T : Tx K mg C) (h_pairs_in : Fn1 P w K mg base K "pairs_in" 3 F_pairs_in) : FnOk P w K mg base CX0 4 f (PySem.W.fnOf "__init__" "Mark.__init__" (defArgs s_Mark___init__) (defBody s_Mark___init__) (defScope s_Mark___init__) dV kV doc pm an cdv ct) ["self", "numbers"] (spMk K C (F_Mark C)) := by
  refine fn_of (k := 3) lk hcd sc_Mark___init__ (fun vs H Q E h => ?_) (fun A outer s H vs Q E hr h => ?_)
  · obtain ⟨y, dx, us, ds, Z, p, n, x, Qd, rfl, hy, zy, hp, zp, hd, rs, ⟨ps, ht, hl, hds, q⟩, hQ, _⟩ := h
    show us.length + 1 = 2
    rw [← rs.len]
    rcases hds with rfl | rfl <;> rfl
  · suffices hh : ∃ t, PSs (cxOf CX0 P w K mg base N_Mark___init__ "Mark.__init__" (defScope s_Mark___init__) f cdv A outer s H E).nox (defBody s_Mark___init__) t ∧ t { nx := fun _ H' => Q .non H', rt := Q } (L2.start N_Mark___init__ vs) H by
      obtain ⟨t, h1, h2⟩ := hh
      exact ⟨t, h1.nox, h2⟩
    obtain ⟨y, dx, us, ds, Z, p, n, x, Qd, rfl, hy, zy, hp, zp, hd, rs, ⟨ps, ht, hl, hds, q⟩, hQ, _⟩ := h
    obtain ⟨dn, rfl⟩ : ∃ d, ds = [d] := by rcases hds with rfl | rfl <;> exact ⟨_, rfl⟩
    obtain ⟨un, rfl, rn⟩ := reps1 rs
    have hyp : y ≠ p := fun e => zy (e ▸ zp)
    have en : En (fam P w K mg base N_Mark___init__ "Mark.__init__" (defScope s_Mark___init__) f cdv A outer s H E) P w K mg base N_Mark___init__ 3 := ⟨fun _ => rfl, fun _ => rfl, fun _ => rfl, fun _ => rfl, fun _ => rfl, fun _ => rfl, fun _ => rfl, fun _ => hr, sc_Mark___init__.nd, T.bt⟩
    have w0 : Wd K p H (zAdd Z y) (startD N_Mark___init__ [.con y, dn]) n (zAdd Z y) (L2.start N_Mark___init__ [.ref y, un]) H := start_wd hp (.inl zp) (fun a z e => z.elim (fun z => hd a z e) fun z => by rw [z, hy] at e; cases e) (reps_two rfl rn)
    have d1 : DS (fam P w K mg base N_Mark___init__ "Mark.__init__" (defScope s_Mark___init__) f cdv A outer s H E) K E0 ((defBody s_Mark___init__).getD 0 (.Pass ⟨0, 0, 0, 0⟩)) _ := (set en 2 (call en h_pairs_in (da_cons (v en 1) da_nil)))
    have d2 : DS (fam P w K mg base N_Mark___init__ "Mark.__init__" (defScope s_Mark___init__) f cdv A outer s H E) K E0 ((defBody s_Mark___init__).getD 1 (.Pass ⟨0, 0, 0, 0⟩)) _ := (ds_if (tIs (v en 2) de_non)
    (dss_one ds_never)
    dss_nil)
    obtain ⟨t1, p1, e1⟩ := d1
    obtain ⟨t2, p2, e2⟩ := d2
    have d3 : DE (fam P w K mg base N_Mark___init__ "Mark.__init__" (defScope s_Mark___init__) f cdv A outer s H E) K E0 (asgVal ((defBody s_Mark___init__).getD 2 (.Pass ⟨0, 0, 0, 0⟩))) _ := (eTuple en (da_cons (sortP en (lc en (defScope s_Mark___init__) [("store", 3), ("number", 4)] (inT en (v en 2)) (nms en.blk 2 (dgs_cons (nm en.blk 3) (dgs_cons (nm en.blk 4) dgs_nil))) (dts_one (tGt (v en.blk 4) de_int)) (de_tup (da_cons (v en.blk 3) (da_cons (v en.blk 4) da_nil))))) da_nil))
    obtain ⟨t3, p3, e3⟩ := d3
    refine ⟨_, pss_cons (p1 ()) (pss_cons (p2 ()) (pss_one (ps_fld (pv 0) (p3 ()) rfl))), ?_⟩
    have hl2 : (rowD ps).length = ps.length := by unfold rowD; rw [List.length_map]
    refine e1 (De := { nx := fun ρ n' => ρ = [some (.val (.con y)), some (.val dn), some (.val (.tup (rowD ps))), none, none] ∧ n' = n, rt := fun _ _ => False }) w0 HE.zero ⟨dn, rfl, ps, ht, hl, by rcases hds with h | h <;> (cases h; first | exact .inl rfl | exact .inr rfl), _, rfl, rfl, rfl⟩ (fun ρ1 n1 Z1 σ1 H1 w1 m1 h1 => ?_) (fun _ _ _ _ _ _ _ h => h.elim) (fun _ _ _ _ _ _ _ h => h.elim) (fun _ _ _ _ _ _ _ h => h.elim)
    obtain ⟨rfl, rfl⟩ := h1
    refine e2 (De := { nx := fun ρ n' => ρ = [some (.val (.con y)), some (.val dn), some (.val (.tup (rowD ps))), none, none] ∧ n' = n1, rt := fun _ _ => False }) w1 HE.zero ⟨_, rfl, _, rfl, false, rfl, iteF ⟨rfl, rfl⟩⟩ (fun ρ2 n2 Z2 σ2 H2 w2 m2 h2 => ?_) (fun _ _ _ _ _ _ _ h => h.elim) (fun _ _ _ _ _ _ _ h => h.elim) (fun _ _ _ _ _ _ _ h => h.elim)
    obtain ⟨rfl, rfl⟩ := h2
    refine e3 (Q := fun d n' => n' = n2 ∧ ∃ qs, Due ps qs ∧ d = .tup (rowD qs)) w2 HE.zero ?_ fun v H3 d n3 w3 k3 r3 h3 => ?_
    · refine ⟨_, rfl, rowD ps, rfl, lc_some posG (by rw [hl2]; exact Nat.le_trans (Nat.le_of_lt hl) (by decide)) (fun d hd => ?_) ?_⟩
      · obtain ⟨z, hz, rfl⟩ := List.mem_map.mp hd
        refine ⟨_, rfl, fun n Qt Qf ht hf => ⟨_, rfl, _, rfl, _, rfl, ite2 (fun e => ?_) (fun e => ?_)⟩⟩
        · exact ⟨_, rfl, _, rfl, (by show 2 ≤ most; decide), ht _ (if_pos (of_decide_eq_true e))⟩
        · exact hf (if_neg fun q => e (decide_eq_true q))
      · rw [pos_row]
        exact ⟨posR ps, rfl, Nat.lt_of_le_of_lt (posR_len _) hl, fun ys so hm => ⟨_, rfl, rfl, ys, pos_due so hm, rfl⟩⟩
    · obtain ⟨rfl, qs, due, rfl⟩ := h3
      obtain ⟨v0, ev0, r0⟩ := w3.val (i := 0) (d := .con y) rfl
      have r0 : v0 = .ref y := r0
      subst r0
      have hy3 : H3 y = some (.ins C dx []) := w3.keep y _ hyp hy
      refine ⟨_, ev0, y, C, dx, [], rfl, hy3, T.cl, T.nN, (by show 0 < 1000; decide), ?_⟩
      have zy3 : Z2 y := w3.sub y (.inr rfl)
      have mv : Mv Z2 H3 (zAdd Z y) (upd H3 y (.ins C dx (putF "numbers" v []))) := fun a o z h => ⟨fun g => z (w3.sub a g), by rw [upd_ne fun e => z (by rw [e]; exact zy3)]; exact h⟩
      refine hQ [("numbers", .tup (rowD qs))] n3 _ _ ?_ (fun a o na ny h => ?_) upd_same ⟨v, [], rfl, r3.mv mv, rfl⟩ (q qs due)
      · obtain ⟨oo, ss, cc, hpp, r⟩ := w3.pot
        exact ⟨oo, ss, cc, by rw [upd_ne (Ne.symm hyp)]; exact hpp, r⟩
      · rw [upd_ne ny]; exact w3.keep a o na h
end
end K0
set_option Elab.async false
set_option linter.all false
set_option maxRecDepth 100000
set_option maxHeartbeats 1000000
set_option autoImplicit false
/-! Marks joined, met, lessened, compared: in plain Lean. -/
namespace MK
open PySem L2 DL
open DSet (ltS)
theorem len_of_sub {α : Type} [DecidableEq α] : ∀ {l m : List α}, l.Nodup → (∀ x ∈ l, x ∈ m) → l.length ≤ m.length
  | [], _, _, _ => Nat.zero_le _
  | a :: l, m, nd, h => by
    obtain ⟨na, nd⟩ := List.nodup_cons.mp nd
    have ha := h a (List.mem_cons_self ..)
    have ih := len_of_sub (l := l) (m := m.erase a) nd fun x hx => (List.mem_erase_of_ne fun e => na (by rw [← e]; exact hx)).mpr (h x (List.mem_cons_of_mem _ hx))
    rw [List.length_erase_of_mem ha] at ih
    have := List.length_pos_of_mem ha
    rw [List.length_cons]
    omega
theorem strs_nd {ys : List Str} (so : ys.Pairwise ltS) : ys.Nodup := so.imp fun {a b} h (e : a = b) => DSet.ltS_irr b (by rw [e] at h; exact h)
/-- the row of a function over names -/
def rowOf (ys : List Str) (f : Str → Int) : Row := ys.map fun s => (s, f s)
theorem rowOf_names (ys : List Str) (f : Str → Int) : (rowOf ys f).map (·.1) = ys := by
  unfold rowOf
  rw [List.map_map]
  exact List.map_id'' (fun _ => rfl) ys
theorem rowOf_nd {ys : List Str} {f : Str → Int} (h : ys.Nodup) : Nds (rowOf ys f) := by
  unfold Nds
  rw [rowOf_names]
  exact h
theorem rowOf_val {ys : List Str} {f : Str → Int} (h : ys.Nodup) (s : Str) : val (rowOf ys f) s = if s ∈ ys then f s else 0 := by
  by_cases e : s ∈ ys
  · rw [if_pos e]
    exact val_mem (rowOf_nd (f := f) h) (z := (s, f s)) (List.mem_map.mpr ⟨s, e, rfl⟩)
  · rw [if_neg e]
    exact val_none (by rw [rowOf_names]; exact e)
theorem rowOf_tbl {ys : List Str} {f : Str → Int} (h : ys.Nodup) (hn : ∀ s ∈ ys, NameOk s) (hf : ∀ s ∈ ys, 0 ≤ f s) : Tbl (rowOf ys f) :=
  ⟨rowOf_nd h, fun z hz => by obtain ⟨s, hs, rfl⟩ := List.mem_map.mp hz; exact hf s hs, fun z hz => by obtain ⟨s, hs, rfl⟩ := List.mem_map.mp hz; exact hn s hs⟩
theorem comb {qs rs : Row} {ys : List Str} {f : Int → Int → Int} (hq : WF qs) (hr : WF rs) (so : ys.Pairwise ltS) (hm : ∀ s, s ∈ ys ↔ s ∈ qs.map (·.1) ∨ s ∈ rs.map (·.1)) (h0 : f 0 0 = 0) (hf : ∀ a b, 0 ≤ a → 0 ≤ b → 0 ≤ f a b) :
    Tbl (rowOf ys fun s => f (val qs s) (val rs s)) ∧ ∀ s, val (rowOf ys fun s => f (val qs s) (val rs s)) s = f (val qs s) (val rs s) := by
  have nd := strs_nd so
  refine ⟨rowOf_tbl nd (fun s hs => ?_) fun s _ => hf _ _ (hq.tbl.nonneg s) (hr.tbl.nonneg s), fun s => ?_⟩
  · rcases (hm s).mp hs with h | h
    · obtain ⟨z, hz, rfl⟩ := List.mem_map.mp h; exact hq.nm z hz
    · obtain ⟨z, hz, rfl⟩ := List.mem_map.mp h; exact hr.nm z hz
  · rw [rowOf_val nd]
    by_cases e : s ∈ ys
    · rw [if_pos e]
    · have e1 := fun h => e ((hm s).mpr h)
      rw [if_neg e, val_none fun h => e1 (.inl h), val_none fun h => e1 (.inr h), h0]
theorem comb_len {qs rs : Row} {ys : List Str} {f : Str → Int} (so : ys.Pairwise ltS) (hm : ∀ s, s ∈ ys ↔ s ∈ qs.map (·.1) ∨ s ∈ rs.map (·.1)) : (rowOf ys f).length ≤ qs.length + rs.length := by
  unfold rowOf
  rw [List.length_map]
  have : ys ⊆ qs.map (·.1) ++ rs.map (·.1) := fun s hs => List.mem_append.mpr ((hm s).mp hs)
  have := len_of_sub (strs_nd so) this
  rwa [List.length_append, List.length_map, List.length_map] at this
theorem Due.len {ps qs : Row} (d : Due ps qs) : qs.length ≤ ps.length := by
  have nd : qs.Nodup := d.so.imp fun {a b} h (e : a = b) => DSet.ltP_irr b (by rw [e] at h; exact h)
  exact len_of_sub nd fun z hz => ((d.me z).mp hz).1
def cutR (qs rs : Row) : Row := qs.filter fun z => decide (val rs z.1 < z.2)
theorem cut_tbl {qs rs : Row} (hq : WF qs) : Tbl (cutR qs rs) ∧ ∀ s, val (cutR qs rs) s = subI (val qs s) (val rs s) := by
  have sub : (cutR qs rs).Sublist qs := List.filter_sublist
  have nd : Nds (cutR qs rs) := List.Nodup.sublist (sub.map _) hq.nd
  refine ⟨⟨nd, fun z hz => Int.le_of_lt (hq.ps z (sub.subset hz)), fun z hz => hq.nm z (sub.subset hz)⟩, fun s => ?_⟩
  unfold subI
  by_cases h0 : val qs s = 0
  · have : val (cutR qs rs) s = 0 := val_none fun h => by
      obtain ⟨z, hz, e⟩ := List.mem_map.mp h
      have := hq.ps z (sub.subset hz)
      have e2 := val_mem hq.nd (sub.subset hz)
      rw [e] at e2
      omega
    rw [this, h0]
    split <;> rfl
  · have hm := val_ne hq.nd h0
    by_cases hl : val rs s < val qs s
    · rw [if_pos hl]
      exact val_mem nd (z := (s, val qs s)) (List.mem_filter.mpr ⟨hm, decide_eq_true hl⟩)
    · rw [if_neg hl]
      refine val_none fun h => ?_
      obtain ⟨z, hz, e⟩ := List.mem_map.mp h
      obtain ⟨hz1, hz2⟩ := List.mem_filter.mp hz
      have e2 := val_mem hq.nd hz1
      have hz2 := of_decide_eq_true hz2
      rw [e] at e2 hz2
      omega
def cutG (rs : Row) : D → Option D
  | .tup [.str s, .int i] => if val rs s < i then some (.tup [.str s, .int i]) else none
  | _ => none
theorem cut_row (rs l : Row) : (rowD l).filterMap (cutG rs) = rowD (cutR l rs) := by
  induction l with
  | nil => rfl
  | cons z l ih =>
    show (pairD z :: rowD l).filterMap (cutG rs) = _
    rw [List.filterMap_cons]
    unfold cutR
    rw [List.filter_cons]
    by_cases h : val rs z.1 < z.2
    · have : cutG rs (pairD z) = some (pairD z) := if_pos h
      rw [this, decide_eq_true h]
      show pairD z :: _ = _
      rw [ih]
      rfl
    · have : cutG rs (pairD z) = none := if_neg h
      rw [this, decide_eq_false h]
      exact ih
theorem cut_len (qs rs : Row) : (cutR qs rs).length ≤ qs.length := List.length_filter_le _ _
theorem leP_iff {qs rs : Row} (hq : WF qs) (hr : WF rs) : leP qs rs ↔ ∀ s, val qs s ≤ val rs s := by
  constructor
  · intro h s
    by_cases e : val qs s = 0
    · rw [e]; exact hr.tbl.nonneg s
    · exact h _ (val_ne hq.nd e)
  · intro h z hz
    have := h z.1
    rwa [val_mem hq.nd hz] at this
theorem eq_iff {qs rs : Row} (hq : WF qs) (hr : WF rs) : qs = rs ↔ ∀ s, val qs s = val rs s := ⟨fun h s => by rw [h], hq.ext hr⟩
theorem Due.mark {ps qs : Row} (h : Tbl ps) (d : Due ps qs) (hl : ps.length < 32) : Mk qs := ⟨d.wf h, Nat.lt_of_le_of_lt d.len hl⟩
end MK
set_option Elab.async false
set_option linter.all false
set_option maxRecDepth 100000
set_option maxHeartbeats 1000000
set_option autoImplicit false
namespace K0
open PySem L2 DL MK
section
variable {P : Program} {w : World} {K : PySem.W.Frag} {mg : Str → Option Value} {base : Heap} {C : Addr} {f : Addr}
abbrev s_Mark___getitem__ : Stmt := inClass (top 15) 1
abbrev N_Mark___getitem__ : List Str := ["self", "at", "store", "number"]
theorem sc_Mark___getitem__ : FnScope N_Mark___getitem__ ["self", "at"] (defScope s_Mark___getitem__) := ⟨rfl, rfl, rfl, by decide +kernel, rfl, by decide +kernel, by decide +kernel⟩
abbrev s_Mark___eq__ : Stmt := inClass (top 15) 6
abbrev N_Mark___eq__ : List Str := ["self", "other"]
theorem sc_Mark___eq__ : FnScope N_Mark___eq__ ["self", "other"] (defScope s_Mark___eq__) := ⟨rfl, rfl, rfl, by decide +kernel, rfl, by decide +kernel, by decide +kernel⟩
abbrev s_Mark___or__ : Stmt := inClass (top 15) 7
abbrev N_Mark___or__ : List Str := ["self", "other", "store"]
theorem sc_Mark___or__ : FnScope N_Mark___or__ ["self", "other"] (defScope s_Mark___or__) := ⟨rfl, rfl, rfl, by decide +kernel, rfl, by decide +kernel, by decide +kernel⟩
abbrev s_Mark___and__ : Stmt := inClass (top 15) 8
abbrev N_Mark___and__ : List Str := ["self", "other", "store"]
theorem sc_Mark___and__ : FnScope N_Mark___and__ ["self", "other"] (defScope s_Mark___and__) := ⟨rfl, rfl, rfl, by decide +kernel, rfl, by decide +kernel, by decide +kernel⟩
abbrev s_Mark___sub__ : Stmt := inClass (top 15) 9
abbrev N_Mark___sub__ : List Str := ["self", "other", "store", "number"]
theorem sc_Mark___sub__ : FnScope N_Mark___sub__ ["self", "other"] (defScope s_Mark___sub__) := ⟨rfl, rfl, rfl, by decide +kernel, rfl, by decide +kernel, by decide +kernel⟩
abbrev s_Mark___le__ : Stmt := inClass (top 15) 10
abbrev N_Mark___le__ : List Str := ["self", "other", "store", "number"]
theorem sc_Mark___le__ : FnScope N_Mark___le__ ["self", "other"] (defScope s_Mark___le__) := ⟨rfl, rfl, rfl, by decide +kernel, rfl, by decide +kernel, by decide +kernel⟩
abbrev s_Mark___lt__ : Stmt := inClass (top 15) 11
abbrev N_Mark___lt__ : List Str := ["self", "other"]
theorem sc_Mark___lt__ : FnScope N_Mark___lt__ ["self", "other"] (defScope s_Mark___lt__) := ⟨rfl, rfl, rfl, by decide +kernel, rfl, by decide +kernel, by decide +kernel⟩
abbrev s_Mark___ge__ : Stmt := inClass (top 15) 12
abbrev N_Mark___ge__ : List Str := ["self", "other"]
theorem sc_Mark___ge__ : FnScope N_Mark___ge__ ["self", "other"] (defScope s_Mark___ge__) := ⟨rfl, rfl, rfl, by decide +kernel, rfl, by decide +kernel, by decide +kernel⟩
abbrev s_Mark___gt__ : Stmt := inClass (top 15) 13
abbrev N_Mark___gt__ : List Str := ["self", "other"]
theorem sc_Mark___gt__ : FnScope N_Mark___gt__ ["self", "other"] (defScope s_Mark___gt__) := ⟨rfl, rfl, rfl, by decide +kernel, rfl, by decide +kernel, by decide +kernel⟩
theorem ok_get (h : MethAt K C "__getitem__" "Mark.__getitem__" s_Mark___getitem__ ["self", "at"] f) (T : Tx K mg C) : ∃ fd, OwnM P w K mg base K C "__getitem__" 1 (F_get C) f fd ["self", "at"] := by
  refine h.ow sc_Mark___getitem__ T.bt (k := 0) (fun f cdv A outer s H E en => (dss_cons (forIn en (inT en (fld en T.cl T.nN (v en 0))) (nms en 2 (dgs_cons (nm en 2) (dgs_cons (nm en 3) dgs_nil)))
    (dss_one (ds_if (tEq en (v en 2) (v en 1))
    (dss_one (ds_ret (v en 3)))
    dss_nil)))
    (dss_one (ds_ret de_int)))) ?_ ?_
  · rintro ds n Q x ⟨qs, s, rfl, _⟩; rfl
  · rintro ds n Q x ⟨qs, s, rfl, hM, hs, q⟩
    refine ⟨_, rfl, _, _, rfl, rfl, rowD qs, rfl, fun i ρ n' => n' = n ∧ (∃ y z, ρ = [some (.val (markD C qs)), some (.val (.str s)), y, z]) ∧ ∀ z ∈ qs.take i, z.1 ≠ s, ⟨rfl, ⟨none, none, rfl⟩, fun z hz => nomatch hz⟩, ?_, ?_⟩
    · rintro i ρ n' d hd ⟨rfl, ⟨y, z, rfl⟩, hn⟩
      have hd2 := hd
      unfold rowD at hd2
      rw [List.getElem?_map] at hd2
      cases e : qs[i]? with
      | none => rw [e] at hd2; cases hd2
      | some z =>
        rw [e] at hd2
        cases hd2
        have hz := List.mem_of_getElem? e
        refine ⟨_, rfl, _, rfl, _, rfl, _, eq_str (hM.wf.nm z hz).ok hs, _, rfl, ite2 (fun e2 => ?_) (fun e2 => ?_)⟩
        · have e2 : z.1 = s := of_decide_eq_true e2
          refine ⟨_, rfl, ?_⟩
          have := val_mem hM.wf.nd hz
          rw [e2] at this
          rw [this] at q
          exact q
        · have e2 : z.1 ≠ s := fun q => e2 (decide_eq_true q)
          refine ⟨rfl, ⟨_, _, rfl⟩, fun y hy => ?_⟩
          rw [List.take_add_one, e] at hy
          rcases List.mem_append.mp hy with hy | hy
          · exact hn y hy
          · have : y = z := by simpa using hy
            rw [this]; exact e2
    · rintro ρ n' ⟨rfl, ⟨y, z, rfl⟩, hn⟩
      rw [row_len, List.take_length] at hn
      have : val qs s = 0 := val_none fun h => by obtain ⟨z, hz, e⟩ := List.mem_map.mp h; exact hn z hz e
      rw [this] at q
      exact q
theorem isi_mark (qs : Row) : isiD C [markD C qs, .con C] = some (.bl true) := by
  rw [isi_eq (a := .own C) (b := .own C) rfl (by simp [okT]) rfl (by simp [okT])]
  simp [isiT]
theorem ok_eq (h : MethAt K C "__eq__" "Mark.__eq__" s_Mark___eq__ ["self", "other"] f) (T : Tx K mg C) : ∃ fd, OwnM P w K mg base K C "__eq__" 1 (F_eq C) f fd ["self", "other"] := by
  refine h.ow sc_Mark___eq__ T.bt (k := 0) (fun f cdv A outer s H E en => (dss_one (ds_ret (de_and (eIsi en T.isi (da_cons (v en 1) (da_cons (gl en (d := .con C) T.markV fun _ _ _ => rfl) da_nil))) (de_one (eEq en (fld en T.cl T.nN (v en 0)) (fld en T.cl T.nN (v en 1)))))))) ?_ ?_
  · rintro ds n Q x ⟨qs, s, rfl, _⟩; rfl
  · rintro ds n Q x ⟨qs, rs, rfl, hq, hr, q⟩
    refine ⟨_, rfl, _, isi_mark rs, true, rfl, iteT ⟨_, rfl, _, _, rfl, rfl, _, rfl, _, _, rfl, rfl, _, eq_pl (k := 2) (c := decide (qs = rs)) (row_pl hq.wf.nm) (row_pl hr.wf.nm) ?_, q _ (by simp)⟩⟩
    rw [rowD_inj]; simp
theorem ok_le (h : MethAt K C "__le__" "Mark.__le__" s_Mark___le__ ["self", "other"] f) (T : Tx K mg C) (h_get : Ow1 P w K mg base C "__getitem__" 1 (F_get C)) : ∃ fd, OwnM P w K mg base K C "__le__" 3 (F_cmp C leP) f fd ["self", "other"] := by
  refine h.ow sc_Mark___le__ T.bt (k := 2) (fun f cdv A outer s H E en => (dss_cons (ds_if (dt_not (dt_val (eIsi en T.isi (da_cons (v en 1) (da_cons (gl en (d := .con C) T.markV fun _ _ _ => rfl) da_nil)))))
    (dss_one ds_never)
    dss_nil)
    (dss_one (ds_ret (eAll en (da_cons (lc en (defScope s_Mark___le__) [("store", 2), ("number", 3)] (inT en (fld en T.cl T.nN (v en 0))) (nms en.blk 2 (dgs_cons (nm en.blk 2) (dgs_cons (nm en.blk 3) dgs_nil))) dts_nil (eLe (v en.blk 3) (ownIx en.blk h_get (v en.blk 1) (v en.blk 2)))) da_nil)))))) ?_ ?_
  · rintro ds n Q x ⟨qs, s, rfl, _⟩; rfl
  · rintro ds n Q x ⟨qs, rs, rfl, hq, hr, q⟩
    refine ⟨_, rfl, _, isi_mark rs, true, rfl, iteF ⟨_, rfl, _, _, rfl, rfl, rowD qs, rfl, lc_each (fun d => match d with | .tup [.str s, .int i] => .bl (decide (i ≤ val rs s)) | _ => .non) (by rw [row_len]; exact Nat.le_trans (Nat.le_of_lt hq.le) (by decide)) (fun d hd => ?_) ?_⟩⟩
    · obtain ⟨z, hz, rfl⟩ := List.mem_map.mp hd
      exact ⟨_, rfl, fun n Qt hQ => ⟨_, rfl, _, rfl, _, rfl, ⟨_, rfl⟩, rs, z.1, rfl, hr, (hq.wf.nm z hz).ok, _, rfl, hQ⟩⟩
    · refine ⟨_, ?_, q (qs.all fun z => decide (z.2 ≤ val rs z.1)) ?_⟩
      · rw [← all_eq]
        unfold rowD
        rw [List.map_map]
        rfl
      · unfold leP; simp
theorem ok_lt (h : MethAt K C "__lt__" "Mark.__lt__" s_Mark___lt__ ["self", "other"] f) (T : Tx K mg C) (h_le : Ow1 P w K mg base C "__le__" 3 (F_cmp C leP)) : ∃ fd, OwnM P w K mg base K C "__lt__" 4 (F_cmp C ltP') f fd ["self", "other"] := by
  refine h.ow sc_Mark___lt__ T.bt (k := 3) (fun f cdv A outer s H E en => (dss_cons (ds_if (dt_not (dt_val (eIsi en T.isi (da_cons (v en 1) (da_cons (gl en (d := .con C) T.markV fun _ _ _ => rfl) da_nil)))))
    (dss_one ds_never)
    dss_nil)
    (dss_one (ds_ret (de_and (ownCmp en h_le (v en 0) (v en 1)) (de_one (eNe en (fld en T.cl T.nN (v en 0)) (fld en T.cl T.nN (v en 1))))))))) ?_ ?_
  · rintro ds n Q x ⟨qs, s, rfl, _⟩; rfl
  · rintro ds n Q x ⟨qs, rs, rfl, hq, hr, q⟩
    refine ⟨_, rfl, _, isi_mark rs, true, rfl, iteF ⟨_, rfl, _, rfl, ⟨_, rfl⟩, ⟨_, rfl⟩, qs, rs, rfl, hq, hr, fun b hb => ⟨b, rfl, ite2 (fun e => ?_) (fun e => ?_)⟩⟩⟩
    · refine ⟨_, rfl, _, _, rfl, rfl, _, rfl, _, _, rfl, rfl, _, ne_pl (k := 2) (c := decide (qs = rs)) (row_pl hq.wf.nm) (row_pl hr.wf.nm) (by rw [rowD_inj]; simp), q _ ?_⟩
      unfold ltP'
      simp [hb.mp e]
    · refine q false ⟨fun z => (nomatch z), fun z => absurd (hb.mpr z.1) e⟩
theorem ok_ge (h : MethAt K C "__ge__" "Mark.__ge__" s_Mark___ge__ ["self", "other"] f) (T : Tx K mg C) (h_le : Ow1 P w K mg base C "__le__" 3 (F_cmp C leP)) : ∃ fd, OwnM P w K mg base K C "__ge__" 4 (F_cmp C fun q r => leP r q) f fd ["self", "other"] := by
  refine h.ow sc_Mark___ge__ T.bt (k := 3) (fun f cdv A outer s H E en => (dss_cons (ds_if (dt_not (dt_val (eIsi en T.isi (da_cons (v en 1) (da_cons (gl en (d := .con C) T.markV fun _ _ _ => rfl) da_nil)))))
    (dss_one ds_never)
    dss_nil)
    (dss_one (ds_ret (ownCmp en h_le (v en 1) (v en 0)))))) ?_ ?_
  · rintro ds n Q x ⟨qs, s, rfl, _⟩; rfl
  · rintro ds n Q x ⟨qs, rs, rfl, hq, hr, q⟩
    exact ⟨_, rfl, _, isi_mark rs, true, rfl, iteF ⟨_, rfl, _, rfl, ⟨_, rfl⟩, ⟨_, rfl⟩, rs, qs, rfl, hr, hq, q⟩⟩
theorem ok_gt (h : MethAt K C "__gt__" "Mark.__gt__" s_Mark___gt__ ["self", "other"] f) (T : Tx K mg C) (h_lt : Ow1 P w K mg base C "__lt__" 4 (F_cmp C ltP')) : ∃ fd, OwnM P w K mg base K C "__gt__" 5 (F_cmp C fun q r => ltP' r q) f fd ["self", "other"] := by
  refine h.ow sc_Mark___gt__ T.bt (k := 4) (fun f cdv A outer s H E en => (dss_cons (ds_if (dt_not (dt_val (eIsi en T.isi (da_cons (v en 1) (da_cons (gl en (d := .con C) T.markV fun _ _ _ => rfl) da_nil)))))
    (dss_one ds_never)
    dss_nil)
    (dss_one (ds_ret (ownCmp en h_lt (v en 1) (v en 0)))))) ?_ ?_
  · rintro ds n Q x ⟨qs, s, rfl, _⟩; rfl
  · rintro ds n Q x ⟨qs, rs, rfl, hq, hr, q⟩
    exact ⟨_, rfl, _, isi_mark rs, true, rfl, iteF ⟨_, rfl, _, rfl, ⟨_, rfl⟩, ⟨_, rfl⟩, rs, qs, rfl, hr, hq, q⟩⟩
theorem strs_len {ys : List Str} {qs rs : Row} (so : ys.Pairwise DSet.ltS) (hm : ∀ s, s ∈ ys ↔ s ∈ qs.map (·.1) ∨ s ∈ rs.map (·.1)) : ys.length ≤ qs.length + rs.length := by
  have := comb_len (f := fun _ => 0) so hm
  unfold rowOf at this
  rwa [List.length_map] at this
theorem ok_or (h : MethAt K C "__or__" "Mark.__or__" s_Mark___or__ ["self", "other"] f) (T : Tx K mg C) (h_get : Ow1 P w K mg base C "__getitem__" 1 (F_get C)) (h_stores_of : Fn1 P w K mg base K "stores_of" 1 (F_stores_of C)) (h_Mark : Mk1 P w K mg base "Mark" C 4 (F_Mark C)) : ∃ fd, OwnM P w K mg base K C "__or__" 6 (F_bin C maxI) f fd ["self", "other"] := by
  refine h.ow sc_Mark___or__ T.bt (k := 5) (fun f cdv A outer s H E en => (dss_cons (ds_if (dt_not (dt_val (eIsi en T.isi (da_cons (v en 1) (da_cons (gl en (d := .con C) T.markV fun _ _ _ => rfl) da_nil)))))
    (dss_one ds_never)
    dss_nil)
    (dss_one (ds_ret (make en h_Mark (da_cons (eTuple en (da_cons (lc en (defScope s_Mark___or__) [("store", 2)] (inL en (call en h_stores_of (da_cons (v en 0) (da_cons (v en 1) da_nil)))) (nm en.blk 2) dts_nil (de_tup (da_cons (v en.blk 2) (da_cons (eMax en.blk (da_cons (eInt en.blk (da_cons (ownIx en.blk h_get (v en.blk 0) (v en.blk 2)) da_nil)) (da_cons (eInt en.blk (da_cons (ownIx en.blk h_get (v en.blk 1) (v en.blk 2)) da_nil)) da_nil))) da_nil)))) da_nil)) da_nil)))))) ?_ ?_
  · rintro ds n Q x ⟨qs, s, rfl, _⟩; rfl
  · rintro ds n Q x ⟨qs, rs, rfl, hq, hr, hl, q⟩
    refine ⟨_, rfl, _, isi_mark rs, true, rfl, iteF ⟨_, rfl, _, rfl, qs, rs, rfl, by omega, fun ys so hm => ⟨_, rfl, lc_each (fun d => match d with | .str s => pairD (s, maxI (val qs s) (val rs s)) | _ => .non) ?_ (fun d hd => ?_) ?_⟩⟩⟩
    · have := strs_len so hm
      rw [List.length_map]
      exact Nat.le_trans this (Nat.le_trans (Nat.le_of_lt hl) (by decide))
    · obtain ⟨s, hs, rfl⟩ := List.mem_map.mp hd
      have hok : PyData.strOk s = true := by
        rcases (hm s).mp hs with h | h
        · obtain ⟨z, hz, rfl⟩ := List.mem_map.mp h; exact (hq.wf.nm z hz).ok
        · obtain ⟨z, hz, rfl⟩ := List.mem_map.mp h; exact (hr.wf.nm z hz).ok
      exact ⟨_, rfl, fun n Qt hQ => ⟨_, rfl, _, rfl, _, rfl, ⟨_, rfl⟩, qs, s, rfl, hq, hok, _, rfl, _, rfl, _, rfl, ⟨_, rfl⟩, rs, s, rfl, hr, hok, _, rfl, _, rfl, (by show 2 ≤ most; decide), hQ⟩⟩
    · obtain ⟨tb, hv⟩ := comb (f := maxI) hq.wf hr.wf so hm rfl (fun a b ha hb => by unfold maxI; split <;> assumption)
      have hlen := comb_len (f := fun s => maxI (val qs s) (val rs s)) so hm
      refine ⟨_, rfl, rowOf ys fun s => maxI (val qs s) (val rs s), tb, by omega, .inl ?_, fun ts due => q ts (due.mark tb (by omega)) fun s => by rw [due.val tb, hv]⟩
      unfold rowD rowOf
      rw [List.map_map, List.map_map]
      rfl
theorem ok_and (h : MethAt K C "__and__" "Mark.__and__" s_Mark___and__ ["self", "other"] f) (T : Tx K mg C) (h_get : Ow1 P w K mg base C "__getitem__" 1 (F_get C)) (h_stores_of : Fn1 P w K mg base K "stores_of" 1 (F_stores_of C)) (h_Mark : Mk1 P w K mg base "Mark" C 4 (F_Mark C)) : ∃ fd, OwnM P w K mg base K C "__and__" 6 (F_bin C minI) f fd ["self", "other"] := by
  refine h.ow sc_Mark___and__ T.bt (k := 5) (fun f cdv A outer s H E en => (dss_cons (ds_if (dt_not (dt_val (eIsi en T.isi (da_cons (v en 1) (da_cons (gl en (d := .con C) T.markV fun _ _ _ => rfl) da_nil)))))
    (dss_one ds_never)
    dss_nil)
    (dss_one (ds_ret (make en h_Mark (da_cons (eTuple en (da_cons (lc en (defScope s_Mark___and__) [("store", 2)] (inL en (call en h_stores_of (da_cons (v en 0) (da_cons (v en 1) da_nil)))) (nm en.blk 2) dts_nil (de_tup (da_cons (v en.blk 2) (da_cons (eMin en.blk (da_cons (eInt en.blk (da_cons (ownIx en.blk h_get (v en.blk 0) (v en.blk 2)) da_nil)) (da_cons (eInt en.blk (da_cons (ownIx en.blk h_get (v en.blk 1) (v en.blk 2)) da_nil)) da_nil))) da_nil)))) da_nil)) da_nil)))))) ?_ ?_
  · rintro ds n Q x ⟨qs, s, rfl, _⟩; rfl
  · rintro ds n Q x ⟨qs, rs, rfl, hq, hr, hl, q⟩
    refine ⟨_, rfl, _, isi_mark rs, true, rfl, iteF ⟨_, rfl, _, rfl, qs, rs, rfl, by omega, fun ys so hm => ⟨_, rfl, lc_each (fun d => match d with | .str s => pairD (s, minI (val qs s) (val rs s)) | _ => .non) ?_ (fun d hd => ?_) ?_⟩⟩⟩
    · have := strs_len so hm
      rw [List.length_map]
      exact Nat.le_trans this (Nat.le_trans (Nat.le_of_lt hl) (by decide))
    · obtain ⟨s, hs, rfl⟩ := List.mem_map.mp hd
      have hok : PyData.strOk s = true := by
        rcases (hm s).mp hs with h | h
        · obtain ⟨z, hz, rfl⟩ := List.mem_map.mp h; exact (hq.wf.nm z hz).ok
        · obtain ⟨z, hz, rfl⟩ := List.mem_map.mp h; exact (hr.wf.nm z hz).ok
      exact ⟨_, rfl, fun n Qt hQ => ⟨_, rfl, _, rfl, _, rfl, ⟨_, rfl⟩, qs, s, rfl, hq, hok, _, rfl, _, rfl, _, rfl, ⟨_, rfl⟩, rs, s, rfl, hr, hok, _, rfl, _, rfl, (by show 2 ≤ most; decide), hQ⟩⟩
    · obtain ⟨tb, hv⟩ := comb (f := minI) hq.wf hr.wf so hm rfl (fun a b ha hb => by unfold minI; split <;> assumption)
      have hlen := comb_len (f := fun s => minI (val qs s) (val rs s)) so hm
      refine ⟨_, rfl, rowOf ys fun s => minI (val qs s) (val rs s), tb, by omega, .inl ?_, fun ts due => q ts (due.mark tb (by omega)) fun s => by rw [due.val tb, hv]⟩
      unfold rowD rowOf
      rw [List.map_map, List.map_map]
      rfl
theorem ok_sub (h : MethAt K C "__sub__" "Mark.__sub__" s_Mark___sub__ ["self", "other"] f) (T : Tx K mg C) (h_get : Ow1 P w K mg base C "__getitem__" 1 (F_get C)) (h_Mark : Mk1 P w K mg base "Mark" C 4 (F_Mark C)) : ∃ fd, OwnM P w K mg base K C "__sub__" 6 (F_bin C subI) f fd ["self", "other"] := by
  refine h.ow sc_Mark___sub__ T.bt (k := 5) (fun f cdv A outer s H E en => (dss_cons (ds_if (dt_not (dt_val (eIsi en T.isi (da_cons (v en 1) (da_cons (gl en (d := .con C) T.markV fun _ _ _ => rfl) da_nil)))))
    (dss_one ds_never)
    dss_nil)
    (dss_one (ds_ret (make en h_Mark (da_cons (eTuple en (da_cons (lc en (defScope s_Mark___sub__) [("store", 2), ("number", 3)] (inT en (fld en T.cl T.nN (v en 0))) (nms en.blk 2 (dgs_cons (nm en.blk 2) (dgs_cons (nm en.blk 3) dgs_nil))) (dts_one (tGt (v en.blk 3) (ownIx en.blk h_get (v en.blk 1) (v en.blk 2)))) (de_tup (da_cons (v en.blk 2) (da_cons (v en.blk 3) da_nil)))) da_nil)) da_nil)))))) ?_ ?_
  · rintro ds n Q x ⟨qs, s, rfl, _⟩; rfl
  · rintro ds n Q x ⟨qs, rs, rfl, hq, hr, hl, q⟩
    refine ⟨_, rfl, _, isi_mark rs, true, rfl, iteF ⟨_, rfl, _, _, rfl, rfl, rowD qs, rfl, lc_some (cutG rs) (by rw [row_len]; exact Nat.le_trans (Nat.le_of_lt hq.le) (by decide)) (fun d hd => ?_) ?_⟩⟩
    · obtain ⟨z, hz, rfl⟩ := List.mem_map.mp hd
      refine ⟨_, rfl, fun n Qt Qf hT hF => ⟨_, rfl, _, rfl, _, rfl, ⟨_, rfl⟩, rs, z.1, rfl, hr, (hq.wf.nm z hz).ok, _, rfl, _, rfl, ite2 (fun e => ?_) (fun e => ?_)⟩⟩
      · exact ⟨_, rfl, _, rfl, (by show 2 ≤ most; decide), hT _ (if_pos (of_decide_eq_true e))⟩
      · exact hF (if_neg fun z => e (decide_eq_true z))
    · obtain ⟨tb, hv⟩ := cut_tbl (rs := rs) hq.wf
      have hlen := cut_len qs rs
      refine ⟨_, rfl, cutR qs rs, tb, by have := hq.le; omega, .inl ?_, fun ts due => q ts (due.mark tb (by have := hq.le; omega)) fun s => by rw [due.val tb, hv]⟩
      rw [cut_row]
end
end K0
set_option Elab.async false
set_option linter.all false
set_option maxRecDepth 100000
set_option maxHeartbeats 1000000
set_option autoImplicit false
/-! The law's own helpers as promises over data. -/
namespace MK
open PySem L2 DL
def F_of : DF := fun ds n Q _ => ∃ (s : D) (m : Int), ds = [.pot, s] ∧ lenD [s] = some (.int m) ∧ 0 < m ∧ m ≤ 1000000 ∧ 1 ≤ n ∧ ∀ r, 0 ≤ r → r < m → ∃ d, ixD s (.int r) = some d ∧ Q d (n - 1)
def F_turned : DF := fun ds n Q _ => ∃ l : List D, ds = [.pot, .lst l] ∧ l ≠ [] ∧ l.length ≤ 1000 ∧ 2 ≤ n ∧ ∀ l' : List D, l'.Perm l → Q (.lst l') (n - 2)
def F_figure : DF := fun ds n Q _ => ds = [.pot] ∧ 3 ≤ n ∧ ∀ (i : Int) (n' : Nat), 0 ≤ i → n ≤ n' + 3 → Q (.int i) n'
/-- names that are handed in -/
structure Nms (ys : List Str) : Prop where
  nd : ys.Nodup
  ne : ys ≠ []
  le : ys.length ≤ 6
  ok : ∀ y ∈ ys, NameOk y
def F_names : DF := fun ds n Q _ => ∃ m : Int, ds = [.pot, .int m] ∧ 1 ≤ m ∧ m ≤ 6 ∧ 10 ≤ n ∧ ∀ (ys : List Str) (n' : Nat), Nms ys → n ≤ n' + 10 → Q (.lst (ys.map .str)) n'
def F_pairs : DF := fun ds n Q _ => ∃ ys : List Str, ds = [.pot, .lst (ys.map .str)] ∧ Nms ys ∧ 26 ≤ n ∧ ∀ (ps : Row) (n' : Nat), Tbl ps → (∀ z ∈ ps, z.1 ∈ ys) → ps.length ≤ 6 → n ≤ n' + 26 → Q (.lst (rowD ps)) n'
def F_bent : DF := fun ds n Q _ => ∃ (ps : Row) (ys : List Str), ds = [.pot, tblD ps, .lst (ys.map .str)] ∧ Tbl ps ∧ Nms ys ∧ 43 ≤ n ∧ ∀ (qs : Row) (n' : Nat), Tbl qs → qs.map (·.1) = ys → n ≤ n' + 43 → Q (tblD qs) n'
def F_due : DF := fun ds n Q _ => ∃ ps : Row, ds = [.lst (rowD ps)] ∧ ps.length < 64 ∧ ∀ qs, Due ps qs → Q (.tup (rowD qs)) n
def F_truth : DF := fun ds n Q _ => ∃ a b : Bool, ds = [.bl a, .bl b] ∧ Q (.bl (decide (a = b))) n
/-- two tables over the names -/
structure Two (ps qs : Row) (ys : List Str) : Prop where
  nm : Nms ys
  tp : Tbl ps
  tq : Tbl qs
  sp : ∀ z ∈ ps, z.1 ∈ ys
  sq : ∀ z ∈ qs, z.1 ∈ ys
def F_two : DF := fun ds n Q _ => ∃ (ps qs : Row) (ys : List Str), ds = [tblD ps, tblD qs, .lst (ys.map .str)] ∧ Two ps qs ys ∧ Q (.bl true) n
theorem cut_from (l : List D) (k : Nat) (h : k ≤ l.length) : cutD l (some (k : Int)) none = l.drop k := by
  unfold cutD
  rw [HT.sIx_nat, HT.sIx_none, Nat.min_eq_left h]
  exact List.take_of_length_le (by rw [List.length_drop]; exact Nat.le_refl _)
theorem cut_to (l : List D) (k : Nat) (h : k ≤ l.length) : cutD l none (some (k : Int)) = l.take k := by
  unfold cutD
  rw [HT.sIx_nat, HT.sIx_none, Nat.min_eq_left h]
  rfl
theorem turn_perm (l : List D) (k : Nat) : (l.drop k ++ l.take k).Perm l := by
  have := (List.perm_append_comm (l₁ := l.drop k) (l₂ := l.take k))
  rwa [List.take_append_drop] at this
def unstr : D → Str
  | .str s => s
  | _ => ⟨#[]⟩
theorem perm_strs {l : List D} {ys : List Str} (h : l.Perm (ys.map .str)) : ∃ ss : List Str, l = ss.map .str ∧ ss.Perm ys := by
  refine ⟨l.map unstr, ?_, ?_⟩
  · rw [List.map_map]
    refine (List.map_id'' (fun _ => rfl) l).symm.trans (List.map_congr_left fun d hd => ?_)
    obtain ⟨s, _, rfl⟩ := List.mem_map.mp (h.subset hd)
    rfl
  · have := h.map unstr
    rwa [List.map_map, List.map_id'' (f := unstr ∘ D.str) (fun _ => rfl)] at this
abbrev PairP : D → Option D → Prop := fun d o => ∀ r, o = some r → ∃ (s : Str) (i : Int), d = .str s ∧ 0 ≤ i ∧ r = pairD (s, i)
theorem rel_row : ∀ {ss : List Str} {os : List (Option D)}, Paired PairP (ss.map .str) os → ∃ ps : Row, os.filterMap id = rowD ps ∧ (ps.map (·.1)).Sublist ss ∧ ∀ z ∈ ps, 0 ≤ z.2
  | [], _, .nil => ⟨[], rfl, List.Sublist.refl _, fun z hz => nomatch hz⟩
  | s :: ss, _, .cons (b := o) h r => by
    obtain ⟨ps, e, sub, nn⟩ := rel_row r
    cases o with
    | none => exact ⟨ps, by rw [List.filterMap_cons]; exact e, sub.cons _, nn⟩
    | some d =>
      obtain ⟨s', i, es, hi, ed⟩ := h d rfl
      cases es
      refine ⟨(s, i) :: ps, ?_, sub.cons₂ _, fun z hz => ?_⟩
      · rw [List.filterMap_cons]
        show d :: _ = _
        rw [e, ed]
        rfl
      · rcases List.mem_cons.mp hz with rfl | hz
        · exact hi
        · exact nn z hz
end MK
set_option Elab.async false
set_option linter.all false
set_option maxRecDepth 100000
set_option maxHeartbeats 1000000
set_option autoImplicit false
namespace K0
open PySem L2 DL MK
section
variable {P : Program} {w : World} {K : PySem.W.Frag} {mg : Str → Option Value} {base : Heap} {C : Addr} {f : Addr}
abbrev s__law_of : Stmt := top 21
abbrev N__law_of : List Str := ["_law_pot_here", "_law_some"]
theorem sc__law_of : FnScope N__law_of ["_law_pot_here", "_law_some"] (defScope s__law_of) := ⟨rfl, rfl, rfl, by decide +kernel, rfl, by decide +kernel, by decide +kernel⟩
abbrev s__law_turned : Stmt := top 22
abbrev N__law_turned : List Str := ["_law_pot_here", "_law_some", "_law_at", "_law_row"]
theorem sc__law_turned : FnScope N__law_turned ["_law_pot_here", "_law_some"] (defScope s__law_turned) := ⟨rfl, rfl, rfl, by decide +kernel, rfl, by decide +kernel, by decide +kernel⟩
abbrev s__law_figure : Stmt := top 27
abbrev N__law_figure : List Str := ["_law_pot_here", "_law_way"]
theorem sc__law_figure : FnScope N__law_figure ["_law_pot_here"] (defScope s__law_figure) := ⟨rfl, rfl, rfl, by decide +kernel, rfl, by decide +kernel, by decide +kernel⟩
abbrev s__law_pairs : Stmt := top 28
abbrev N__law_pairs : List Str := ["_law_pot_here", "_law_names_here", "_law_name"]
theorem sc__law_pairs : FnScope N__law_pairs ["_law_pot_here", "_law_names_here"] (defScope s__law_pairs) := ⟨rfl, rfl, rfl, by decide +kernel, rfl, by decide +kernel, by decide +kernel⟩
abbrev s__law_due : Stmt := top 29
abbrev N__law_due : List Str := ["_law_pairs_here", "_law_pair"]
theorem sc__law_due : FnScope N__law_due ["_law_pairs_here"] (defScope s__law_due) := ⟨rfl, rfl, rfl, by decide +kernel, rfl, by decide +kernel, by decide +kernel⟩
theorem ok_of (h : DefAt K mg "_law_of" s__law_of ["_law_pot_here", "_law_some"]) (bt : Bt mg) (h__law_take : Fn1 P w K mg base K "_law_take" 1 F_take) : Fn1 P w K mg base K "_law_of" 2 F_of := by
  refine h.fn sc__law_of bt (k := 1) (fun f cdv A outer s H E en => (dss_one (ds_ret (eIx en (v en 1) (call en h__law_take (da_cons (v en 0) (da_cons (eLen en (da_cons (v en 1) da_nil)) da_nil))))))) ?_ ?_
  · rintro ds n Q x ⟨s, m, rfl, _⟩; rfl
  · rintro ds n Q x ⟨s, m, rfl, hl, h0, h1, hn, q⟩
    exact ⟨s, rfl, .pot, rfl, s, rfl, _, hl, m, rfl, h0, by omega, hn, fun r h2 h3 => q r h2 h3⟩
theorem ok_turned (h : DefAt K mg "_law_turned" s__law_turned ["_law_pot_here", "_law_some"]) (bt : Bt mg) (h__law_take : Fn1 P w K mg base K "_law_take" 1 F_take) : Fn1 P w K mg base K "_law_turned" 2 F_turned := by
  refine h.fn sc__law_turned bt (k := 1) (fun f cdv A outer s H E en => (dss_cons (set en 2 (call en h__law_take (da_cons (v en 0) (da_cons (eLen en (da_cons (v en 1) da_nil)) da_nil))))
    (dss_cons (set en 3 (eAdd en (eSlice en (v en 1) (do_some (v en 2)) do_none) (eSlice en (v en 1) do_none (do_some (v en 2)))))
    (dss_one (ds_ret (de_if (tEq en (call en h__law_take (da_cons (v en 0) (da_cons de_int da_nil))) de_int) (eRev en (v en 3)) (v en 3))))))) ?_ ?_
  · rintro ds n Q x ⟨l, rfl, _⟩; rfl
  · rintro ds n Q x ⟨l, rfl, hne, hl, hn, q⟩
    have hp : 0 < l.length := List.length_pos_iff.mpr hne
    refine ⟨.pot, rfl, .lst l, rfl, _, rfl, l.length, rfl, by omega, by omega, by omega, fun r h0 h1 => ⟨_, rfl, ?_⟩⟩
    obtain ⟨k, rfl⟩ : ∃ k : Nat, r = (k : Int) := ⟨r.toNat, by omega⟩
    have hk : k ≤ l.length := by omega
    refine ⟨.lst l, rfl, .int k, rfl, k, rfl, .lst (l.drop k), congrArg (fun z => some (D.lst z)) (cut_from l k hk), .lst l, rfl, .int k, rfl, k, rfl, .lst (l.take k), congrArg (fun z => some (D.lst z)) (cut_to l k hk), .lst (l.drop k ++ l.take k), if_pos ?_, _, rfl, ?_⟩
    · rw [List.length_drop, List.length_take]
      exact Nat.le_trans (show l.length - k + min k l.length ≤ 1000 by omega) (by decide)
    · refine ⟨.pot, rfl, 2, rfl, by decide, by decide, by omega, fun r2 _ _ => ⟨_, eq_int _ _, _, rfl, ite2 (fun _ => ?_) (fun _ => ?_)⟩⟩
      · exact ⟨_, rfl, _, rfl, q _ ((List.reverse_perm _).trans (turn_perm l k))⟩
      · exact ⟨_, rfl, q _ (turn_perm l k)⟩
theorem ok_figure (h : DefAt K mg "_law_figure" s__law_figure ["_law_pot_here"]) (bt : Bt mg) (h__law_take : Fn1 P w K mg base K "_law_take" 1 F_take) (h__law_of : Fn1 P w K mg base K "_law_of" 2 F_of) : Fn1 P w K mg base K "_law_figure" 3 F_figure := by
  refine h.fn sc__law_figure bt (k := 2) (fun f cdv A outer s H E en => (dss_cons (set en 1 (call en h__law_take (da_cons (v en 0) (da_cons de_int da_nil))))
    (dss_cons (ds_if (tLt (v en 1) de_int)
    (dss_one (ds_ret (eIx en (de_lst (da_cons de_int (da_cons de_int (da_cons de_int (da_cons de_int (da_cons de_int da_nil)))))) (v en 1))))
    dss_nil)
    (dss_cons (ds_if (tLt (v en 1) de_int)
    (dss_one (ds_ret (call en h__law_take (da_cons (v en 0) (da_cons de_int da_nil)))))
    dss_nil)
    (dss_one (ds_ret (eAdd en (call en h__law_of (da_cons (v en 0) (da_cons (de_lst (da_cons (ePow de_int de_int) (da_cons (ePow de_int de_int) (da_cons (ePow de_int de_int) da_nil)))) da_nil))) (call en h__law_take (da_cons (v en 0) (da_cons de_int da_nil)))))))))) ?_ ?_
  · rintro ds n Q x ⟨rfl, _⟩; rfl
  · rintro ds n Q x ⟨rfl, hn, q⟩
    refine ⟨.pot, rfl, 8, rfl, by decide, by decide, by omega, fun r h0 h1 => ⟨_, rfl, _, rfl, _, rfl, _, rfl, ite2 (fun e => ?_) (fun e => ?_)⟩⟩
    · have e : r < 5 := of_decide_eq_true e
      refine ⟨by show 5 ≤ most; decide, _, rfl, ?_⟩
      have h5 : r = 0 ∨ r = 1 ∨ r = 2 ∨ r = 3 ∨ r = 4 := by omega
      rcases h5 with rfl | rfl | rfl | rfl | rfl
      · exact ⟨_, rfl, q _ _ (by decide) (by omega)⟩
      · exact ⟨_, rfl, q _ _ (by decide) (by omega)⟩
      · exact ⟨_, rfl, q _ _ (by decide) (by omega)⟩
      · exact ⟨_, rfl, q _ _ (by decide) (by omega)⟩
      · exact ⟨_, rfl, q _ _ (by decide) (by omega)⟩
    · refine ⟨_, rfl, _, rfl, _, rfl, ite2 (fun e => ?_) (fun e => ?_)⟩
      · exact ⟨.pot, rfl, 12, rfl, by decide, by decide, by omega, fun r2 h2 h3 => q _ _ h2 (by omega)⟩
      · refine ⟨.pot, rfl, _, rfl, _, rfl, _, rfl, by show 3 ≤ most; decide, .lst [.int (10 ^ 9), .int (10 ^ 18), .int (10 ^ 39)], 3, rfl, rfl, by decide, by decide, by omega, fun r2 h2 h3 => ?_⟩
        have h5 : r2 = 0 ∨ r2 = 1 ∨ r2 = 2 := by omega
        rcases h5 with rfl | rfl | rfl
        · exact ⟨.int (10 ^ 9), rfl, .pot, rfl, 1000, rfl, by decide, by decide, by omega, fun r3 h4 h5 => ⟨_, rfl, q _ _ (by omega) (by omega)⟩⟩
        · exact ⟨.int (10 ^ 18), rfl, .pot, rfl, 1000, rfl, by decide, by decide, by omega, fun r3 h4 h5 => ⟨_, rfl, q _ _ (by omega) (by omega)⟩⟩
        · exact ⟨.int (10 ^ 39), rfl, .pot, rfl, 1000, rfl, by decide, by decide, by omega, fun r3 h4 h5 => ⟨_, rfl, q _ _ (by omega) (by omega)⟩⟩
theorem ok_due (h : DefAt K mg "_law_due" s__law_due ["_law_pairs_here"]) (bt : Bt mg) : Fn1 P w K mg base K "_law_due" 1 F_due := by
  refine h.fn sc__law_due bt (k := 0) (fun f cdv A outer s H E en => (dss_one (ds_ret (eTuple en (da_cons (sortP en (lc en (defScope s__law_due) [("_law_pair", 1)] (inL en (v en 0)) (nm en.blk 1) (dts_one (tGt (eIx en.blk (v en.blk 1) de_int) de_int)) (v en.blk 1))) da_nil))))) ?_ ?_
  · rintro ds n Q x ⟨ps, rfl, _⟩; rfl
  · rintro ds n Q x ⟨ps, rfl, hl, q⟩
    refine ⟨_, rfl, rowD ps, rfl, lc_some posG (by rw [row_len]; exact Nat.le_trans (Nat.le_of_lt hl) (by decide)) (fun d hd => ?_) ?_⟩
    · obtain ⟨z, hz, rfl⟩ := List.mem_map.mp hd
      refine ⟨_, rfl, fun n Qt Qf ht hf => ⟨_, rfl, _, rfl, _, rfl, _, rfl, ite2 (fun e => ?_) (fun e => ?_)⟩⟩
      · exact ⟨_, rfl, ht _ (if_pos (of_decide_eq_true e))⟩
      · exact hf (if_neg fun q => e (decide_eq_true q))
    · rw [pos_row]
      exact ⟨posR ps, rfl, Nat.lt_of_le_of_lt (posR_len _) hl, fun ys so hm => ⟨_, rfl, q ys (pos_due so hm)⟩⟩
theorem ok_pairs (h : DefAt K mg "_law_pairs" s__law_pairs ["_law_pot_here", "_law_names_here"]) (bt : Bt mg) (h__law_take : Fn1 P w K mg base K "_law_take" 1 F_take) (h__law_turned : Fn1 P w K mg base K "_law_turned" 2 F_turned) (h__law_figure : Fn1 P w K mg base K "_law_figure" 3 F_figure) : Fn1 P w K mg base K "_law_pairs" 4 F_pairs := by
  refine h.fn sc__law_pairs bt (k := 3) (fun f cdv A outer s H E en => (dss_one (ds_ret (lc en (defScope s__law_pairs) [("_law_name", 2)] (inL en (call en h__law_turned (da_cons (v en 0) (da_cons (v en 1) da_nil)))) (nm en.blk 2) (dts_one (tGt (call en.blk h__law_take (da_cons (v en.blk 0) (da_cons de_int da_nil))) de_int)) (de_tup (da_cons (v en.blk 2) (da_cons (call en.blk h__law_figure (da_cons (v en.blk 0) da_nil)) da_nil))))))) ?_ ?_
  · rintro ds n Q x ⟨ys, rfl, _⟩; rfl
  · rintro ds n Q x ⟨ys, rfl, hy, hn, q⟩
    have hle := hy.le
    refine ⟨.pot, rfl, _, rfl, ys.map .str, rfl, fun e => hy.ne (List.map_eq_nil_iff.mp e), by rw [List.length_map]; omega, by omega, fun l' pm => ⟨l', rfl, ?_⟩⟩
    have hl' : l'.length = ys.length := by rw [pm.length_eq, List.length_map]
    refine lc_rel PairP 4 (by rw [hl']; exact Nat.le_trans hle (by decide)) (by rw [hl']; omega) (fun d hd => ?_) (fun os n' hp hn' => ?_)
    · obtain ⟨s, hs, rfl⟩ := List.mem_map.mp (pm.subset hd)
      refine ⟨_, rfl, fun n Qt Qf hc ht hf => ⟨.pot, rfl, 4, rfl, by decide, by decide, by omega, fun r h0 h1 => ⟨_, rfl, _, rfl, ite2 (fun e => ?_) (fun e => ?_)⟩⟩⟩
      · refine ⟨_, rfl, .pot, rfl, rfl, by omega, fun i n2 hi hn2 => ⟨by show 2 ≤ most; decide, ht _ _ (fun r e => ?_) (by omega)⟩⟩
        cases e
        exact ⟨s, i, rfl, hi, rfl⟩
      · exact hf _ (fun r e => nomatch e) (by omega)
    · obtain ⟨ss, rfl, pm2⟩ := perm_strs pm
      obtain ⟨ps, e, sub, nn⟩ := rel_row hp
      have nd : Nds ps := List.Nodup.sublist sub (pm2.nodup_iff.mpr hy.nd)
      have hin : ∀ z ∈ ps, z.1 ∈ ys := fun z hz => pm2.subset (sub.subset (List.mem_map.mpr ⟨z, hz, rfl⟩))
      rw [e]
      have hlp := sub.length_le
      rw [List.length_map, pm2.length_eq] at hlp
      rw [hl'] at hn'
      exact q ps n' ⟨nd, nn, fun z hz => hy.ok _ (hin z hz)⟩ hin (by omega) (by omega)
end
end K0
set_option Elab.async false
set_option linter.all false
set_option maxRecDepth 100000
set_option maxHeartbeats 1000000
set_option autoImplicit false
/-! Names made of letters. -/
namespace MK
open PySem L2 DL
abbrev Lt (c : Nat) : Prop := c ∈ lettersS.cps.toList
theorem str_len (s : Str) : s.length = s.cps.toList.length := by
  show s.cps.size = _
  rw [Array.length_toList]
theorem app_list (a b : Str) : (a ++ b).cps.toList = a.cps.toList ++ b.cps.toList := TL.tl_append a b
theorem joinL_nil : ∀ l : List (List Nat), TL.joinL [] l = l.flatten
  | [] => rfl
  | [p] => by show p = _; simp
  | p :: q :: r => by
    show p ++ ([] ++ TL.joinL [] (q :: r)) = _
    rw [List.nil_append, joinL_nil (q :: r)]
    rfl
theorem join_list (ys : List Str) : (Txt.join "" ys).cps.toList = (ys.map (·.cps.toList)).flatten := by
  have h : Txt.join "" ys = Str.join "" ys := StrLaws.glued_eq_join _ _
  rw [h]
  exact (TL.tl_join "" ys).trans (joinL_nil _)
theorem join_ok {ys : List Str} (h : ∀ y ∈ ys, ∃ c, Lt c ∧ y = ⟨#[c]⟩) : (Txt.join "" ys).length = ys.length ∧ ∀ c ∈ (Txt.join "" ys).cps.toList, Lt c := by
  rw [str_len, join_list]
  induction ys with
  | nil => exact ⟨rfl, fun c hc => nomatch hc⟩
  | cons y ys ih =>
    obtain ⟨c, hc, rfl⟩ := h y (List.mem_cons_self ..)
    obtain ⟨h1, h2⟩ := ih fun z hz => h z (List.mem_cons_of_mem _ hz)
    rw [List.map_cons, List.flatten_cons]
    refine ⟨?_, fun d hd => ?_⟩
    · rw [List.length_append, h1]
      show 1 + ys.length = ys.length + 1
      omega
    · rcases List.mem_append.mp hd with hd | hd
      · have : d = c := List.mem_singleton.mp hd
        rw [this]; exact hc
      · exact h2 d hd
theorem letters_len : lettersS.cps.toList.length = 26 := by decide +kernel
theorem letters_most : lettersS.length ≤ most := by decide +kernel
theorem len_letters : lenD [.str lettersS] = some (.int 26) := by
  show (if lettersS.length ≤ most then some (D.int lettersS.length) else none) = _
  rw [if_pos letters_most, str_len, letters_len]
  rfl
theorem ix_letters {r : Int} (h0 : 0 ≤ r) (h1 : r < 26) : ∃ c, Lt c ∧ ixD (.str lettersS) (.int r) = some (.str ⟨#[c]⟩) := by
  obtain ⟨k, rfl⟩ : ∃ k : Nat, r = (k : Int) := ⟨r.toNat, by omega⟩
  have hk : k < lettersS.cps.toList.length := by rw [letters_len]; omega
  refine ⟨lettersS.cps.toList[k], List.getElem_mem hk, ?_⟩
  show (if lettersS.length ≤ most then (atI lettersS.cps.toList (k : Int)).map (fun c => D.str ⟨#[c]⟩) else none) = _
  rw [if_pos letters_most, atI_nat (List.getElem?_eq_getElem hk)]
  rfl
/-- the stem with one letter put in -/
theorem cutS_to (z : Str) (k : Nat) (h : k ≤ z.length) : (cutS z none (some (k : Int))).cps.toList = z.cps.toList.take k := by
  unfold cutS
  rw [HT.sIx_nat, HT.sIx_none, Nat.min_eq_left h]
  rfl
theorem cutS_from (z : Str) (k : Nat) (h : k ≤ z.length) : (cutS z (some (k : Int)) none).cps.toList = z.cps.toList.drop k := by
  unfold cutS
  rw [HT.sIx_nat, HT.sIx_none, Nat.min_eq_left h]
  show (z.cps.toList.drop k).take (z.length - k) = _
  exact List.take_of_length_le (by rw [List.length_drop, str_len]; exact Nat.le_refl _)
def put1 (z : Str) (k : Nat) (c : Nat) : Str := cutS z none (some (k : Int)) ++ ⟨#[c]⟩ ++ cutS z (some (k : Int)) none
theorem put1_ok {z : Str} {k c : Nat} (hk : k ≤ z.length) (hc : Lt c) (hz : ∀ d ∈ z.cps.toList, Lt d) : (put1 z k c).length = z.length + 1 ∧ ∀ d ∈ (put1 z k c).cps.toList, Lt d := by
  have e : (put1 z k c).cps.toList = z.cps.toList.take k ++ [c] ++ z.cps.toList.drop k := by
    unfold put1
    rw [app_list, app_list, cutS_to z k hk, cutS_from z k hk]
  refine ⟨?_, fun d hd => ?_⟩
  · rw [str_len, e, str_len]
    rw [str_len] at hk
    simp only [List.length_append, List.length_take, List.length_drop, List.length_cons, List.length_nil]
    omega
  · rw [e] at hd
    rcases List.mem_append.mp hd with hd | hd
    · rcases List.mem_append.mp hd with hd | hd
      · exact hz d (List.mem_of_mem_take hd)
      · have : d = c := List.mem_singleton.mp hd
        rw [this]; exact hc
    · exact hz d (List.mem_of_mem_drop hd)
def fixS (s : Str) : Str := if s ∈ wordsL then s ++ "x" else s
theorem words_x : ∀ s ∈ wordsL, nameB (s ++ "x") = true := by decide +kernel
theorem fix_ok {s : Str} (h1 : 1 ≤ s.length) (h2 : s.length ≤ 8) (h : ∀ d ∈ s.cps.toList, Lt d) : NameOk (fixS s) := by
  unfold fixS
  by_cases e : s ∈ wordsL
  · rw [if_pos e]; exact nameB_iff.mp (words_x s e)
  · rw [if_neg e]; exact ⟨h1, h2, e, h⟩
abbrev LetP : D → Option D → Prop := fun _ o => ∃ c, Lt c ∧ o = some (.str ⟨#[c]⟩)
theorem rel_letters : ∀ {l : List D} {os : List (Option D)}, Paired LetP l os → ∃ ss : List Str, os.filterMap id = ss.map .str ∧ ss.length = l.length ∧ ∀ y ∈ ss, ∃ c, Lt c ∧ y = ⟨#[c]⟩
  | [], _, .nil => ⟨[], rfl, rfl, fun y hy => nomatch hy⟩
  | _ :: l, _, .cons h r => by
    obtain ⟨ss, e, hl, hs⟩ := rel_letters r
    obtain ⟨c, hc, rfl⟩ := h
    refine ⟨⟨#[c]⟩ :: ss, ?_, by rw [List.length_cons, List.length_cons, hl], fun y hy => ?_⟩
    · rw [List.filterMap_cons]
      show D.str ⟨#[c]⟩ :: _ = _
      rw [e]
      rfl
    · rcases List.mem_cons.mp hy with rfl | hy
      · exact ⟨c, hc, rfl⟩
      · exact hs y hy
theorem len1_sum {ss : List Str} (h : ∀ y ∈ ss, ∃ c, Lt c ∧ y = ⟨#[c]⟩) : (ss.map (·.length)).sum = ss.length := by
  induction ss with
  | nil => rfl
  | cons y ys ih =>
    obtain ⟨c, hc, rfl⟩ := h y (List.mem_cons_self ..)
    rw [List.map_cons, List.sum_cons, ih fun z hz => h z (List.mem_cons_of_mem _ hz), List.length_cons]
    show 1 + _ = _
    omega
theorem rel_map {α : Type} {R : α → Prop} {g : α → D} : ∀ {l : List D} {os : List (Option D)}, Paired (fun _ o => ∃ a, R a ∧ o = some (g a)) l os → ∃ as : List α, (∀ a ∈ as, R a) ∧ as.length = l.length ∧ os.filterMap id = as.map g
  | [], _, .nil => ⟨[], fun y hy => (nomatch hy), rfl, rfl⟩
  | _ :: l, _, .cons h r => by
    obtain ⟨as, hs, hl, e⟩ := rel_map r
    obtain ⟨a, ha, rfl⟩ := h
    refine ⟨a :: as, fun y hy => ?_, by rw [List.length_cons, List.length_cons, hl], ?_⟩
    · rcases List.mem_cons.mp hy with rfl | hy
      · exact ha
      · exact hs y hy
    · rw [List.filterMap_cons]
      show g a :: _ = _
      rw [e]
      rfl
end MK
set_option Elab.async false
set_option linter.all false
set_option maxRecDepth 100000
set_option maxHeartbeats 1000000
set_option autoImplicit false
namespace K0
open PySem L2 DL MK
section
variable {P : Program} {w : World} {K : PySem.W.Frag} {mg : Str → Option Value} {base : Heap} {C : Addr} {f : Addr}
abbrev s__law_names : Stmt := top 23
abbrev N__law_names : List Str := ["_law_pot_here", "_law_many", "_law_small", "_law_stem", "_law_spot", "_law_at", "_law_found", "_law_turn", "_law_k", "_law_name"]
theorem sc__law_names : FnScope N__law_names ["_law_pot_here", "_law_many"] (defScope s__law_names) := ⟨rfl, rfl, rfl, by decide +kernel, rfl, by decide +kernel, by decide +kernel⟩
theorem words_eq : ([D.str "none", .str "only", .str "without", .str "one", .str "as"] : List D) = wordsL.map .str := rfl
def F_namesB : DF := fun ds n Q _ => ∃ m : Int, ds = [.pot, .int m] ∧ 1 ≤ m ∧ m ≤ 6 ∧ 10 ≤ n ∧ ∀ (ys : List Str) (n' : Nat), Nms ys → ¬ (("yy" : Str) ∈ ys ∧ ("zzz" : Str) ∈ ys) → n ≤ n' + 10 → Q (.lst (ys.map .str)) n'
theorem no_yy : ∀ s ∈ wordsL, s ++ "x" ≠ ("yy" : Str) := by decide +kernel
theorem no_zzz : ∀ s ∈ wordsL, s ++ "x" ≠ ("zzz" : Str) := by decide +kernel
theorem fix_yy {s : Str} (e : fixS s = "yy") : s = "yy" := by
  unfold fixS at e
  split at e
  · exact absurd e (no_yy s ‹_›)
  · exact e
theorem fix_zzz {s : Str} (e : fixS s = "zzz") : s = "zzz" := by
  unfold fixS at e
  split at e
  · exact absurd e (no_zzz s ‹_›)
  · exact e
theorem ok_namesB (h : DefAt K mg "_law_names" s__law_names ["_law_pot_here", "_law_many"]) (bt : Bt mg) (h__law_take : Fn1 P w K mg base K "_law_take" 1 F_take) (h__law_of : Fn1 P w K mg base K "_law_of" 2 F_of) : Fn1 P w K mg base K "_law_names" 3 F_namesB := by
  refine h.fn sc__law_names bt (k := 2) (fun f cdv A outer s H E en => (dss_cons (set en 2 de_str)
    (dss_cons (set en 3 (join en (lc en (defScope s__law_names) [("_law_turn", 7)] (inR en (da_cons (call en h__law_of (da_cons (v en 0) (da_cons (de_lst (da_cons de_int (da_cons de_int (da_cons de_int (da_cons de_int (da_cons de_int (da_cons de_int (da_cons de_int (da_cons de_int (da_cons de_int da_nil)))))))))) da_nil))) da_nil)) (nm en.blk 7) dts_nil (call en.blk h__law_of (da_cons (v en.blk 0) (da_cons (v en.blk 2) da_nil))))))
    (dss_cons (ds_asg (de_tup (da_cons (call en h__law_take (da_cons (v en 0) (da_cons (eAdd en (eLen en (da_cons (v en 3) da_nil)) de_int) da_nil))) (da_cons (call en h__law_take (da_cons (v en 0) (da_cons de_int da_nil))) da_nil))) (nms en 2 (dgs_cons (nm en 4) (dgs_cons (nm en 5) dgs_nil))))
    (dss_cons (setLc en 6 (defScope s__law_names) [("_law_k", 8)] (inR en (da_cons (v en 1) da_nil)) (nm en.blk 8) dts_nil (eAdd en.blk (eAdd en.blk (eSlice en.blk (v en.blk 3) do_none (do_some (v en.blk 4))) (eIx en.blk (v en.blk 2) (eMod (eInt en.blk (da_cons (eAdd en.blk (v en.blk 5) (eMul de_int (v en.blk 8))) da_nil)) de_int))) (eSlice en.blk (v en.blk 3) (do_some (v en.blk 4)) do_none)))
    (dss_one (ds_ret (sortS en (lc en (defScope s__law_names) [("_law_name", 9)] (inL en (v en 6)) (nm en.blk 9) dts_nil (de_if (tIn en.blk (v en.blk 9) (de_tup (da_cons de_str (da_cons de_str (da_cons de_str (da_cons de_str (da_cons de_str da_nil))))))) (eAdd en.blk (v en.blk 9) de_str) (v en.blk 9))))))))))) ?_ ?_
  · rintro ds n Q x ⟨m, rfl, _⟩; rfl
  · rintro ds n Q x ⟨m, rfl, hm1, hm2, hn, q⟩
    refine ⟨_, rfl, ?_⟩
    refine ⟨.pot, rfl, by show 9 ≤ most; decide, _, 9, rfl, rfl, by decide, by decide, by omega, fun r h0 h1 => ?_⟩
    obtain ⟨j, hj, hj0, hj1⟩ : ∃ j : Int, ixD (.lst [.int 0, .int 0, .int 1, .int 2, .int 3, .int 4, .int 5, .int 6, .int 7]) (.int r) = some (.int j) ∧ 0 ≤ j ∧ j ≤ 7 := by
      have h9 : r = 0 ∨ r = 1 ∨ r = 2 ∨ r = 3 ∨ r = 4 ∨ r = 5 ∨ r = 6 ∨ r = 7 ∨ r = 8 := by omega
      rcases h9 with rfl | rfl | rfl | rfl | rfl | rfl | rfl | rfl | rfl
      all_goals exact ⟨_, rfl, by decide, by decide⟩
    refine ⟨_, hj, j, rfl, by omega, by omega, ?_⟩
    have hil := ints_len j.toNat
    refine lc_rel LetP 1 (by rw [hil]; exact Nat.le_trans (show j.toNat ≤ 7 by omega) (by decide)) (by rw [hil]; omega) (fun d hd => ?_) (fun os n2 hp hn2 => ?_)
    · refine ⟨_, rfl, fun n Qt Qf hc ht _ => ⟨.pot, rfl, _, rfl, .str lettersS, 26, rfl, len_letters, by decide, by decide, hc, fun r h0 h1 => ?_⟩⟩
      obtain ⟨c, hc1, hc2⟩ := ix_letters h0 h1
      exact ⟨_, hc2, ht _ _ ⟨c, hc1, rfl⟩ (by omega)⟩
    · obtain ⟨ss, e, hl, hs⟩ := rel_letters hp
      obtain ⟨hjl, hjc⟩ := join_ok hs
      have hs7 : ss.length ≤ 7 := by rw [hl, hil]; omega
      rw [hil] at hn2
      rw [e]
      refine ⟨"", ss, rfl, .inl rfl, ?_, _, rfl, ?_⟩
      · rw [len1_sum hs]
        show ss.length + ss.length * 0 ≤ _
        omega
      · generalize Txt.join "" ss = stem at hjl hjc ⊢
        have hst : stem.length ≤ 7 := by omega
        have hlen : lenD [.str stem] = some (.int stem.length) := if_pos (Nat.le_trans hst (by decide))
        refine ⟨.pot, rfl, _, rfl, _, hlen, _, rfl, stem.length + 1, rfl, by omega, by omega, by omega, fun r2 h2 h3 => ?_⟩
        refine ⟨.pot, rfl, 26, rfl, by decide, by decide, by omega, fun r3 h4 h5 => ⟨by show 2 ≤ most; decide, _, rfl, ?_⟩⟩
        obtain ⟨k, rfl⟩ : ∃ k : Nat, r2 = (k : Int) := ⟨r2.toNat, by omega⟩
        have hk : k ≤ stem.length := by omega
        refine ⟨_, rfl, m, rfl, by omega, by omega, ?_⟩
        have hml := ints_len m.toNat
        refine lc_rel (fun _ o => ∃ c, Lt c ∧ o = some (.str (put1 stem k c))) 0 (by rw [hml]; exact Nat.le_trans (show m.toNat ≤ 6 by omega) (by decide)) (by omega) (fun d hd => ?_) (fun os n3 hp hn3 => ?_)
        · obtain ⟨i, hi, rfl⟩ := List.mem_map.mp hd
          obtain ⟨c, hc1, hc2⟩ := ix_letters (r := (r3 + 5 * (i : Int)) % 26) (by omega) (by omega)
          obtain ⟨pl, _⟩ := put1_ok hk hc1 hjc
          have hcut : ∀ lo hi, sliceD (.str stem) lo hi = some (.str (cutS stem lo hi)) := fun lo hi => if_pos (Nat.le_trans hst (by decide))
          have l1 : (cutS stem none (some (k : Int))).length ≤ 7 := by rw [str_len, cutS_to stem k hk, List.length_take, ← str_len]; omega
          have l2 : (cutS stem (some (k : Int)) none).length ≤ 7 := by rw [str_len, cutS_from stem k hk, List.length_drop, ← str_len]; omega
          have l3 : (cutS stem none (some (k : Int)) ++ (⟨#[c]⟩ : Str)).length ≤ 8 := by rw [str_len, app_list, List.length_append, ← str_len]; show _ + 1 ≤ 8; omega
          refine ⟨_, rfl, fun n Qt Qf _ ht _ => ?_⟩
          refine ⟨_, rfl, _, rfl, (k : Int), rfl, _, hcut _ _, _, rfl, _, rfl, _, rfl, _, rfl, _, rfl, _, rfl, _, rfl, _, hc2, _, if_pos (Nat.le_trans (Nat.add_le_add_right l1 1) (by decide)), _, rfl, _, rfl, (k : Int), rfl, _, hcut _ _, _, if_pos (Nat.le_trans (Nat.add_le_add l3 l2) (by decide)), ht _ _ ⟨c, hc1, rfl⟩ (by omega)⟩
        · obtain ⟨cs, hcs, hcl, e⟩ := rel_map (g := fun c => D.str (put1 stem k c)) hp
          rw [e]
          rw [hml] at hcl
          have hput : ∀ c ∈ cs, (put1 stem k c).length = stem.length + 1 ∧ ∀ d ∈ (put1 stem k c).cps.toList, Lt d := fun c hc => put1_ok hk (hcs c hc) hjc
          refine ⟨_, rfl, _, rfl, _, rfl, ?_⟩
          refine lc_each (fun d => match d with | .str s => .str (fixS s) | _ => .non) (by rw [List.length_map, hcl]; exact Nat.le_trans (show m.toNat ≤ 6 by omega) (by decide)) (fun d hd => ?_) ?_
          · obtain ⟨c, hc, rfl⟩ := List.mem_map.mp hd
            refine ⟨_, rfl, fun n Qt hQ => ⟨_, rfl, by show 5 ≤ most; decide, _, in_words _, _, rfl, ite2 (fun e => ?_) (fun e => ?_)⟩⟩
            · have e : put1 stem k c ∈ wordsL := of_decide_eq_true e
              refine ⟨_, rfl, _, if_pos ?_, ?_⟩
              · rw [(hput c hc).1]
                exact Nat.le_trans (show stem.length + 1 + 1 ≤ 9 by omega) (by decide)
              · have : fixS (put1 stem k c) = put1 stem k c ++ "x" := if_pos e
                rw [← this]; exact hQ
            · have e : put1 stem k c ∉ wordsL := fun z => e (decide_eq_true z)
              refine ⟨_, rfl, ?_⟩
              have : fixS (put1 stem k c) = put1 stem k c := if_neg e
              rw [← this]; exact hQ
          · have e2 : (cs.map fun c => D.str (put1 stem k c)).map (fun d => match d with | .str s => D.str (fixS s) | _ => .non) = (cs.map fun c => fixS (put1 stem k c)).map .str := by
              rw [List.map_map, List.map_map]
              rfl
            rw [e2]
            have hxl : (cs.map fun c => fixS (put1 stem k c)).length = m.toNat := by rw [List.length_map, hcl]
            refine ⟨_, rfl, by rw [hxl]; omega, fun ys so hm => q ys n3 ⟨strs_nd so, fun e => ?_, ?_, fun y hy => ?_⟩ ?_ (by omega)⟩
            · have : ∃ c, c ∈ cs := by
                cases cs with
                | nil => exfalso; have : (0 : Nat) = m.toNat := hcl; omega
                | cons c cs => exact ⟨c, List.mem_cons_self ..⟩
              obtain ⟨c, hc⟩ := this
              have := (hm (fixS (put1 stem k c))).mpr (List.mem_map.mpr ⟨c, hc, rfl⟩)
              rw [e] at this
              cases this
            · have := len_of_sub (strs_nd so) fun y hy => (hm y).mp hy
              rw [hxl] at this
              omega
            · obtain ⟨c, hc, rfl⟩ := List.mem_map.mp ((hm y).mp hy)
              obtain ⟨p1, p2⟩ := hput c hc
              exact fix_ok (by omega) (by omega) p2
            · rintro ⟨h1, h2⟩
              obtain ⟨c1, hc1, e1⟩ := List.mem_map.mp ((hm _).mp h1)
              obtain ⟨c2, hc2, e2⟩ := List.mem_map.mp ((hm _).mp h2)
              have l1 := (hput c1 hc1).1
              have l2 := (hput c2 hc2).1
              rw [fix_yy e1] at l1
              rw [fix_zzz e2] at l2
              have z1 : ("yy" : Str).length = 2 := by decide +kernel
              have z2 : ("zzz" : Str).length = 3 := by decide +kernel
              omega
end
end K0
set_option Elab.async false
set_option linter.all false
set_option maxRecDepth 100000
set_option maxHeartbeats 1000000
set_option autoImplicit false
/-! dicts of mixed keys: walked, asked. -/
namespace OddD
open PySem L2 PyProof.Rows
/-- the keys, in their order -/
def Ko (K : PySem.W.Frag) (w : World) (a : Addr) (o : Obj) (nks : List NestedKey) (us ws : List V) : It :=
  ⟨fun i H => Odd K w H a o nks us ws ∧ i < us.length, fun i H x H' => H' = H ∧ us[i]? = some x, fun i H => Odd K w H a o nks us ws ∧ us.length ≤ i⟩
/-- the pairs, each a new tuple -/
def Io (K : PySem.W.Frag) (w : World) (a : Addr) (o : Obj) (nks : List NestedKey) (us ws : List V) : It :=
  ⟨fun i H => Odd K w H a o nks us ws ∧ i < us.length, fun i H x H' => ∃ T u v, us[i]? = some u ∧ ws[i]? = some v ∧ x = .ref T ∧ H T = none ∧ H' = upd H T (.tup [u, v]), fun i H => Odd K w H a o nks us ws ∧ us.length ≤ i⟩
theorem vals_get : ∀ {vs : List V} {us : List Value} {i : Nat} {v : V}, Vals vs us → vs[i]? = some v → ∃ u, us[i]? = some u ∧ RelV v u
  | _, _, _, _, .nil, e => by simp at e
  | _, _, 0, _, .cons a b, e => by cases e; exact ⟨_, rfl, a⟩
  | _, _, i + 1, _, .cons a b, e => vals_get (i := i) b e
section
variable {X : Cx} {pins : List (Addr × Obj)} {σ : L2.St} {H : Hp} {s : Shared} {a : Addr} {o : Obj} {nks : List NestedKey} {us ws : List V}
/-- the entry at i -/
theorem odd_ent (I : Inv X pins σ H s) (h : Odd X.K X.w H a o nks us ws) {i : Nat} {u : V} (hu : us[i]? = some u) : ∃ (es : Array DictEntry) (ep : Nat) (e : DictEntry) (v : V), s.heap.get? a = some o ∧ o.data = .dict es ep ∧ es.size = us.length ∧ es[i]? = some e ∧ RelV u e.key ∧ ws[i]? = some v ∧ RelV v e.val := by
  obtain ⟨es, ep, e1, e2, t, rk, rv⟩ := odd_at I h
  obtain ⟨x, hx, rx⟩ := vals_get rk hu
  rw [List.getElem?_map, Array.getElem?_toList] at hx
  have hlen : es.size = us.length := by rw [rk.length]; simp
  have hlen2 : ws.length = es.size := by rw [rv.length]; simp
  cases he : es[i]? with
  | none => rw [he] at hx; cases hx
  | some e =>
    rw [he] at hx
    cases hx
    have hi := (Array.getElem?_eq_some_iff.mp he).1
    have hv : ws[i]? = some ws[i] := List.getElem?_eq_getElem (by omega)
    obtain ⟨y, hy, ry⟩ := vals_get rv hv
    rw [List.getElem?_map, Array.getElem?_toList, he] at hy
    cases hy
    exact ⟨es, ep, e, _, e1, e2, hlen, he, rx, hv, ry⟩
theorem odd_size (I : Inv X pins σ H s) (h : Odd X.K X.w H a o nks us ws) : ∃ (es : Array DictEntry) (ep : Nat), s.heap.get? a = some o ∧ o.data = .dict es ep ∧ es.size = us.length := by
  obtain ⟨es, ep, e1, e2, t, rk, rv⟩ := odd_at I h
  exact ⟨es, ep, e1, e2, by rw [rk.length]; simp⟩
end
section
variable {P : Program} {w : World} {K : PySem.W.Frag} {tg : Expr} {a : Addr} {o : Obj} {es : Array DictEntry} {ep : Nat} {nks : List NestedKey} {us ws : List V}
theorem turn_k (it : Addr) (hod : o.data = .dict es ep) : Turn P w K tg (Ko K w a o nks us ws) [it] it (fun i h => h.IsKeyIter it a i us.length ep) where
  mem := by simp
  obj := fun i h st b hb => by
    have e : b = it := by simpa using hb
    subst e
    obtain ⟨oi, e, c, dd⟩ := st
    exact ⟨oi, e, fun v z => by rw [dd] at z; cases z⟩
  keep := fun i h h' st k => st.at fun oi e => k it (by simp) oi e
  item := by
    intro X hP hw hK hc i pins s σ H E I hf st hg
    subst hP hw hK
    obtain ⟨od, hi⟩ := hg
    obtain ⟨f0, f1, f2, f3, f4, f5⟩ := hf it (by simp)
    obtain ⟨es', ep', e, v, h1, h2, h3, h4, h5, h6, h7⟩ := odd_ent I od (List.getElem?_eq_getElem hi)
    obtain ⟨rfl, rfl⟩ := dict_ep hod h2
    refine next_key_item st h1 h2 h3 h4 fun h' st' sb => ?_
    have I1 : Inv X pins σ H { s with heap := h' } := I.turned (t' := s.toks) (fun b ob hb e => (sb.2 b hb).trans e) f0 f1 f3 f4 f5
    obtain ⟨oi, e5, c, dd⟩ := id st'
    exact ⟨e.key, rfl, go_of (s := { s with heap := h' }) e5 c dd (by decide) ⟨us[i], H, I1, h5, ⟨rfl, List.getElem?_eq_getElem hi⟩, st', fun b hb => (hf b hb).1⟩⟩
  done := by
    intro X hP hw hK hc i pins s σ H E I hf st hg
    subst hP hw hK
    obtain ⟨od, hi⟩ := hg
    obtain ⟨f0, f1, f2, f3, f4, f5⟩ := hf it (by simp)
    obtain ⟨es', ep', h1, h2, h3⟩ := odd_size I od
    obtain ⟨rfl, rfl⟩ := dict_ep hod h2
    exact next_key_end (I.ok.hd hc) st h1 h2 h3 hi fun h' eb => ⟨rfl, I.turned (t' := s.toks) (fun b ob hb e => eb b ob hb e) f0 f1 f3 f4 f5⟩
  self := fun A i s Q E st h => wpAny_pyIter_keyiter st h
theorem turn_i {elts : List Expr} {kk : Nat} {tpos : Pos} (it : Addr) (hod : o.data = .dict es ep) :
    Turn P w K (.Tuple elts kk tpos) (Io K w a o nks us ws) [it] it (fun i h => ∃ ok ov, IsItemIter h it a i us.length ep ok ov) where
  mem := by simp
  obj := fun i h st b hb => by
    have e : b = it := by simpa using hb
    subst e
    obtain ⟨ok, ov, e⟩ := st
    exact ⟨_, e, fun v z => nomatch z⟩
  keep := fun i h h' st k => let ⟨ok, ov, e⟩ := st; ⟨ok, ov, k it (by simp) _ e⟩
  item := by
    intro X hP hw hK hc i pins s σ H E I hf st hg
    subst hP hw hK
    obtain ⟨od, hi⟩ := hg
    obtain ⟨es', ep', e, v, h1, h2, h3, h4, h5, h6, h7⟩ := odd_ent I od (List.getElem?_eq_getElem hi)
    obtain ⟨rfl, rfl⟩ := dict_ep hod h2
    obtain ⟨ok, ov, he⟩ := st
    have hlt : it < s.heap.objs.size := Heap.lt_size he
    have hi' : i < es'.size := by omega
    have e4 : es'[i] = e := by rw [Array.getElem?_eq_getElem hi'] at h4; exact Option.some.inj h4
    rw [← h3] at he
    refine wpAny_pyNext_items_item_raw he ⟨o, h1, od.2.1.ex, h2⟩ hi' fun h' ho hT hz hk => ?_
    rw [e4] at ho hT
    refine ⟨_, rfl, wpAny_letOwnedTupleGo_items (s := { s with heap := h' }) ho fun h'' he' sb => ?_⟩
    have hT2 : h''.get? s.heap.objs.size = some { cls := .type "tuple", data := .seq #[e.key, e.val] } := (sb.2 _ (Nat.ne_of_gt hlt)).trans hT
    have new : ObjOk X.prog X.w (upd H s.heap.objs.size (.tup [us[i], v])) h'' s.heap.objs.size (.tup [us[i], v]) :=
      ⟨by show 2 ≤ sizeLine; decide, [e.key, e.val], .cons h5 (.cons h7 .nil), ⟨_, hT2, rfl, _, rfl⟩⟩
    have I1 : Inv X pins σ (upd H s.heap.objs.size (.tup [us[i], v])) { s with heap := h'' } :=
      I.turnedNew (t' := s.toks) (ch := [it]) (fun b ob hb e => (sb.2 b (by simpa using hb)).trans (hk b ob (by simpa using hb) e)) hf (Nat.le_refl _) new
    refine ⟨.ref s.heap.objs.size, _, I1, rfl, ⟨_, _, v, List.getElem?_eq_getElem hi, h6, rfl, I.hok.fresh (Nat.le_refl _), rfl⟩, ⟨e.key, e.val, ?_⟩, fun b hb => ?_⟩
    · rw [← h3]; exact he'
    · have e : b = it := by simpa using hb
      rw [e, upd_ne (Nat.ne_of_lt hlt)]
      exact (hf it (by simp)).1
  done := by
    intro X hP hw hK hc i pins s σ H E I hf st hg
    subst hP hw hK
    obtain ⟨od, hi⟩ := hg
    obtain ⟨f0, f1, f2, f3, f4, f5⟩ := hf it (by simp)
    obtain ⟨es', ep', h1, h2, h3⟩ := odd_size I od
    obtain ⟨rfl, rfl⟩ := dict_ep hod h2
    obtain ⟨ok, ov, he⟩ := st
    rw [← h3] at he
    exact wpAny_pyNext_items_end_raw (I.ok.hd hc) he ⟨o, h1, od.2.1.ex, h2⟩ (by omega) fun h' eb => ⟨rfl, I.turned (t' := s.toks) (fun b ob hb e => eb b ob hb e) f0 f1 f3 f4 f5⟩
  self := fun A i s Q E st h => let ⟨_, _, e⟩ := st; PySem.W.kcp_self e h
end
def iKo (K : PySem.W.Frag) (w : World) (td : TE) : TI := fun σ H R => td σ H fun x H1 => ∃ a o nks us ws, x = .ref a ∧ Odd K w H1 a o nks us ws ∧ R (Ko K w a o nks us ws) H1
def iIo (K : PySem.W.Frag) (w : World) (td : TE) : TI := fun σ H R => td σ H fun x H1 => ∃ a o nks us ws, x = .ref a ∧ Odd K w H1 a o nks us ws ∧ R (Io K w a o nks us ws) H1
section
variable {X : Cx} {tg e : Expr} {td : TE} {apos cpos : Pos}
theorem pi_ko (he : PE X e td) : PI X tg e (iKo X.K X.w td) := by
  refine ⟨fun pins s σ H R I h => ?_⟩
  refine thn (he.run pins s σ H _ I h) fun u s1 ⟨x, H1, I1, rx, a, o, nks, us, ws, ex, od, q⟩ => ?_
  subst ex
  obtain rfl : u = Value.ref a := rx
  obtain ⟨es, ep, h1, h2, h3⟩ := odd_size I1 od
  refine iter_keys od.2.1.low h1 od.2.1.ex h2 (pi_one (tk := s1.toks) I1 _ (turn_k _ h2) ⟨_, Heap.get?_push_size _ rfl, rfl, ?_⟩ q)
  rw [h3] <;> rfl
theorem pi_io {elts : List Expr} {kk : Nat} {tpos : Pos} (he : PE X e td) (hbase : attributeBase e "items" X.env (eval e X.env) = eval e X.env := by rfl) (hline : (apos.endLine == cpos.line) = true := by rfl) :
    PI X (.Tuple elts kk tpos) (.Call (.Attribute e "items" apos) [] [] cpos) (iIo X.K X.w td) := by
  refine ⟨fun pins s σ H R I h => ?_⟩
  refine wpAny_Call_method (T := "dict") (id := "dict.items") hbase rfl hline F.plainAttrs_dict F.slot_dict_items F.type_dict_items (thn (he.run pins s σ H _ I h) fun u s1 ⟨x, H1, I1, rx, a, o, nks, us, ws, ex, od, q⟩ => ?_)
  subst ex
  obtain rfl : u = Value.ref a := rx
  obtain ⟨es, ep, h1, h2, h3⟩ := odd_size I1 od
  have raw : s1.heap.DictRaw a es ep := ⟨o, h1, od.2.1.ex, h2⟩
  refine ⟨raw.typeIs, fun b e => by cases e; exact ⟨o, h1, od.2.1.ex.2.1⟩, ?_⟩
  have I2 : Inv X pins σ H1 { s1 with heap := s1.heap.push { cls := .type "dict_items", data := .fields #[.ref a] } } := I1.kept (t' := s1.toks) fun b ob q => Heap.get?_push_of_some _ q
  have fin : wpAny (model X.prog X.w) X.A (pyIter (.ref s1.heap.objs.size)) (PIE X pins σ (.Tuple elts kk tpos) R) X.xe { s1 with heap := s1.heap.push { cls := .type "dict_items", data := .fields #[.ref a] } } := by
    refine wpAny_pyIter_items_raw (d := a) (es := es) (ep := ep) ⟨_, Heap.get?_push_size _ rfl, rfl, rfl⟩ (raw.push _) (pi_one (tk := s1.toks) I2 _ (turn_i _ h2) ⟨.none, .none, ?_⟩ q)
    rw [h3]
    exact Heap.get?_push_size _ rfl
  show wpAny _ _ (callWith cpos (.builtin "dict.items") [.ref a] [] []) _ X.xe s1
  exact method_meetsIn F.slot_dict_items F.entry_dict_items rfl (PySem.evalArgs_none ⟨rfl, raw.typeIs, F.args_dict_items_1 _, _, meets_dict_items_raw a od.2.1.low, ⟨⟨es, ep, raw⟩, fin⟩⟩)
/-- d[k] -/
def rOx (K : PySem.W.Frag) (w : World) : R2 := fun x y H Q => ∃ (a : Addr) (o : Obj) (nks : List NestedKey) (us ws : List V) (i : Nat) (v : V) (k : NestedKey), x = .ref a ∧ Odd K w H a o nks us ws ∧ nks[i]? = some k ∧ NkV K H k y ∧ ws[i]? = some v ∧ Q v H
theorem ix_odd (hu : X.A.units + 64 < cLine) : IxR X (rOx X.K X.w) := by
  intro value slice pins s σ H x y v u Q I rx ry h hs
  obtain ⟨a, o, nks, us, ws, i, r, k, rfl, od, hk, nk, hw, q⟩ := h
  obtain rfl : v = Value.ref a := rx
  obtain ⟨es, ep, e1, e2, t, rk, rv⟩ := odd_at I od
  obtain ⟨y', hy, ry'⟩ := vals_get rv hw
  rw [List.getElem?_map, Array.getElem?_toList] at hy
  cases he : es[i]? with
  | none => rw [he] at hy; cases hy
  | some en =>
    rw [he] at hy
    cases hy
    have hT : s.TypeIs (.ref a) "dict" := ⟨o, e1, od.2.1.ex.1⟩
    refine tail_any hT slot_dict_getitem.lookup ?_ hs
    unfold getItem
    refine wpAny_holding (wpAny_bind (wpAny_sequenceKey hT (by decide) ?_))
    refine wpAny_bind (wpAny_callSpecial?_slot (name := Str.ofString "__getitem__") hT slot_dict_getitem (wpAny_call_entry slot_dict_getitem hT entry_dict_getitem ?_ (args_dict_getitem _ _)))
    show wpAny _ _ (dictGet a u >>= _) _ _ s
    refine wpAny_bind (get (by show X.A.units + 1 + 8 < cLine; omega) (nk.is I ry) (t.dep k (List.mem_of_getElem? hk)) t hk he ?_)
    exact wpAny_pure ⟨en.val, rfl, wpAny_pure ⟨r, H, I.tok _, ry', q⟩⟩
end
end OddD
set_option Elab.async false
set_option linter.all false
set_option maxRecDepth 100000
set_option maxHeartbeats 1000000
set_option autoImplicit false
/-! DL: dicts of mixed keys as data. -/
namespace DL
open PySem L2
section
variable {K : PySem.W.Frag} {Z : Addr → Prop} {p : Addr} {H : Hp}
mutual
theorem nk_of : ∀ {d : D} {v : V} {k : NestedKey}, Rep K Z p H d v → nkD d = some k → OddD.NkV K H k v
  | .non, _, _, r, e => by cases r; cases e; exact .non
  | .bl b, _, _, r, e => by cases r; cases e; exact .bl b
  | .int b, _, _, r, e => by cases r; cases e; exact .int b
  | .str b, _, _, r, e => by cases r; cases e; exact .str b
  | .tup l, _, k, ⟨a, vs, ev, hs, rs⟩, e => by
    have e : (nkL l).map NestedKey.tup = some k := e
    cases h : nkL l with
    | none => rw [h] at e; cases e
    | some ks =>
      rw [h] at e
      cases e
      subst ev
      exact .tup (sqT_of hs) (nks_of rs h)
  | .lst _, _, _, _, e => nomatch e
  | .dct _, _, _, _, e => nomatch e
  | .ty _, _, _, _, e => nomatch e
  | .con _, _, _, _, e => nomatch e
  | .pot, _, _, _, e => nomatch e
  | .ins _ _, _, _, _, e => nomatch e
  | .exc _ _, _, _, _, e => nomatch e
  | .dlk _, _, _, _, e => nomatch e
  | .odd _ _ _, _, _, _, e => nomatch e
theorem nks_of : ∀ {l : List D} {vs : List V} {ks : List NestedKey}, Reps K Z p H l vs → nkL l = some ks → OddD.NkVs K H ks vs
  | [], _, _, r, e => by cases e; rw [show _ = [] from r]; exact .nil
  | d :: l, _, ks, ⟨v, r, e0, a, b⟩, e => by
    have e : (nkD d).bind (fun k => (nkL l).map (k :: ·)) = some ks := e
    subst e0
    cases h1 : nkD d with
    | none => rw [h1] at e; cases e
    | some k =>
      rw [h1] at e
      cases h2 : nkL l with
      | none => rw [h2] at e; cases e
      | some ks' =>
        rw [h2] at e
        cases e
        exact .cons (nk_of a h1) (nks_of b h2)
end
theorem Reps.set : ∀ {l : List D} {vs : List V} (j : Nat) {d : D} {v : V}, Reps K Z p H l vs → Rep K Z p H d v → Reps K Z p H (l.set j d) (vs.set j v)
  | [], _, _, _, _, r, _ => by rw [show _ = [] from r]; exact rfl
  | _ :: _, _, 0, _, _, ⟨v, r, e, a, b⟩, x => by rw [e]; exact ⟨_, r, rfl, x, b⟩
  | _ :: _, _, j + 1, _, _, ⟨v, r, e, a, b⟩, x => by rw [e]; exact ⟨v, _, rfl, a, Reps.set j b x⟩
theorem nkL_snoc : ∀ {l : List D} {ks : List NestedKey} {d : D} {k : NestedKey}, nkL l = some ks → nkD d = some k → nkL (l ++ [d]) = some (ks ++ [k])
  | [], _, d, k, e, h => by
    cases e
    show (nkD d).bind (fun k => (nkL []).map (k :: ·)) = _
    rw [h]
    rfl
  | x :: l, ks, d, k, e, h => by
    have e : (nkD x).bind (fun k => (nkL l).map (k :: ·)) = some ks := e
    show (nkD x).bind (fun k => (nkL (l ++ [d])).map (k :: ·)) = _
    cases h1 : nkD x with
    | none => rw [h1] at e; cases e
    | some k' =>
      rw [h1] at e
      cases h2 : nkL l with
      | none => rw [h2] at e; cases e
      | some ks' =>
        rw [h2] at e
        cases e
        rw [nkL_snoc h2 h]
        rfl
end
/-! ### dict(pairs) -/
abbrev D3 := List NestedKey × List D × List D
def pushD (t : D3) (q : NestedKey × D × D) : D3 := match t.1.idxOf? q.1 with
  | some j => (t.1, t.2.1, t.2.2.set j q.2.2)
  | none => (t.1 ++ [q.1], t.2.1 ++ [q.2.1], t.2.2 ++ [q.2.2])
def fillD (t : D3) (qs : List (NestedKey × D × D)) : D3 := qs.foldl pushD t
section
variable {K : PySem.W.Frag} {Z : Addr → Prop} {p : Addr} {H : Hp}
structure Alike3 (K : PySem.W.Frag) (Z : Addr → Prop) (p : Addr) (H : Hp) (t : D3) (u : OddD.T3) : Prop where
  nk : u.1 = t.1
  ks : Reps K Z p H t.2.1 u.2.1
  vs : Reps K Z p H t.2.2 u.2.2
  kk : nkL t.2.1 = some t.1
theorem Alike3.push {t : D3} {u : OddD.T3} (a : Alike3 K Z p H t u) {k : NestedKey} {d e : D} {x y : V} (hk : nkD d = some k) (r1 : Rep K Z p H d x) (r2 : Rep K Z p H e y) : Alike3 K Z p H (pushD t (k, d, e)) (OddD.pushV u (k, x, y)) := by
  obtain ⟨h1, h2, h3, h4⟩ := a
  unfold pushD OddD.pushV
  rw [h1]
  cases h : t.1.idxOf? k with
  | none => exact ⟨rfl, h2.app (.one r1), h3.app (.one r2), nkL_snoc h4 hk⟩
  | some j => exact ⟨rfl, h2, h3.set j r2, h4⟩
theorem Alike3.fill : ∀ {qs : List (NestedKey × D × D)} {us : List (NestedKey × V × V)} {t : D3} {u : OddD.T3}, Alike3 K Z p H t u → Paired (fun (q : NestedKey × D × D) (r : NestedKey × V × V) => r.1 = q.1 ∧ nkD q.2.1 = some q.1 ∧ Rep K Z p H q.2.1 r.2.1 ∧ Rep K Z p H q.2.2 r.2.2) qs us → Alike3 K Z p H (fillD t qs) (OddD.allV u us)
  | _, _, _, _, a, .nil => a
  | q :: qs, r :: us, t, u, a, .cons h pr => by
    obtain ⟨h1, h2, h3, h4⟩ := h
    have := (a.push h2 h3 h4).fill pr
    rw [← h1] at this
    obtain ⟨q1, q2, q3⟩ := q
    have h1 : r.1 = q1 := h1
    subst h1
    exact this
/-- a list of pairs -/
theorem reps_kpairs : ∀ {qs : List (NestedKey × D × D)} {vs : List V}, (∀ q ∈ qs, nkD q.2.1 = some q.1 ∧ q.1.depth ≤ 8) → Reps K Z p H (qs.map fun q => .tup [q.2.1, q.2.2]) vs →
    ∃ (ts : List Addr) (us : List (NestedKey × V × V)), vs = ts.map V.ref ∧ Paired (fun t u => SqT K H t [u.2.1, u.2.2] ∧ OddD.NkV K H u.1 u.2.1 ∧ u.1.depth ≤ 8) ts us ∧
      Paired (fun (q : NestedKey × D × D) (r : NestedKey × V × V) => r.1 = q.1 ∧ nkD q.2.1 = some q.1 ∧ Rep K Z p H q.2.1 r.2.1 ∧ Rep K Z p H q.2.2 r.2.2) qs us
  | [], _, _, r => ⟨[], [], r, .nil, .nil⟩
  | q :: qs, _, hq, ⟨v, r, e, ⟨c, us, ev, hs, rs⟩, b⟩ => by
    obtain ⟨ts, us', e1, p1, p2⟩ := reps_kpairs (fun z hz => hq z (List.mem_cons_of_mem _ hz)) b
    obtain ⟨v1, v2, e3, r1, r2⟩ := reps2 rs
    subst e3
    obtain ⟨k1, k2⟩ := hq q List.mem_cons_self
    exact ⟨c :: ts, (q.1, v1, v2) :: us', by rw [e, ev, e1]; rfl, .cons ⟨sqT_of hs, nk_of r1 k1, k2⟩ p1, .cons ⟨rfl, k1, r1, r2⟩ p2⟩
end
section
variable {ι : Type} {Xs : ι → Cx} {P : Program} {w : World} {K : PySem.W.Frag} {mg : Str → Option Value} {base : Heap} {N : List Str} {k : Nat} {E : XK} {pos q apos cpos : Pos} {a b e : Expr} {tg : Expr} {ta tb te : TD} {t : TDA}
def dDictO (w : World) (t : TDA) : TD := fun ρ n Q x => t ρ n (fun ds n1 => ∃ qs : List (NestedKey × D × D), ds = [.lst (qs.map fun q => .tup [q.2.1, q.2.2])] ∧ qs.length ≤ 64 ∧ (∀ q ∈ qs, nkD q.2.1 = some q.1 ∧ q.1.depth ≤ 8) ∧ Q (.odd w (fillD ([], [], []) qs).2.1 (fillD ([], [], []) qs).2.2) n1) x
theorem mkDictO (en : En Xs P w K mg base N k) (ha : DA Xs K E [e] t) (hg : ∀ i, Gl (Xs i) "dict" := by intro _; rfl) (he : ∀ i, starEach [e] (Xs i).env = (false, eval e (Xs i).env) :: starEach [] (Xs i).env := by intro _; rfl) : DE Xs K E (.Call (.Name "dict" q) [e] [] pos) (dDictO w t) := by
  obtain ⟨va, pa, ea⟩ := ha
  refine ⟨tCB (OddD.rOdd K w) va, fun i => ?_, fun {p H0 Z0 ρ n Z σ H x Q Qv} wd x h q => ea wd x h fun vs H1 ds n1 w1 k1 r1 ⟨qs, e1, hl, hq, h1⟩ => ?_⟩
  · have := pe_callTy (x := "dict") (p := q) (pos := pos) (OddD.call_odd (en.hc i) (en.u64 i)) (hg i) (en.no en.bt.dict i) (by decide +kernel) (pa i) (by decide) (by decide) (he i) (by rfl)
    rw [en.hK i, en.hw i] at this
    exact this
  · subst e1
    obtain ⟨v, rfl, c, us, rfl, hs, rs⟩ := reps1 r1
    obtain ⟨ts, us', rfl, p1, p2⟩ := reps_kpairs hq rs
    have hlen : qs.length = us'.length := Paired.length p2
    refine ⟨c, ts, us', rfl, sqL_of hs, p1, by omega, fun m o nm oo => ?_⟩
    have al := Alike3.fill (K := K) (Z := Z) (p := p) (H := H1) (t := ([], [], [])) (u := ([], [], [])) ⟨rfl, rfl, rfl, rfl⟩ p2
    have mv : Mv Z H1 Z (upd H1 m (.frz o (OddD.OddU m))) := fun a o z h => ⟨z, Xt.new nm a o h⟩
    exact q _ _ (.odd w (fillD ([], [], []) qs).2.1 (fillD ([], [], []) qs).2.2) n1 (w1.xt (Xt.new nm)) (k1.trans (Xt.new nm).kp) ⟨m, o, _, _, _, rfl, ⟨w1.notin nm, upd_same⟩, oo, by rw [al.kk, al.nk], al.ks.mv mv, al.vs.mv mv⟩ h1
/-! ### its keys, its pairs, d[k] -/
theorem odd_mv {Z Z' : Addr → Prop} {p a : Addr} {H H' : Hp} {o : Obj} {nks : List NestedKey} {ks : List D} {us ws : List V} (m : Mv Z H Z' H') (h : ¬ Z a ∧ H a = some (.frz o (OddD.OddU a))) (oo : OddD.OddO w o a nks us ws) (nk : nkL ks = some nks) (r : Reps K Z p H ks us) : OddD.Odd K w H' a o nks us ws :=
  ⟨(m a _ h.1 h.2).2, oo, nks_of (r.mv m) nk⟩
theorem oddO_len {o : Obj} {a : Addr} {nks : List NestedKey} {us ws : List V} (oo : OddD.OddO w o a nks us ws) : us.length = ws.length := by
  obtain ⟨es, ep, _, _, h1, h2⟩ := oo.dat
  have := h1.length
  have := h2.length
  simp at *
  omega
def dKeysO (w : World) (t : TD) : TDL := fun ρ n Q x => t ρ n (fun d n1 => ∃ ks vs, d = .odd w ks vs ∧ Q ks n1) x
theorem inKO (en : En Xs P w K mg base N k) (he : DE Xs K E e te) : DI Xs K E tg e (dKeysO w te) := by
  obtain ⟨v, pe, ev⟩ := he
  refine ⟨OddD.iKo K w v, fun i => ?_, fun {p H0 Z0 ρ n Z σ H x Q R} wd x hh q => ev wd x hh fun u H1 d n1 w1 k1 r1 ⟨ks, vs, e1, h1⟩ => ?_⟩
  · have := OddD.pi_ko (tg := tg) (pe i)
    rw [en.hK i, en.hw i] at this
    exact this
  · subst e1
    obtain ⟨a, o, nks, us, ws, ea, hs, oo, nk, ra, rb⟩ := r1
    have hl : ks.length = us.length := ra.len
    refine ⟨a, o, nks, us, ws, ea, odd_mv .refl hs oo nk ra, q _ H1 _ n1 w1 k1 ⟨fun i Z' H' m hi => ⟨odd_mv m hs oo nk ra, by rw [← hl]; exact hi⟩, fun i Z' H' x H2 m hz hi y => ?_, fun Z' H' m => ⟨odd_mv m hs oo nk ra, by rw [hl]; exact Nat.le_refl _⟩⟩ h1⟩
    obtain ⟨e2, e3⟩ := y
    subst e2
    obtain ⟨d, ed, rd⟩ := (ra.mv m).getv e3
    exact ⟨d, ed, .refl, rd⟩
def pairsOf (ks vs : List D) : List D := (ks.zip vs).map fun q => .tup [q.1, q.2]
def dItemsO (w : World) (t : TD) : TDL := fun ρ n Q x => t ρ n (fun d n1 => ∃ ks vs, d = .odd w ks vs ∧ Q (pairsOf ks vs) n1) x
theorem inIO (en : En Xs P w K mg base N k) {elts : List Expr} {kk : Nat} {tpos : Pos} (he : DE Xs K E e te) (hbase : ∀ i, attributeBase e "items" (Xs i).env (eval e (Xs i).env) = eval e (Xs i).env := by intro _; rfl) (hline : (apos.endLine == cpos.line) = true := by rfl) :
    DI Xs K E (.Tuple elts kk tpos) (.Call (.Attribute e "items" apos) [] [] cpos) (dItemsO w te) := by
  obtain ⟨v, pe, ev⟩ := he
  refine ⟨OddD.iIo K w v, fun i => ?_, fun {p H0 Z0 ρ n Z σ H x Q R} wd x hh q => ev wd x hh fun u H1 d n1 w1 k1 r1 ⟨ks, vs, e1, h1⟩ => ?_⟩
  · have := OddD.pi_io (elts := elts) (kk := kk) (tpos := tpos) (apos := apos) (cpos := cpos) (pe i) (hbase i) hline
    rw [en.hK i, en.hw i] at this
    exact this
  · subst e1
    obtain ⟨a, o, nks, us, ws, ea, hs, oo, nk, ra, rb⟩ := r1
    have hl : ks.length = us.length := ra.len
    have hl2 : vs.length = ws.length := rb.len
    have hl3 := oddO_len oo
    have hlp : (pairsOf ks vs).length = us.length := by unfold pairsOf; rw [List.length_map, List.length_zip]; omega
    refine ⟨a, o, nks, us, ws, ea, odd_mv .refl hs oo nk ra, q _ H1 _ n1 w1 k1 ⟨fun i Z' H' m hi => ⟨odd_mv m hs oo nk ra, by rw [← hlp]; exact hi⟩, fun i Z' H' x H2 m hz hi y => ?_, fun Z' H' m => ⟨odd_mv m hs oo nk ra, by rw [hlp]; exact Nat.le_refl _⟩⟩ h1⟩
    obtain ⟨T, u1, u2, e2, e3, rfl, nT, rfl⟩ := y
    obtain ⟨d1, ed1, rd1⟩ := (ra.mv m).getv e2
    obtain ⟨d2, ed2, rd2⟩ := (rb.mv m).getv e3
    refine ⟨.tup [d1, d2], ?_, Xt.new nT, rep_tup (hz T nT) nT (reps_two rd1 rd2)⟩
    unfold pairsOf
    rw [List.getElem?_map, show (ks.zip vs)[i]? = some (d1, d2) from List.getElem?_zip_eq_some.mpr ⟨ed1, ed2⟩]
    rfl
def dIxO (w : World) (ta tb : TD) : TD := fun ρ n Q x => ta ρ n (fun d n1 => ∃ ks vs, d = .odd w ks vs ∧ tb ρ n1 (fun z n2 => ∃ (i : Nat) (c : NestedKey) (nks : List NestedKey) (r : D), nkD z = some c ∧ nkL ks = some nks ∧ nks[i]? = some c ∧ vs[i]? = some r ∧ Q r n2) x) x
theorem ixO (en : En Xs P w K mg base N k) (ha : DE Xs K E a ta) (hb : DE Xs K E b tb) (hs : PlainIx b := by intro _ _; rfl) : DE Xs K E (.Subscript a b pos) (dIxO w ta tb) := by
  obtain ⟨va, pa, ea⟩ := ha
  obtain ⟨vb, pb, eb⟩ := hb
  refine ⟨tOp (OddD.rOx K w) va vb, fun i => ?_, fun wd x h q => ea wd x h fun v1 H1 d1 n1 w1 k1 r1 ⟨ks, vs, e1, h1⟩ => ?_⟩
  · have := pe_ix (pos := pos) (OddD.ix_odd (en.u64 i)) (pa i) (pb i) hs
    rw [en.hK i, en.hw i] at this
    exact this
  · subst e1
    refine eb w1 x h1 fun v2 H2 d2 n2 w2 k2 r2 ⟨i, c, nks, r, e2, e3, e4, e5, h2⟩ => ?_
    obtain ⟨a1, o, nks', us, ws, e6, hs1, oo, nk, ra, rb⟩ := r1.mv (w1.mv k2)
    rw [e3] at nk
    cases nk
    obtain ⟨y, hy, ry⟩ := rb.get e5
    exact ⟨a1, o, nks, us, ws, i, y, c, e6, odd_mv .refl hs1 oo e3 ra, e4, nk_of r2 e2, hy, q y H2 r n2 w2 (k1.trans k2) ry h2⟩
/-- isinstance(x, (c, ..)) -/
theorem eIsiZ (en : En Xs P w K mg base N k) {C : Addr} (I : Isi K C) {es : List Expr} (ha : DA Xs K E (e :: es) t) (hg : ∀ i, Gl (Xs i) "isinstance" := by intro _; rfl) (he : ∀ i, starEach (e :: es) (Xs i).env = (false, eval e (Xs i).env) :: starEach es (Xs i).env := by intro _; rfl) (hpl : ∀ i, (backTo pos (starEach es (Xs i).env)).any (·.1) = false := by intro _; rfl) :
    DE Xs K E (.Call (.Name "isinstance" q) (e :: es) [] pos) (dCl (isiZ C) t) := de_callB (en.clK (r := rIsiZ) fun _ => call_isiZ) (cd_isiZ I) hg (en.no en.bt.isi) (by first | rfl | exact PySem.boot_isinstance) ha (by decide) (by decide) he hpl
end
end DL
set_option Elab.async false
set_option linter.all false
set_option maxRecDepth 100000
set_option maxHeartbeats 1000000
set_option autoImplicit false
/-! DL: what the written part says of a class with its own == and no !=. -/
namespace DL
open PySem L2
theorem ns_some {K : PySem.W.Frag} {h : Heap} {N : Addr} {m : Str → Option Value} {x : Str} {v : Value} (X : K.In h) (G : h.Ns N m) (e : PySem.W.nsIn K N x = some (some v)) : m x = some v := by
  obtain ⟨o, es, ep, ho, hd, _, hf⟩ := G
  unfold PySem.W.nsIn at e
  split at e
  · rename_i q
    have q2 := X _ _ q
    rw [ho] at q2
    cases q2
    cases hd
    split at e
    · rename_i z
      cases e
      rw [← hf]
      unfold nsFind findBy
      rw [← Array.find?_toList, z]
      rfl
    · split at e <;> cases e
  · cases e
theorem no_ne {K : PySem.W.Frag} {C N f : Addr} {nm q : Str} {bs : List Value} {hdct : Bool} {sn : List Str} {sub : List Value} {ab : Bool} {col : Option Bool} {dd : Option Addr} {k0 k1 k2 k3 k5 : Option Value} {newId : String} {of : Obj}
    (lc : K.lookup C = some (excClassObj nm q C N bs [.type "object"] hdct sn sub ab col dd k0 k1 k2 k3 k5 newId)) (nk : PySem.W.nsOkIn K N = true) (he : PySem.W.nsIn K N "__eq__" = some (some (.ref f))) (hn : PySem.W.nsIn K N "__ne__" = some none) (lf : K.lookup f = some of) (hof : of.cls = .type "function") :
    ∀ (h : Heap) (a dx : Addr), K.In h → h.get? a = some (PySem.W.instObj C dx) → h.OwnEqNoNe a C f "object" [.type "object"] := by
  intro h a dx X hx
  have G : h.Ns N (h.nsMap N) := .of_isNs (PySem.W.isNs_of_in X nk)
  exact ⟨_, of, nm, q, N, bs, hdct, sn, sub, ab, col, dd, k0, k1, k2, k3, k5, newId, h.nsMap N, _, hx, rfl, X _ _ lc, G, ns_some X G he, X _ _ lf, hof, rfl, rfl, PySem.W.nsMap_none_of_in X nk hn⟩
theorem kit_rt {K : PySem.W.Frag} {C : Addr} {n : String} (h1 : PySem.W.kitMeta n = true) (h2 : PySem.W.subIn K (.ref C) (.type n) = some false) : PySem.W.kitOne K (.ref C) (.type n) = some false := by
  have e : ((Value.ref C : Value) == .type n) = false := beq_eq_false_iff_ne.mpr fun z => (nomatch z)
  unfold PySem.W.kitOne
  rw [e, if_neg (by decide)]
  show (if PySem.W.kitMeta n = true then PySem.W.subIn K (.ref C) (.type n) else none) = _
  rw [if_pos h1]
  exact h2
theorem kit_tr {K : PySem.W.Frag} {C : Addr} {n : String} {cd : ClassData} (hc : PySem.W.clsIn K C = some cd) (ht : PySem.W.typeIn K (.ref C) = some (.type "type")) (h2 : PySem.W.subIn K (.type n) (.ref C) = some false) : PySem.W.kitOne K (.type n) (.ref C) = some false := by
  have e : ((Value.type n : Value) == .ref C) = false := beq_eq_false_iff_ne.mpr fun z => (nomatch z)
  unfold PySem.W.kitOne
  rw [e, if_neg (by decide)]
  show (if ((PySem.W.clsIn K C).isSome && PySem.W.typeIn K (.ref C) == some (.type "type")) = true then PySem.W.subIn K (.type n) (.ref C) else none) = _
  rw [hc, ht, if_pos (show ((some cd).isSome && some (Value.type "type") == some (Value.type "type")) = true by rw [beq_self_eq_true]; rfl)]
  exact h2
theorem kit_rr {K : PySem.W.Frag} {C : Addr} : PySem.W.kitOne K (.ref C) (.ref C) = some true := by
  unfold PySem.W.kitOne
  rw [if_pos (beq_self_eq_true _)]
end DL
set_option Elab.async false
set_option linter.all false
set_option maxRecDepth 100000
set_option maxHeartbeats 1000000
set_option autoImplicit false
/-! DL: methods by name, makers with their default, max and min of a list, bool(..). -/
namespace DL
open PySem L2
section
variable {ι : Type} {Xs : ι → Cx} {K : PySem.W.Frag} {E : XK} {pos q p1 p2 apos cpos : Pos} {tg a b e o iter : Expr} {es : List Expr} {ta tb te to tk tx : TD} {t : TDA} {ti : TDL} {F : DF} {k kF : Nat} {x m : Str}
def dMeth (C : Addr) (m : Str) (F : DF) (to : TD) (t : TDA) : TD := fun ρ n Q x => to ρ n (fun d n1 => ∃ l, d = .ins C l ∧ l.lookup m = none ∧ t ρ n1 (fun ds n2 => F (d :: ds) n2 Q x) x) x
theorem de_meth {C f : Addr} {fd : FuncData} {ps : List Str} {pl : ι → Sem Bool} (c : ∀ i, Cls (Xs i).K C) (M : ∀ i, Meth (Xs i).K C m f) (G : ∀ i, FnOk (Xs i).prog (Xs i).w (Xs i).K (Xs i).mg (Xs i).base CX0 k f fd ps (spD K F)) (hr : ∀ i, Room k (Xs i).A) (hb : ∀ i, Binds (Xs i).K fd ps []) (ho : DE Xs K E0 o to) (ha : DA Xs K E0 (e :: es) t)
    (hst : ∀ i, starEach (e :: es) (Xs i).env = (false, eval e (Xs i).env) :: starEach es (Xs i).env) (hpl : ∀ i, (backTo pos (starEach es (Xs i).env)).any (·.1) = false)
    (ht : ∀ i, eval (.Call (.Attribute o m apos) (e :: es) [] pos) (Xs i).env = (do
      let ov ← eval o (Xs i).env
      standAt apos.atName
      let (f, first) ← holding [ov] (getMethod ov m (pl i))
      callWith pos f first (backTo pos (starEach (e :: es) (Xs i).env)) (backToKw pos (keywordEach [] (Xs i).env)))) :
    DE Xs K E0 (.Call (.Attribute o m apos) (e :: es) [] pos) (dMeth C m F to t) := by
  obtain ⟨vo, po, eo⟩ := ho
  obtain ⟨va, pa, ea⟩ := ha
  refine ⟨tMeth C m (spD K F) [] E0 vo va, fun i => pe_meth (pl := pl i) (po i) (c i) (M i) (G i) (hr i) (hb i) .nil pass0 (pa i) (hst i) (hpl i) (ht i), ?_⟩
  intro p H0 Z0 ρ n Z σ H xd Q Qv w hx hh q2
  refine eo w hx hh fun v H1 d n1 w1 k1 r1 ⟨l, ed, hl, h1⟩ => ?_
  subst ed
  obtain ⟨a1, dx, fs, rfl, ⟨z, hh1⟩, rf⟩ := r1
  refine ⟨a1, dx, fs, rfl, hh1, rf.none hl, ea w1 hx h1 fun vs H2 ds n2 w2 k2 r2 h2 => ?_⟩
  rw [List.append_nil]
  have r1' : Rep K Z p H2 (.ins C l) (.ref a1) := Rep.mv (w1.mv k2) ⟨a1, dx, fs, rfl, ⟨z, hh1⟩, rf⟩
  exact sp_of w2 hx (ds := .ins C l :: ds) ⟨_, _, rfl, r1', r2⟩ h2 fun v H' d n' w' k' r' h' => q2 v H' d n' w' ((k1.trans k2).trans k') r' h'
/-- a maker called without arguments: its default -/
def dMake0 (F : DF) (dd : List D) : TD := fun _ n Q _ => F dd n Q x0
theorem de_make0 {C f : Addr} {fd : FuncData} {ps : List Str} {dd : List D} {dvs : List V} {ds : List Value} (M : ∀ i, Mk (Xs i).K C f) (G : ∀ i, FnOk (Xs i).prog (Xs i).w (Xs i).K (Xs i).mg (Xs i).base CX0 k f fd ps (spMk K C F)) (hr : ∀ i, Room (k + 1) (Xs i).A) (hm : ∀ i, (Xs i).mg x = some (.ref C)) (hb : ∀ i, Binds (Xs i).K fd ps ds) (hd : Vals dvs ds) (rd : ∀ Z p H, Reps K Z p H dd dvs)
    (hg : ∀ i, Gl (Xs i) x := by intro _; rfl) (hdb : (x == ("__debug__" : Str)) = false := by decide) :
    DE Xs K E0 (.Call (.Name x q) [] [] pos) (dMake0 F dd) := by
  refine ⟨tMake C (spMk K C F) dvs E0 tNil, fun i => pe_make0 (M i) (G i) (hr i) (hg i) (hm i) (hb i) hd pass0 hdb, ?_⟩
  intro p H0 Z0 ρ n Z σ H1 xd Q Qv w1 hx h1 q2
  intro y dx ny ndx hne
  have nyp : y ≠ p := fun z => w1.pot.ne (z ▸ ny)
  have ndp : dx ≠ p := fun z => w1.pot.ne (z ▸ ndx)
  have hX : Xt H1 (upd (upd H1 dx (.own y)) y (.ins C dx [])) := (Xt.new ndx).trans (Xt.new (by rw [upd_ne (Ne.symm hne)]; exact ny))
  refine ⟨y, dx, dvs, dd, Z, p, n, x0, Q, rfl, upd_same, w1.notin ny, hX.pot w1.pot, w1.zpp, fun a z e => ?_, rd _ _ _, h1, fun l n' H' fs hp' k' hy' rf hq => ?_, rfl⟩
  · cases ha : H1 a with
    | none => exact w1.dom a z ha
    | some o => rw [hX a o ha] at e; cases e
  · have kk : Kp p H1 H' := fun a o na h => k' a o na (ne_of_none h ny) (hX a o h)
    have mE : Mv (zAdd Z y) H' Z H' := fun a o z h => ⟨fun g => z (.inl g), h⟩
    exact ⟨rfl, q2 _ H' (.ins C l) n' (w1.kp kk hp') kk ⟨y, dx, fs, rfl, ⟨w1.notin ny, hy'⟩, rf.mv mE⟩ hq⟩
/-! ### max, min of a list of ints -/
theorem reps_ints {Z : Addr → Prop} {p : Addr} {H : Hp} : ∀ {xs : List Int} {vs : List V}, Reps K Z p H (xs.map .int) vs ↔ vs = xs.map V.int
  | [], _ => Iff.rfl
  | x :: xs, vs => by
    constructor
    · rintro ⟨v, r, e, a, b⟩
      cases a
      rw [e, reps_ints.mp b]
      rfl
    · intro e
      exact ⟨.int x, xs.map V.int, e, rfl, reps_ints.mpr rfl⟩
def dMaxL (t : TDA) : TD := fun ρ n Q x => t ρ n (fun ds n1 => ∃ ns : List Int, ds = [.lst (ns.map .int)] ∧ 0 < ns.length ∧ ∀ m, m ∈ ns → (∀ y, y ∈ ns → y ≤ m) → Q (.int m) n1) x
def dMinL (t : TDA) : TD := fun ρ n Q x => t ρ n (fun ds n1 => ∃ ns : List Int, ds = [.lst (ns.map .int)] ∧ 0 < ns.length ∧ ∀ m, m ∈ ns → (∀ y, y ∈ ns → m ≤ y) → Q (.int m) n1) x
theorem de_maxL (hK : ∀ i, (Xs i).K = K) (hc : ∀ i, (Xs i).calm = true) (hm : ∀ i, (Xs i).mg "max" = none) (ha : DA Xs K E (e :: es) t) (hg : ∀ i, Gl (Xs i) "max" := by intro _; rfl)
    (he : ∀ i, starEach (e :: es) (Xs i).env = (false, eval e (Xs i).env) :: starEach es (Xs i).env := by intro _; rfl) (hpl : ∀ i, (backTo pos (starEach es (Xs i).env)).any (·.1) = false := by intro _; rfl) :
    DE Xs K E (.Call (.Name "max" q) (e :: es) [] pos) (dMaxL t) := by
  obtain ⟨va, pa, ea⟩ := ha
  refine ⟨tCB (rMax K) va, fun i => ?_, fun w x hh q => ea w x hh fun vs H1 ds n1 w1 k1 r1 ⟨ns, e1, h0, h1⟩ => ?_⟩
  · have := pe_callB (p := q) (pos := pos) (cr_max (hc i)) (hg i) (hm i) (by decide +kernel) (pa i) (by decide) (by decide) (he i) (hpl i)
    rw [hK i] at this
    exact this
  · subst e1
    obtain ⟨v, rfl, c, us, rfl, hs, rs⟩ := reps1 r1
    have := reps_ints.mp rs
    subst this
    exact ⟨c, ns, rfl, sqL_of hs, h0, fun m m1 m2 => q _ _ (.int m) n1 w1 k1 rfl (h1 m m1 m2)⟩
theorem de_minL (hK : ∀ i, (Xs i).K = K) (hc : ∀ i, (Xs i).calm = true) (hm : ∀ i, (Xs i).mg "min" = none) (ha : DA Xs K E (e :: es) t) (hg : ∀ i, Gl (Xs i) "min" := by intro _; rfl)
    (he : ∀ i, starEach (e :: es) (Xs i).env = (false, eval e (Xs i).env) :: starEach es (Xs i).env := by intro _; rfl) (hpl : ∀ i, (backTo pos (starEach es (Xs i).env)).any (·.1) = false := by intro _; rfl) :
    DE Xs K E (.Call (.Name "min" q) (e :: es) [] pos) (dMinL t) := by
  obtain ⟨va, pa, ea⟩ := ha
  refine ⟨tCB (rMin K) va, fun i => ?_, fun w x hh q => ea w x hh fun vs H1 ds n1 w1 k1 r1 ⟨ns, e1, h0, h1⟩ => ?_⟩
  · have := pe_callB (p := q) (pos := pos) (cr_min (hc i)) (hg i) (hm i) (by decide +kernel) (pa i) (by decide) (by decide) (he i) (hpl i)
    rw [hK i] at this
    exact this
  · subst e1
    obtain ⟨v, rfl, c, us, rfl, hs, rs⟩ := reps1 r1
    have := reps_ints.mp rs
    subst this
    exact ⟨c, ns, rfl, sqL_of hs, h0, fun m m1 m2 => q _ _ (.int m) n1 w1 k1 rfl (h1 m m1 m2)⟩
/-- max(list, default=d) -/
def rMaxDef (K : PySem.W.Frag) : List V → List V → Hp → VK → Prop := fun vs zs H Q => ∃ (a : Addr) (ns : List Int) (d : Int), vs = [V.ref a] ∧ zs = [.int d] ∧ SqL K H a (ns.map V.int) ∧ (ns = [] → Q (.int d) H) ∧ ∀ m, m ∈ ns → (∀ y, y ∈ ns → y ≤ m) → Q (.int m) H
theorem reads_ints {h : Heap} : ∀ {ns : List Int} {us : List Value}, Vals (ns.map V.int) us → PySem.ReadsAll h us (ns.map .int) []
  | [], us, r => by cases r; exact .nil
  | n :: ns, us, r => by
    rw [List.map_cons] at r
    cases r with
    | cons h1 h2 =>
      obtain ⟨t, rfl⟩ := h1
      exact .cons (as := []) (bs := []) (.int _ _) (reads_ints h2)
theorem alike_ints (ns : List Int) : PySem.W.AlikeAll (ns.map .int) := by
  refine ⟨fun x hx y hy => ?_, fun x hx => ?_⟩
  · obtain ⟨i, _, rfl⟩ := List.mem_map.mp hx
    obtain ⟨j, _, rfl⟩ := List.mem_map.mp hy
    rfl
  · obtain ⟨i, _, rfl⟩ := List.mem_map.mp hx
    exact fun z => nomatch z
theorem depth_ints : ∀ ns : List Int, PyData.depthAll (ns.map .int) ≤ 1
  | [] => Nat.zero_le _
  | n :: ns => by
    have := depth_ints ns
    show max (PyData.depth (.int n)) (PyData.depthAll (ns.map .int)) ≤ 1
    have e : PyData.depth (.int n) ≤ 1 := by first | exact Nat.le_refl _ | exact Nat.zero_le _
    omega
theorem foldl_max : ∀ (ns : List Int) (n : Int), ns.foldl max n ∈ n :: ns ∧ ∀ y ∈ n :: ns, y ≤ ns.foldl max n
  | [], n => ⟨List.mem_cons_self .., fun y hy => by rw [List.mem_singleton.mp hy]; exact Int.le_refl _⟩
  | k :: ns, n => by
    obtain ⟨h1, h2⟩ := foldl_max ns (max n k)
    refine ⟨?_, fun y hy => ?_⟩
    · rcases List.mem_cons.mp h1 with h | h
      · show ns.foldl max (max n k) ∈ _
        rw [h]
        by_cases e : n ≤ k
        · rw [show max n k = k by omega]; exact List.mem_cons_of_mem _ (List.mem_cons_self ..)
        · rw [show max n k = n by omega]; exact List.mem_cons_self ..
      · exact List.mem_cons_of_mem _ (List.mem_cons_of_mem _ h)
    · have hm := h2 (max n k) (List.mem_cons_self ..)
      rcases List.mem_cons.mp hy with rfl | hy
      · show y ≤ ns.foldl max (max y k); omega
      · rcases List.mem_cons.mp hy with rfl | hy
        · show y ≤ ns.foldl max (max n y); omega
        · exact h2 y (List.mem_cons_of_mem _ hy)
theorem cr_maxDef {X : Cx} (hc : X.calm = true) (hu : X.A.units + 64 < cLine) : CallRK X (.builtin "max") ["default"] (rMaxDef X.K) := by
  intro pins s σ H xs zs us ws Q I r r2 h
  obtain ⟨a, ns, d, rfl, rfl, hs, q0, q1⟩ := h
  obtain ⟨its, rv, hl, _⟩ := I.list hs
  rw [Vals.ref1 r]
  obtain ⟨u, rfl, t, rfl⟩ := vals1 r2
  have hd := depth_ints ns
  refine PySem.W.max_list_default (I.ok.hd hc) hl.isList (reads_ints (by simpa using rv)) (alike_ints ns) (by omega) (fun e h' tk hk => ?_) (fun y ys i v h' tk bs e hi rd hk => ?_)
  · exact ⟨.int d, H, I.kept hk, ⟨_, rfl⟩, q0 (by simpa using e)⟩
  · cases ns with
    | nil => cases e
    | cons n ns =>
      cases e
      rw [PySem.W.maxD_ints] at rd
      cases rd
      obtain ⟨m1, m2⟩ := foldl_max ns n
      exact ⟨.int _, H, I.kept hk, ⟨_, rfl⟩, q1 _ m1 m2⟩
def dMaxDef (t : TDA) (z : Int) : TD := fun ρ n Q x => t ρ n (fun ds n1 => ∃ ns : List Int, ds = [.lst (ns.map .int)] ∧ (ns = [] → Q (.int z) n1) ∧ ∀ m, m ∈ ns → (∀ y, y ∈ ns → y ≤ m) → Q (.int m) n1) x
end
end DL
set_option Elab.async false
set_option linter.all false
set_option maxRecDepth 100000
set_option maxHeartbeats 1000000
set_option autoImplicit false
/-! DL: bool(..) of a sequence and of an own instance; max with default=; a dict comprehension. -/
namespace DOwn
open PySem PySem.Spec PyProof.Rows L2
theorem bool_new_in {prog : Program} {w : World} (v : Value) : MeetsIn prog w (Builtin.«bool.__new__» ⟨[.type "bool", v], []⟩) (fun A R s => wpAny (model prog w) A.in1 (truthy v) (fun b s' => R (.ok (.ret (.bool b))) s') (fun e s' => R (.error e) s') s) :=
  .of_wp fun A R s hs => by
    unfold Builtin.«bool.__new__»
    refine wpAny_bind (wpAny_of_eq (show isType (.type "bool") = pure true from rfl) ?_)
    simp only [Bool.not_true, Bool.false_eq_true, if_false]
    refine wpAny_bind (wpAny_of_eq F.conv_sub_bool ?_)
    simp only [Bool.not_true, Bool.false_eq_true, if_false]
    refine wpAny_bind (wpAny_of_eq (show someArgs "bool" 0 1 { pos := [v] } = pure [v] from rfl) ?_)
    refine wpAny_bind (wpAny_mono hs (fun b s' hb => ?_) fun _ _ x => x)
    exact wpAny_pure ⟨_, rfl, hb⟩
theorem call_bool_of {prog : Program} {w : World} {A : Around} {E : Value → Shared → Prop} {s : Shared} {v : Value} {Q : Value → Shared → Prop} (h : wpAny (model prog w) A.in1.in1 (truthy v) (fun b s' => Q (.bool b) s') E s) : wpAny (model prog w) A (call (.type "bool") [v]) Q E s :=
  callType_newIn F.called_bool F.newNe_bool (F.typeCall_bool_1 v) (F.newCall_bool_1 v) (fun obj => F.args_object_init_2 obj v) F.entry_bool_new (bool_new_in v) (wpAny_mono h (fun b s' q => ⟨rfl, q⟩) fun _ _ x => x)
section
variable {X : Cx} {k : Nat} {CX : CXT} {f C : Addr} {fd : FuncData} {ps : List Str} {sp : Sp} {E : XK}
def rBoolOwn (C : Addr) (sp : Sp) (E : XK) : List V → Hp → VK → Prop := fun xs H Q => ∃ a dx fs, xs = [.ref a] ∧ H a = some (.ins C dx fs) ∧ sp [.ref a] H (fun v H' => ∃ c, v = .bl c ∧ Q (.bl c) H') E
theorem call_boolOwn (G : FnOk X.prog X.w X.K X.mg X.base CX k f fd ps sp) (hr : Room (k + 2) X.A) (hb : Binds X.K fd ps []) (hx : Passes CX X E)
    (hs : PySem.W.findIn X.K (.ref C) "__bool__" = some (some (.ref f))) (hf : PySem.W.isFn X.K (.ref f) = true) : CallR X (.type "bool") (rBoolOwn C sp E) := by
  intro pins s σ H xs us Q I r h
  obtain ⟨a, dx, fs, rfl, ha, h⟩ := h
  obtain rfl := Vals.ref1 r
  refine call_bool_of ?_
  obtain ⟨od, J⟩ := inst_of I ha
  have key := run_any (A := X.A.in1.in1) G hr.in1.in1 rfl hb hx I (vs := [.ref a]) (us := [.ref a]) (.cons rfl .nil) h
  unfold truthy
  have sp1 : ∀ {Q' : Option Value → Shared → Prop}, (∀ u s', EP X pins σ (fun v H' => ∃ c, v = .bl c ∧ Q (.bl c) H') u s' → Q' (some u) s') → wpAny (model X.prog X.w) X.A.in1.in1 (callSpecial? (.ref a) (Str.ofString "__bool__")) Q' X.xe s := fun q =>
    PySem.W.special_fn I.kIn J hs (beq_iff_eq.mp hf) (wpAny_mono key (fun z s' hz => q z s' hz) fun _ _ x => x)
  have fin : ∀ (u : Value) (s' : Shared), EP X pins σ (fun v H' => ∃ c, v = .bl c ∧ Q (.bl c) H') u s' → ∃ c, u = .bool c ∧ EP X pins σ Q (.bool c) s' := fun u s' ⟨v, H', I', r', c, ev, q'⟩ => by
    subst ev
    cases r'
    exact ⟨c, rfl, .bl c, H', I', rfl, q'⟩
  first
    | refine wpAny_bind (sp1 fun u s' hu => ?_)
    | refine wpAny_bind (wpAny_pure (wpAny_bind (sp1 fun u s' hu => ?_)))
  obtain ⟨c, rfl, hq⟩ := fin u s' hu
  exact wpAny_pure hq
/-- bool(a tuple) -/
theorem call_boolT : CallR X (.type "bool") (fun xs H Q => ∃ (a : Addr) (ys : List V), xs = [.ref a] ∧ SqT X.K H a ys ∧ Q (.bl (!ys.isEmpty)) H) := by
  intro pins s σ H xs us Q I r h
  obtain ⟨a, ys, rfl, hx, q⟩ := h
  obtain rfl := Vals.ref1 r
  refine call_bool_of ?_
  obtain ⟨its, rv, pl, hz⟩ := I.tuple hx
  have hlen := rv.length
  have hl := line63
  exact truthy_tuple pl (by simp only [List.size_toArray]; omega) ⟨.bl (!ys.isEmpty), H, I.tok _, by rw [isEmpty_of rv]; rfl, q⟩
end
end DOwn
namespace DL
open PySem L2
section
variable {ι : Type} {Xs : ι → Cx} {K : PySem.W.Frag} {E : XK} {pos q p1 p2 apos cpos kpos : Pos} {tg a b e o iter : Expr} {es : List Expr} {ta tb te to tk tx : TD} {t : TDA} {ti : TDL} {F : DF} {k kF : Nat} {x m : Str} {ts : List Nat} {f : TDG}
def boolD : List D → Option D
  | [.tup l] => some (.bl (!l.isEmpty))
  | _ => none
theorem cd_boolT {K : PySem.W.Frag} : ClD K (fun xs H Q => ∃ (a : Addr) (ys : List V), xs = [.ref a] ∧ SqT K H a ys ∧ Q (.bl (!ys.isEmpty)) H) boolD := by
  intro Z p H ds d xs Q hz r e q
  unfold boolD at e
  split at e
  · rename_i l
    cases e
    obtain ⟨v, rfl, c, us, rfl, hs, rs⟩ := reps1 r
    refine ⟨c, us, rfl, sqT_of hs, q _ _ .refl ?_⟩
    have := rs.len
    show V.bl (!us.isEmpty) = V.bl (!l.isEmpty)
    cases l <;> cases us <;> first | rfl | simp at this
  · cases e
def dBoolOwn (C : Addr) (F : DF) (t : TDA) : TD := fun ρ n Q x => t ρ n (fun ds n1 => ∃ l, ds = [.ins C l] ∧ F ds n1 (fun d n2 => ∃ c, d = .bl c ∧ Q (.bl c) n2) x) x
theorem de_boolOwn {C g : Addr} {fd : FuncData} {ps : List Str} (M : ∀ i, OwnM (Xs i).prog (Xs i).w (Xs i).K (Xs i).mg (Xs i).base K C "__bool__" k F g fd ps) (hr : ∀ i, Room (k + 2) (Xs i).A) (hm : ∀ i, (Xs i).mg "bool" = none) (ha : DA Xs K E0 (e :: es) t) (hg : ∀ i, Gl (Xs i) "bool" := by intro _; rfl)
    (he : ∀ i, starEach (e :: es) (Xs i).env = (false, eval e (Xs i).env) :: starEach es (Xs i).env := by intro _; rfl) (hpl : ∀ i, (backTo pos (starEach es (Xs i).env)).any (·.1) = false := by intro _; rfl) :
    DE Xs K E0 (.Call (.Name "bool" q) (e :: es) [] pos) (dBoolOwn C F t) := by
  obtain ⟨va, pa, ea⟩ := ha
  refine ⟨tCB (DOwn.rBoolOwn C (spD K F) E0) va, fun i => pe_callTy (DOwn.call_boolOwn (M i).ok (hr i) (M i).bd pass0 (M i).at_ (M i).fn) (hg i) (hm i) (by decide +kernel) (pa i) (by decide) (by decide) (he i) (hpl i), fun w hx hh q2 => ea w hx hh fun vs H1 ds n1 w1 k1 r1 ⟨l, e1, h1⟩ => ?_⟩
  subst e1
  obtain ⟨v, rfl, r⟩ := reps1 r1
  obtain ⟨a1, dx, fs, rfl, ⟨z, hh1⟩, rf⟩ := r
  refine ⟨a1, dx, fs, rfl, hh1, sp_of w1 hx r1 h1 fun v H' d n' w' k' r' ⟨c, ec, h'⟩ => ?_⟩
  subst ec
  exact ⟨c, r', q2 _ H' (.bl c) n' w' (k1.trans k') rfl h'⟩
/-- max(list, default=z) -/
theorem de_maxDef {z : Int} {jz : Nat} {pz : Pos} (hK : ∀ i, (Xs i).K = K) (hc : ∀ i, (Xs i).calm = true) (hu : ∀ i, (Xs i).A.units + 64 < cLine) (hm : ∀ i, (Xs i).mg "max" = none) (ha : DA Xs K E (e :: es) t) (hg : ∀ i, Gl (Xs i) "max" := by intro _; rfl)
    (he : ∀ i, backTo pos (starEach (e :: es) (Xs i).env) = (false, eval e (Xs i).env) :: backTo pos (starEach es (Xs i).env) := by intro _; rfl) (hpl : ∀ i, (backTo pos (starEach (e :: es) (Xs i).env)).any (·.1) = false := by intro _; rfl) :
    DE Xs K E (.Call (.Name "max" q) (e :: es) [⟨some "default", .Constant (.int z) jz pz, kpos⟩] pos) (dMaxDef t z) := by
  obtain ⟨va, pa, ea⟩ := ha
  refine ⟨tCKw (rMaxDef K) va (tCons (tC (.int z)) tNil), fun i => ?_, fun w x hh q => ea w x hh fun vs H1 ds n1 w1 k1 r1 ⟨ns, e1, h0, h1⟩ => ?_⟩
  · have := pe_callBK (X := Xs i) (p := q) (pos := pos) (kws := [⟨some "default", .Constant (.int z) jz pz, kpos⟩]) (cr_maxDef (hc i) (hu i)) (hg i) (hm i) (by decide +kernel) (pa i) (pk_cons (kpos := kpos) (nm := some "default") (pe_int (i := z) (j := jz) (pos := pz)) pk_nil) (by decide) (by decide) (he i) (hpl i)
    rw [hK i] at this
    exact this
  · subst e1
    obtain ⟨v, rfl, c, us, rfl, hs, rs⟩ := reps1 r1
    have := reps_ints.mp rs
    subst this
    exact ⟨c, ns, z, rfl, rfl, sqL_of hs, fun e => q _ _ (.int z) n1 w1 k1 rfl (h0 e), fun m m1 m2 => q _ _ (.int m) n1 w1 k1 rfl (h1 m m1 m2)⟩
/-! ### a dict comprehension -/
def DcB (f : TDG) (tt : TDT) (tk te : TD) (vs : List Nat) (ρ : DSt) (Q : DQ) (l : List D) (n1 : Nat) : Prop := l.length ≤ most ∧ ∃ W : Nat → List (Key × D) → Nat → Prop, W 0 [] n1 ∧
  (∀ i acc n d, l[i]? = some d → W i acc n → ∃ ρ', f d (wipeD ρ vs) = some ρ' ∧ tt ρ' n (fun b n2 => if b = true then tk ρ' n2 (fun c n3 => ∃ ck : Key, c = keyD ck ∧ te ρ' n3 (fun r n4 => W (i + 1) (putD acc ck r) n4) x0) x0 else W (i + 1) acc n2) x0) ∧ ∀ acc n, W l.length acc n → acc.length ≤ l.length → Q (.dct acc) n
def dDc (ti : TDL) (f : TDG) (tt : TDT) (tk te : TD) (vs : List Nat) : TD := fun ρ n Q x => ti ρ n (DcB f tt tk te vs ρ Q) x
theorem putD_len (l : List (Key × D)) (k : Key) (d : D) : (putD l k d).length ≤ l.length + 1 := by
  unfold putD
  split
  · rw [List.length_map]; omega
  · rw [List.length_append]; exact Nat.le_refl _
theorem ev_dc {wi : TI} {g : TG} {vt : TT} {vk ve : TE} {tt : TDT} {vs : List Nat} (ei : IvD K E wi ti) (eg : GvD K g ts f) (et : EvT K E0 vt tt) (ek : EvD K E0 vk tk) (ee : EvD K E0 ve te) (hts : ∀ i ∈ ts, i ∈ vs) : EvD K E (tDc wi g vt vk ve vs) (dDc ti f tt tk te vs) := by
  intro p H0 Z0 ρ n Z σ H x Q Qv w hx hh q
  refine ei w hx hh fun J H1 l n1 w1 k1 it ⟨hl, W, h0, hstep, hend⟩ D hD => ?_
  have wA := w1.add (o := .dK []) hD
  have hD0 : H0 D = none := w1.new0 hD
  have nDp : D ≠ p := fun e => by rw [e] at hD; exact w1.pot.ne hD
  refine ⟨fun i m H' => m = l.length - i ∧ i ≤ l.length ∧ ∃ acc vs' n', Wd K p H0 Z0 ρ n' (zAdd Z D) σ H' ∧ Mv Z H1 (zAdd Z D) H' ∧ H' D = some (.dK vs') ∧ RepK K (zAdd Z D) p H' acc vs' ∧ W i acc n' ∧ acc.length ≤ i ∧ Kp p (upd H1 D (.dK [])) (upd H' D (.dK [])), ⟨_, rfl, Nat.zero_le _, [], [], n1, wA, mv_add hD, upd_same, rfl, h0, Nat.le_refl _, by rw [upd_upd]; exact .refl⟩, ?_⟩
  rintro i m H' ⟨rfl, hil, acc, vs', n', w', m', hD', ra, hW, hacc, kk⟩
  by_cases hlt : i < l.length
  · refine .inr ⟨it.go i _ H' m' hlt, fun H2 => ∃ acc vs' n', Wd K p H0 Z0 ρ n' (zAdd Z D) σ H2 ∧ Mv Z H1 (zAdd Z D) H2 ∧ H2 D = some (.dK vs') ∧ RepK K (zAdd Z D) p H2 acc vs' ∧ W (i + 1) acc n' ∧ acc.length ≤ i + 1 ∧ Kp p (upd H1 D (.dK [])) (upd H2 D (.dK [])), fun H2 ⟨acc, vs', n', h⟩ => ⟨l.length - (i + 1), by omega, rfl, hlt, acc, vs', n', h⟩, fun v H2 y => ?_⟩
    obtain ⟨d, ed, xt, rd⟩ := it.yld i _ H' v H2 m' (fun _ => w'.notin) hlt y
    obtain ⟨ρ3, ef, hb3⟩ := hstep i acc n' d ed hW
    have w2 := (w'.xt xt).wipe vs
    have keepD : ∀ {A B : Hp}, Kp p A B → Kp p (upd A D (.dK [])) (upd B D (.dK [])) := fun {A B} k a o na h => by
      by_cases ea : a = D
      · subst ea; rw [upd_same] at h ⊢; exact h
      · rw [upd_ne ea] at h ⊢; exact k a o na h
    refine eg w2 rd ef fun σ3 w3 t3 => ⟨by rw [t3.wipe hts, wipe_wipe], et w3 HE.zero hb3 fun b H4 n4 w4 k4 h4 => ?_⟩
    have k24 : Kp p H' H4 := xt.kp.trans k4
    have back : ∀ {H5 : Hp} {n5 : Nat}, PotAt H5 p n5 → Kp p H' H5 → Wd K p H0 Z0 ρ n5 (zAdd Z D) σ H5 := fun hp k => w'.kp k hp
    cases b with
    | false =>
      exact ⟨acc, vs', n4, back w4.pot k24, m'.trans (w'.mv k24), k24 D _ nDp hD', ra.mv (w'.mv k24), h4, by omega, kk.trans (keepD k24)⟩
    | true =>
      refine ek w4 HE.zero h4 fun uk Hk dk nk wk kk1 rk1 ⟨ck, ec, hk⟩ => ?_
      subst ec
      have huk := key_of rk1
      subst huk
      refine ee wk HE.zero hk fun u H5 d5 n5 w5 k5 r5 h5 => ?_
      have k25 := (k24.trans kk1).trans k5
      have w6 := back w5.pot k25
      have hD5 := k25 D _ nDp hD'
      have le : vs'.length ≤ most := by
        rw [← ra.len]
        exact Nat.le_trans hacc (Nat.le_trans hil hl)
      have mU : Mv (zAdd Z D) H5 (zAdd Z D) (upd H5 D (.dK (putK vs' ck u))) := fun a o z h => ⟨z, by rw [upd_ne fun e => z (.inr e)]; exact h⟩
      refine ⟨vs', ck, rfl, hD5, most_lt le, putD acc ck d5, putK vs' ck u, n5, ?_, (m'.trans (w'.mv k25)).trans mU, upd_same, ?_, h5, Nat.le_trans (putD_len _ _ _) (by omega), ?_⟩
      · refine ⟨?_, w6.zp, w6.d0, w6.sub, fun a z => ?_, fun a o na h => ?_, w6.len, fun j s hs => ?_, w6.dis⟩
        · obtain ⟨o, s, c, hp, r⟩ := w6.pot
          exact ⟨o, s, c, by rw [upd_ne (Ne.symm nDp)]; exact hp, r⟩
        · by_cases ea : a = D
          · rw [ea, upd_same]; exact fun h => nomatch h
          · rw [upd_ne ea]; exact w6.dom a z
        · by_cases ea : a = D
          · rw [ea, hD0] at h; cases h
          · rw [upd_ne ea]; exact w6.keep a o na h
        · obtain ⟨v7, e7, r7⟩ := w'.env j s hs
          refine ⟨v7, e7, ?_⟩
          have mm := (w'.mv k25).trans mU
          cases s with
          | val d => exact Rep.mv mm r7
          | own l =>
            obtain ⟨b, bs, eb, zb, b0, hb, rb⟩ := r7
            have nb : b ≠ D := fun e => by
              obtain ⟨v8, e8, b', bs', eb', zb', _⟩ := w1.env j _ hs
              rw [e7] at e8
              cases e8
              rw [eb] at eb'
              cases eb'
              rw [e] at zb'
              exact w1.notin hD zb'
            exact ⟨b, bs, eb, zb, b0, by rw [upd_ne nb]; exact k25 b _ (w1.own_ne b0) hb, rb.mv mm⟩
          | ownD l =>
            obtain ⟨b, bs, eb, zb, b0, hb, rb⟩ := r7
            have nb : b ≠ D := fun e => by
              obtain ⟨v8, e8, b', bs', eb', zb', _⟩ := w1.env j _ hs
              rw [e7] at e8
              cases e8
              rw [eb] at eb'
              cases eb'
              rw [e] at zb'
              exact w1.notin hD zb'
            exact ⟨b, bs, eb, zb, b0, by rw [upd_ne nb]; exact k25 b _ (w1.own_ne b0) hb, rb.mv mm⟩
      · exact ((ra.mv (w'.mv k25)).put r5).mv mU
      · rw [upd_upd]; exact kk.trans (keepD k25)
  · have el : i = l.length := by omega
    subst el
    have mE : Mv (zAdd Z D) H' Z H' := fun a o z h => ⟨fun y => z (.inl y), h⟩
    have kE : Kp p H1 H' := fun a o na h => by
      have ne : a ≠ D := ne_of_none h hD
      have := kk a o na (by rw [upd_ne ne]; exact h)
      rwa [upd_ne ne] at this
    refine .inl ⟨it.stop _ H' m', q _ H' (.dct acc) n' ?_ (k1.trans kE) ⟨D, vs', rfl, ⟨w1.notin hD, hD'⟩, ra.mv mE⟩ (hend acc n' hW hacc)⟩
    exact w1.kp kE w'.pot
theorem de_dc {kx vx : Expr} {ifs : List Expr} {scope : Scope} {own : List (Str × Nat)} {tt : TDT} (hc : ∀ i, (Xs i).calm = true) (hN : ∀ i, (Xs i).N.Nodup) (hi : DI Xs K E tg iter ti) (ok : ∀ i, BlkOk (Xs i).N (Xs i).env.scope scope own) (hg : DG (blkF Xs scope) K tg ts f) (ht : DTs (blkF Xs scope) K E0 ifs tt) (hk : DE (blkF Xs scope) K E0 kx tk) (he : DE (blkF Xs scope) K E0 vx te) (hts : ∀ i ∈ ts, i ∈ own.map (·.2))
    (hs : ∀ i x, foldedSetIterable iter (Xs i).env x = pure x := by intro _ _; rfl) : DE Xs K E (.DictComp kx vx [⟨tg, iter, ifs, 0⟩] scope pos) (dDc ti f tt tk te (own.map (·.2))) := by
  obtain ⟨wi, pi, ei⟩ := hi
  obtain ⟨g, pg, eg⟩ := hg
  obtain ⟨vt, pt, et⟩ := ht
  obtain ⟨vk, pk, ek⟩ := hk
  obtain ⟨ve, pe, ee⟩ := he
  exact ⟨_, fun i => pe_dc (hc i) (hN i) (pi i) (ok i) (fun s H C cl fp => pg (i, s, H, C, cl, fp)) (fun s H C cl fp => pt (i, s, H, C, cl, fp)) (fun s H C cl fp => pk (i, s, H, C, cl, fp)) (fun s H C cl fp => pe (i, s, H, C, cl, fp)) (hs i), ev_dc ei eg et ek ee hts⟩
end
end DL
set_option Elab.async false
set_option linter.all false
set_option maxRecDepth 100000
set_option maxHeartbeats 1000000
set_option autoImplicit false
/-! DL: lists that a def fills; another pot. -/
namespace DL
open PySem L2
mutual
def D.np : D → Bool
  | .pot => false
  | .tup l => npL l
  | .lst l => npL l
  | .dct l => npK l
  | .ins _ l => npF l
  | .exc _ l => npF l
  | .dlk l => npK l
  | .odd _ ks vs => npL ks && npL vs
  | _ => true
def npL : List D → Bool
  | [] => true
  | d :: l => d.np && npL l
def npK : List (Key × D) → Bool
  | [] => true
  | (_, d) :: l => d.np && npK l
def npF : List (Str × D) → Bool
  | [] => true
  | (_, d) :: l => d.np && npF l
end
section
variable {K : PySem.W.Frag} {Z : Addr → Prop} {p p' : Addr} {H : Hp}
mutual
theorem Rep.turn : ∀ {d : D} {v : V}, d.np = true → Rep K Z p H d v → Rep K Z p' H d v
  | .non, _, _, h => h
  | .bl _, _, _, h => h
  | .int _, _, _, h => h
  | .str _, _, _, h => h
  | .ty _, _, _, h => h
  | .con _, _, _, h => h
  | .pot, _, n, _ => by simp [D.np] at n
  | .tup l, _, n, ⟨a, vs, e, w, r⟩ => ⟨a, vs, e, w, Reps.turn (l := l) (by simpa [D.np] using n) r⟩
  | .lst l, _, n, ⟨a, vs, e, w, r⟩ => ⟨a, vs, e, w, Reps.turn (l := l) (by simpa [D.np] using n) r⟩
  | .dct l, _, n, ⟨a, vs, e, w, r⟩ => ⟨a, vs, e, w, RepK.turn (l := l) (by simpa [D.np] using n) r⟩
  | .ins C l, _, n, ⟨a, dx, fs, e, w, r⟩ => ⟨a, dx, fs, e, w, RepF.turn (l := l) (by simpa [D.np] using n) r⟩
  | .dlk l, _, n, ⟨a, o, vs, e, w, r⟩ => ⟨a, o, vs, e, w, RepK.turn (l := l) (by simpa [D.np] using n) r⟩
  | .odd w ks vs, _, n, ⟨a, o, nks, us, ws, e, q, oo, nk, r1, r2⟩ => by
    have n : npL ks = true ∧ npL vs = true := by simpa [D.np] using n
    exact ⟨a, o, nks, us, ws, e, q, oo, nk, Reps.turn n.1 r1, Reps.turn n.2 r2⟩
  | .exc C l, _, n, ⟨a, dx, fs, e, w, w2, r⟩ => ⟨a, dx, fs, e, w, w2, RepF.turn (l := l) (by simpa [D.np] using n) r⟩
theorem Reps.turn : ∀ {l : List D} {v : List V}, npL l = true → Reps K Z p H l v → Reps K Z p' H l v
  | [], _, _, h => h
  | d :: l, _, n, ⟨v, r, e, a, b⟩ => by
    have n : d.np = true ∧ npL l = true := by simpa [npL] using n
    exact ⟨v, r, e, Rep.turn n.1 a, Reps.turn n.2 b⟩
theorem RepK.turn : ∀ {l : List (Key × D)} {v : List (Key × V)}, npK l = true → RepK K Z p H l v → RepK K Z p' H l v
  | [], _, _, h => h
  | (k, d) :: l, _, n, ⟨v, r, e, a, b⟩ => by
    have n : d.np = true ∧ npK l = true := by simpa [npK] using n
    exact ⟨v, r, e, Rep.turn n.1 a, RepK.turn n.2 b⟩
theorem RepF.turn : ∀ {l : List (Str × D)} {v : List (Str × V)}, npF l = true → RepF K Z p H l v → RepF K Z p' H l v
  | [], _, _, h => h
  | (k, d) :: l, _, n, ⟨v, r, e, a, b⟩ => by
    have n : d.np = true ∧ npF l = true := by simpa [npF] using n
    exact ⟨v, r, e, Rep.turn n.1 a, RepF.turn n.2 b⟩
end
end
def Sl.np : Sl → Bool
  | .val d => d.np
  | .own l => npL l
  | .ownD l => npK l
theorem npL_map {α : Type} (f : α → D) : ∀ l : List α, (∀ a ∈ l, (f a).np = true) → npL (l.map f) = true
  | [], _ => rfl
  | a :: l, h => by
    show ((f a).np && npL (l.map f)) = true
    rw [h a (List.mem_cons_self ..), npL_map f l fun b hb => h b (List.mem_cons_of_mem _ hb)]
    rfl
theorem npK_map {α : Type} (f : α → Key × D) : ∀ l : List α, (∀ a ∈ l, (f a).2.np = true) → npK (l.map f) = true
  | [], _ => rfl
  | a :: l, h => by
    show ((f a).2.np && npK (l.map f)) = true
    rw [h a (List.mem_cons_self ..), npK_map f l fun b hb => h b (List.mem_cons_of_mem _ hb)]
    rfl
section
variable {ι : Type} {Xs : ι → Cx} {K : PySem.W.Frag} {E : XK} {pos q p1 p2 apos cpos kpos : Pos} {tg a b e o iter : Expr} {es : List Expr} {ta tb te to tk tx : TD} {t : TDA} {ti : TDL} {F : DF} {k kF : Nat} {x m : Str} {ts : List Nat} {f : TDG}
variable {p p' : Addr} {H0 H : Hp} {Z0 Z : Addr → Prop} {ρ ρ' : DSt} {n n' : Nat} {σ : St}
/-- another pot is taken up -/
theorem Wd.turn (w : Wd K p H0 Z0 ρ n Z σ H) (zp : Z0 p') (hp : PotAt H p' n') (hl : ρ'.length = ρ.length) (hs : ∀ (i : Nat) (s : Sl), ρ'[i]? = some (some s) → ρ[i]? = some (some s) ∧ s.np = true) : ∃ H0', Wd K p' H0' Z0 ρ' n' Z σ H ∧ ∀ b, Z0 b → H0' b = H b := by
  refine ⟨fun a => match H0 a with | none => none | some _ => H a, ⟨hp, zp, fun a z e => ?_, w.sub, w.dom, fun a o _ h => ?_, w.len.trans hl.symm, fun i s h => ?_, fun i j a s t ne hi hj => ?_⟩, fun b z => ?_⟩
  · cases h : H0 a with
    | none => exact w.d0 a z h
    | some o => rw [h] at e; exact w.dom a (w.sub a z) e
  · cases h0 : H0 a with
    | none => rw [h0] at h; cases h
    | some u => rw [h0] at h; exact h
  · obtain ⟨h, np⟩ := hs i s h
    obtain ⟨v, ev, r⟩ := w.env i s h
    refine ⟨v, ev, ?_⟩
    cases s with
    | val d => exact Rep.turn (d := d) np r
    | own l =>
      obtain ⟨b, vs, eb, zb, b0, hb, rb⟩ := r
      exact ⟨b, vs, eb, zb, by dsimp only; rw [b0], hb, rb.turn np⟩
    | ownD l =>
      obtain ⟨b, vs, eb, zb, b0, hb, rb⟩ := r
      exact ⟨b, vs, eb, zb, by dsimp only; rw [b0], hb, rb.turn np⟩
  · exact w.dis i j a s t ne (hs i s hi).1 (hs j t hj).1
  · dsimp only
    cases h : H0 b with
    | none => exact absurd h (w.d0 b z)
    | some o => rfl
theorem Wd.ownL {i : Nat} {l : List D} (w : Wd K p H0 Z0 ρ n Z σ H) (h : ρ[i]? = some (some (.own l))) : ∃ c vs, σ[i]? = some (some (.ref c)) ∧ Z c ∧ H0 c = none ∧ H c = some (.lst vs) ∧ Reps K Z p H l vs := by
  obtain ⟨v, e, c, vs, ev, r⟩ := w.env i _ h
  subst ev
  exact ⟨c, vs, e, r⟩
/-- a list is changed no more -/
theorem Wd.freeze {i : Nat} {l : List D} (w : Wd K p H0 Z0 ρ n Z σ H) (h : ρ[i]? = some (some (.own l))) : ∃ Z', Wd K p H0 Z0 (ρ.set i (some (.val (.lst l)))) n Z' σ H ∧ Mv Z H Z' H := by
  obtain ⟨c, vs, es, zc, h0, hc, rs⟩ := w.ownL h
  have mv : Mv Z H (fun a => Z a ∧ a ≠ c) H := fun a o z e => ⟨fun y => z y.1, e⟩
  have hil : i < ρ.length := (List.getElem?_eq_some_iff.mp h).1
  refine ⟨fun a => Z a ∧ a ≠ c, ⟨w.pot, w.zp, w.d0, fun a z => ⟨w.sub a z, fun e => w.d0 a z (by rw [e]; exact h0)⟩, fun a z => w.dom a z.1, w.keep, by rw [List.length_set]; exact w.len, fun j s hj => ?_, fun j k a s t ne hj hk sj sk e => ?_⟩, mv⟩
  · by_cases ej : i = j
    · subst ej
      rw [List.getElem?_set_self hil] at hj
      cases hj
      exact ⟨.ref c, es, c, vs, rfl, ⟨fun y => y.2 rfl, hc⟩, rs.mv mv⟩
    · rw [List.getElem?_set_ne ej] at hj
      obtain ⟨v, ev, r⟩ := w.env j s hj
      refine ⟨v, ev, ?_⟩
      cases s with
      | val d => exact Rep.mv mv r
      | own l' =>
        obtain ⟨b, us, eb, zb, b0, hb, rb⟩ := r
        exact ⟨b, us, eb, ⟨zb, fun z => by subst eb; rw [z] at ev; exact w.dis i j c _ _ ej h hj rfl rfl es ev⟩, b0, hb, rb.mv mv⟩
      | ownD l' =>
        obtain ⟨b, us, eb, zb, b0, hb, rb⟩ := r
        exact ⟨b, us, eb, ⟨zb, fun z => by subst eb; rw [z] at ev; exact w.dis i j c _ _ ej h hj rfl rfl es ev⟩, b0, hb, rb.mv mv⟩
  · have back : ∀ {m : Nat} {s : Sl}, (ρ.set i (some (.val (.lst l))))[m]? = some (some s) → s.owned = true → ρ[m]? = some (some s) := fun {m s} h so => by
      by_cases ej : i = m
      · subst ej; rw [List.getElem?_set_self hil] at h; cases h; cases so
      · rwa [List.getElem?_set_ne ej] at h
    exact w.dis j k a s t ne (back hj sj) (back hk sk) sj sk e
/-- a new list comes to a slot -/
theorem Wd.newL (w : Wd K p H0 Z0 ρ n Z σ H) {c : Addr} (hc : H c = none) (i : Nat) : Wd K p H0 Z0 (ρ.set i (some (.own []))) n (zAdd Z c) (σ.set i (some (.ref c))) (upd H c (.lst [])) := by
  have w1 := w.add (o := .lst []) hc
  have oth : ∀ (j : Nat) (s : Sl), s.owned = true → ρ[j]? = some (some s) → σ[j]? ≠ some (some (.ref c)) := fun j s so h e => by
    obtain ⟨v, ev, r⟩ := w.env j s h
    rw [e] at ev
    cases ev
    cases s with
    | val d => cases so
    | own l => obtain ⟨b, vs, eb, zb, _, hb, _⟩ := r; cases eb; rw [hc] at hb; cases hb
    | ownD l => obtain ⟨b, vs, eb, zb, _, hb, _⟩ := r; cases eb; rw [hc] at hb; cases hb
  refine ⟨w1.pot, w1.zp, w1.d0, w1.sub, w1.dom, w1.keep, by rw [List.length_set, List.length_set]; exact w.len, fun j s h => ?_, fun j k b s t ne hj hk sj sk e => ?_⟩
  · by_cases ej : i = j
    · subst ej
      have hl : i < ρ.length := by
        have := (List.getElem?_eq_some_iff.mp h).1
        rwa [List.length_set] at this
      rw [List.getElem?_set_self hl] at h
      cases h
      exact ⟨.ref c, List.getElem?_set_self (by rw [w.len]; exact hl), c, [], rfl, .inr rfl, w.new0 hc, upd_same, rfl⟩
    · rw [List.getElem?_set_ne ej] at h ⊢
      exact w1.env j s h
  · have lt : ∀ {m : Nat} {u : Option Sl}, (ρ.set i (some (.own [])))[m]? = some u → m < ρ.length := fun h => by
      have := (List.getElem?_eq_some_iff.mp h).1
      rwa [List.length_set] at this
    by_cases ej : i = j
    · subst ej
      rw [List.getElem?_set_self (by rw [w.len]; exact lt hj)] at e
      cases e
      rw [List.getElem?_set_ne ne] at hk ⊢
      exact oth k t sk hk
    · rw [List.getElem?_set_ne ej] at hj e
      by_cases ek : i = k
      · subst ek
        rw [List.getElem?_set_self (by rw [w.len]; exact lt hk)]
        intro z
        cases z
        exact oth j s sj hj e
      · rw [List.getElem?_set_ne ek] at hk ⊢
        exact w.dis j k b s t ne hj hk sj sk e
/-- x.append(e) of a list that the def fills -/
def dApp (j : Nat) (te : TD) : TDS := fun De ρ n x => ∃ l, ρ[j]? = some (some (.own l)) ∧ l.length < most ∧ te ρ n (fun d n1 => De.nx (ρ.set j (some (.own (l ++ [d])))) n1) x
theorem ds_app {j : Nat} {y : Str} {py : Pos} (hK : ∀ i, (Xs i).K = K) (hN : ∀ k, (Xs k).N[j]? = some y) (hv : ∀ k, Vis (Xs k).env.scope y) (he : DE Xs K E e te) (hs : ∀ i, swapsWith (.Call (.Attribute (.Name y py) "append" apos) [e] [] cpos) none pos.line (Xs i).env = pure false := by intro _; rfl)
    (hbase : ∀ i, attributeBase (.Name y py) "append" (Xs i).env (eval (.Name y py) (Xs i).env) = eval (.Name y py) (Xs i).env := by intro _; rfl)
    (hfew : ∀ i, ((backTo cpos (starEach [e] (Xs i).env)).all (fun x => !x.1) && (backToKw cpos (keywordEach [] (Xs i).env)).all (fun x => x.1.isSome)
      && decide ([e].length + ([] : List Keyword).length + (if ([] : List Keyword).isEmpty then 0 else 1) < 30)) = true := by intro _; rfl)
    (hline : (apos.endLine == cpos.line) = true := by rfl) (hst : ∀ i, starEach [e] (Xs i).env = (false, eval e (Xs i).env) :: starEach [] (Xs i).env := by intro _; rfl)
    (hd : (y == ("__debug__" : Str)) = false := by decide) (hcd : (y == ("__classdict__" : Str)) = false := by decide) : DS Xs K E (.Expr (.Call (.Attribute (.Name y py) "append" apos) [e] [] cpos) pos) (dApp j te) := by
  obtain ⟨ve, pe, ee⟩ := he
  refine ⟨tDrop (tBM K "list" rAppend (tVar j) (tCons ve tNil)), fun i => ?_, fun {p H0 Z0 ρ n Z σ H x De Dv} w x hh qn qr qb qc => ?_⟩
  · have := pe_bm (X := Xs i) (cpos := cpos) (apos := apos) PySem.F.plainAttrs_list PySem.F.slot_list_append PySem.F.type_list_append mt_append (pe_var (pos := py) (hN i) (hv i) hd hcd) (pa_cons (pe i) pa_nil (hst i)) (hbase i) (hfew i) hline (hst i) rfl
    rw [hK i] at this
    exact ps_expr this (hs i)
  obtain ⟨l, el, hl, hh⟩ := hh
  obtain ⟨c, vs, es, zc, h0, hc, rs⟩ := w.ownL el
  refine ⟨.ref c, es, .inl ⟨rfl, vs, .inl (.inl hc)⟩, ee w x hh fun u H1 d n1 w1 k1 r1 h1 => ?_⟩
  have hcp : c ≠ p := w.own_ne h0
  have hc1 := k1 c _ hcp hc
  have rs1 := rs.mv (w.mv k1)
  have mU : Mv Z H1 Z (upd H1 c (.lst (vs ++ [u]))) := fun b ob z h => ⟨z, (upd_ne (fun e => z (by rw [e]; exact zc))).trans h⟩
  have hjl : j < ρ.length := (List.getElem?_eq_some_iff.mp el).1
  refine ⟨c, vs, u, rfl, rfl, hc1, by rw [← rs1.len]; exact Nat.lt_of_lt_of_le hl (by decide), qn _ n1 Z _ _ ?_ ((w.mv k1).trans mU) h1⟩
  refine ⟨?_, w1.zp, w1.d0, w1.sub, fun b z => ?_, fun b ob nb h => ?_, by rw [List.length_set]; exact w1.len, fun m s h => ?_, fun m k b s t ne hm hk sm sk e => ?_⟩
  · obtain ⟨oo, s, cc, hp, r⟩ := w1.pot
    exact ⟨oo, s, cc, by rw [upd_ne (Ne.symm hcp)]; exact hp, r⟩
  · by_cases eb : b = c
    · rw [eb, upd_same]; exact fun h => nomatch h
    · rw [upd_ne eb]; exact w1.dom b z
  · by_cases eb : b = c
    · rw [eb, h0] at h; cases h
    · rw [upd_ne eb]; exact w1.keep b ob nb h
  · by_cases ej : j = m
    · subst ej
      rw [List.getElem?_set_self hjl] at h
      cases h
      exact ⟨.ref c, es, c, _, rfl, zc, h0, upd_same, (rs1.app (.one r1)).mv mU⟩
    · rw [List.getElem?_set_ne ej] at h
      obtain ⟨v, ev, r⟩ := w1.env m s h
      refine ⟨v, ev, ?_⟩
      cases s with
      | val d => exact Rep.mv mU r
      | own l' =>
        obtain ⟨b, vs, eb, zb, b0, hb, rb⟩ := r
        have nb : b ≠ c := fun z => by
          subst eb
          rw [z] at ev
          exact w1.dis j m c _ _ ej el h rfl rfl es ev
        exact ⟨b, vs, eb, zb, b0, by rw [upd_ne nb]; exact hb, rb.mv mU⟩
      | ownD l' =>
        obtain ⟨b, vs, eb, zb, b0, hb, rb⟩ := r
        have nb : b ≠ c := fun z => by
          subst eb
          rw [z] at ev
          exact w1.dis j m c _ _ ej el h rfl rfl es ev
        exact ⟨b, vs, eb, zb, b0, by rw [upd_ne nb]; exact hb, rb.mv mU⟩
  · have back : ∀ {m : Nat} {s : Sl}, (ρ.set j (some (.own (l ++ [d]))))[m]? = some (some s) → s.owned = true → ∃ s', ρ[m]? = some (some s') ∧ s'.owned = true := fun {m s} h so => by
      by_cases ej : j = m
      · subst ej; exact ⟨_, el, rfl⟩
      · rw [List.getElem?_set_ne ej] at h; exact ⟨s, h, so⟩
    obtain ⟨s', hm', sm'⟩ := back hm sm
    obtain ⟨t', hk', sk'⟩ := back hk sk
    exact w1.dis m k b s' t' ne hm' hk' sm' sk' e
/-- x[lo:hi] of a list that the def fills -/
def dSliceO (j : Nat) (tl th : TDO) : TD := fun ρ n Q x => ∃ l, ρ[j]? = some (some (.own l)) ∧ tl ρ n (fun lo n2 => th ρ n2 (fun hi n3 => Q (.lst (cutD l lo hi)) n3) x) x
theorem de_sliceO {j : Nat} {y : Str} {py : Pos} {lo hi : Option Expr} {tl th : TDO} (hK : ∀ i, (Xs i).K = K) (hN : ∀ k, (Xs k).N[j]? = some y) (hv : ∀ k, Vis (Xs k).env.scope y) (hl : DOp Xs K E lo tl) (hh : DOp Xs K E hi th) (hd : (y == ("__debug__" : Str)) = false := by decide) (hcd : (y == ("__classdict__" : Str)) = false := by decide) : DE Xs K E (.Subscript (.Name y py) (.Slice lo hi none p2) pos) (dSliceO j tl th) := by
  obtain ⟨vl, pl, el⟩ := hl
  obtain ⟨vh, ph, eh⟩ := hh
  refine ⟨tSl (rSl K) (tVar j) vl vh, fun i => ?_, fun {p H0 Z0 ρ n Z σ H x Q Qv} w x h q => ?_⟩
  · have := pe_slice (p2 := p2) (pos := pos) (sl_or (X := Xs i)) (pe_var (pos := py) (hN i) (hv i) hd hcd) (pl i) (ph i)
    rw [hK i] at this
    exact this
  · obtain ⟨l, e1, h⟩ := h
    obtain ⟨c, vs, es, zc, h0, hc, rs⟩ := w.ownL e1
    refine ⟨.ref c, es, el w x h fun lo H2 n2 w2 k2 h2 => eh w2 x h2 fun g H3 n3 w3 k3 h3 => ?_⟩
    have k := k2.trans k3
    exact .inl ⟨c, vs, rfl, .inl (.inl (k c _ (w.own_ne h0) hc)), fun m nm => q _ _ _ n3 (w3.xt (Xt.new nm)) (k.trans (Xt.new nm).kp) (rep_lst (w3.notin nm) nm (cut_reps (rs.mv (w.mv k)))) h3⟩
/-- a, b, c = e, [], [] -/
def dPar3O (i j l : Nat) (te : TD) : TDS := fun De ρ n x => te ρ n (fun d n1 => De.nx (((ρ.set i (some (.val d))).set j (some (.own []))).set l (some (.own []))) n1) x
theorem ds_par3O {i j l : Nat} {x y z : Str} {px py pz pt pb pc : Pos} {kt k2 pt2} (hc : ∀ k, (Xs k).calm = true) (hN : ∀ k, (Xs k).N.Nodup) (hi : ∀ k, (Xs k).N[i]? = some x) (hj : ∀ k, (Xs k).N[j]? = some y) (hl : ∀ k, (Xs k).N[l]? = some z) (hij : i ≠ j) (hil : i ≠ l) (hjl : j ≠ l)
    (hx : ∀ k, (Xs k).env.scope.names.lookup x = some .local) (hy : ∀ k, (Xs k).env.scope.names.lookup y = some .local) (hz : ∀ k, (Xs k).env.scope.names.lookup z = some .local) (he : DE Xs K E e te)
    (hw : ∀ k, swappedStores [.Tuple [.Name x px, .Name y py, .Name z pz] kt pt] (.Tuple [e, .List [] pb, .List [] pc] k2 pt2) (Xs k).env = pure (some [x, y, z]))
    (hst : ∀ i, starEach [e, .List [] pb, .List [] pc] (Xs i).env = (false, eval e (Xs i).env) :: starEach [.List [] pb, .List [] pc] (Xs i).env := by intro _; rfl)
    (hs : ∀ k, swapsWithSole [.Tuple [.Name x px, .Name y py, .Name z pz] kt pt] (.Tuple [e, .List [] pb, .List [] pc] k2 pt2) pos.line (Xs k).env = pure false := by intro _; rfl) : DS Xs K E (.Assign [.Tuple [.Name x px, .Name y py, .Name z pz] kt pt] (.Tuple [e, .List [] pb, .List [] pc] k2 pt2) pos) (dPar3O i j l te) := by
  obtain ⟨v, pe, ev⟩ := he
  refine ⟨tPar3 i j l (tCons v (tCons (tLst tNil) (tCons (tLst tNil) tNil))), fun k => ps_par3 (hc k) (hN k) (hi k) (hj k) (hl k) hij hil hjl (hx k) (hy k) (hz k) (pa_cons (pe k) (pa_cons (pe_lst pa_nil) (pa_cons (pe_lst pa_nil) pa_nil)) (hst k)) (hw k) (hs k), fun {p H0 Z0 ρ n Z σ H x De Dv} w x hh qn qr qb qc => ev w x hh fun u H1 d n1 w1 k1 r1 h1 => ?_⟩
  refine ⟨Nat.zero_le _, fun b nb => ⟨Nat.zero_le _, fun c nc => ?_⟩⟩
  refine ⟨u, .ref b, .ref c, rfl, qn _ n1 (zAdd (zAdd Z b) c) _ _ ?_ (((w.mv k1).trans (mv_add nb)).trans (mv_add nc)) h1⟩
  exact ((w1.set i r1).newL nb j).newL nc l
end
end DL
set_option Elab.async false
set_option linter.all false
set_option maxRecDepth 100000
set_option maxHeartbeats 1000000
set_option autoImplicit false
/-! DL: the further rules in short. -/
namespace DL
open PySem L2
section
variable {ι : Type} {Xs : ι → Cx} {P : Program} {w : World} {K : PySem.W.Frag} {mg : Str → Option Value} {base : Heap} {N : List Str} {k : Nat}
variable {E : XK} {pos q p1 p2 apos cpos kpos : Pos} {tg a b c e o iter : Expr} {es : List Expr} {ta tb tc te to tk tx : TD} {t : TDA} {ti : TDL} {x m : Str} {F : DF} {tt : TDT} {kF : Nat}
/-- a method's facts for o.m(..) -/
def Me1 (P : Program) (w : World) (K : PySem.W.Frag) (mg : Str → Option Value) (base : Heap) (C : Addr) (m : Str) (k : Nat) (F : DF) : Prop :=
  ∃ f fd ps, FnOk P w K mg base CX0 k f fd ps (spD K F) ∧ Binds K fd ps [] ∧ Meth K C m f ∧ Cls K C
/-- a maker's facts, called without arguments -/
def Mk0 (P : Program) (w : World) (K : PySem.W.Frag) (mg : Str → Option Value) (base : Heap) (x : Str) (C : Addr) (k : Nat) (F : DF) (dd : List D) : Prop :=
  ∃ f fd ps dvs ds, Mk K C f ∧ FnOk P w K mg base CX0 k f fd ps (spMk K C F) ∧ mg x = some (.ref C) ∧ Binds K fd ps ds ∧ Vals dvs ds ∧ ∀ Z p H, Reps K Z p H dd dvs
variable (en : En Xs P w K mg base N k)
include en
theorem meth {C : Addr} {pl : ι → Sem Bool} (h : Me1 P w K mg base C m kF F) (ho : DE Xs K E0 o to) (ha : DA Xs K E0 (e :: es) t) (hk : kF ≤ k := by decide)
    (hst : ∀ i, starEach (e :: es) (Xs i).env = (false, eval e (Xs i).env) :: starEach es (Xs i).env := by intro _; rfl) (hpl : ∀ i, (backTo pos (starEach es (Xs i).env)).any (·.1) = false := by intro _; rfl)
    (ht : ∀ i, eval (.Call (.Attribute o m apos) (e :: es) [] pos) (Xs i).env = (do
      let ov ← eval o (Xs i).env
      standAt apos.atName
      let (f, first) ← holding [ov] (getMethod ov m (pl i))
      callWith pos f first (backTo pos (starEach (e :: es) (Xs i).env)) (backToKw pos (keywordEach [] (Xs i).env))) := by intro _; rfl) :
    DE Xs K E0 (.Call (.Attribute o m apos) (e :: es) [] pos) (dMeth C m F to t) := by
  obtain ⟨f, fd, ps, G, hb, M, cl⟩ := h
  exact de_meth (C := C) (f := f) (fd := fd) (ps := ps) (fun i => by rw [en.hK i]; exact cl) (fun i => by rw [en.hK i]; exact M) (fun i => by rw [en.hP i, en.hw i, en.hK i, en.hm i, en.hb i]; exact G) (fun i => (en.hr i).mono hk) (fun i => by rw [en.hK i]; exact hb) ho ha hst hpl ht
theorem make0 {C : Addr} {dd : List D} (h : Mk0 P w K mg base x C kF F dd) (hk : kF + 1 ≤ k := by decide) (hg : ∀ i, Gl (Xs i) x := by intro _; rfl) (hdb : (x == ("__debug__" : Str)) = false := by decide) : DE Xs K E0 (.Call (.Name x q) [] [] pos) (dMake0 F dd) := by
  obtain ⟨f, fd, ps, dvs, ds, M, G, hm, hb, hd, rd⟩ := h
  exact de_make0 (C := C) (f := f) (fd := fd) (ps := ps) (fun i => by rw [en.hK i]; exact M) (fun i => by rw [en.hP i, en.hw i, en.hK i, en.hm i, en.hb i]; exact G) (fun i => (en.hr i).mono hk) (en.at hm) (fun i => by rw [en.hK i]; exact hb) hd rd hg hdb
theorem maxL (ha : DA Xs K E (e :: es) t) (hg : ∀ i, Gl (Xs i) "max" := by intro _; rfl) (he : ∀ i, starEach (e :: es) (Xs i).env = (false, eval e (Xs i).env) :: starEach es (Xs i).env := by intro _; rfl) (hpl : ∀ i, (backTo pos (starEach es (Xs i).env)).any (·.1) = false := by intro _; rfl) :
    DE Xs K E (.Call (.Name "max" q) (e :: es) [] pos) (dMaxL t) := de_maxL en.hK en.hc (en.no en.bt.max) ha hg he hpl
theorem minL (ha : DA Xs K E (e :: es) t) (hg : ∀ i, Gl (Xs i) "min" := by intro _; rfl) (he : ∀ i, starEach (e :: es) (Xs i).env = (false, eval e (Xs i).env) :: starEach es (Xs i).env := by intro _; rfl) (hpl : ∀ i, (backTo pos (starEach es (Xs i).env)).any (·.1) = false := by intro _; rfl) :
    DE Xs K E (.Call (.Name "min" q) (e :: es) [] pos) (dMinL t) := de_minL en.hK en.hc (en.no en.bt.min) ha hg he hpl
theorem maxDef {z : Int} {jz : Nat} {pz : Pos} (ha : DA Xs K E (e :: es) t) (hg : ∀ i, Gl (Xs i) "max" := by intro _; rfl)
    (he : ∀ i, backTo pos (starEach (e :: es) (Xs i).env) = (false, eval e (Xs i).env) :: backTo pos (starEach es (Xs i).env) := by intro _; rfl) (hpl : ∀ i, (backTo pos (starEach (e :: es) (Xs i).env)).any (·.1) = false := by intro _; rfl) :
    DE Xs K E (.Call (.Name "max" q) (e :: es) [⟨some "default", .Constant (.int z) jz pz, kpos⟩] pos) (dMaxDef t z) := de_maxDef en.hK en.hc en.u64 (en.no en.bt.max) ha hg he hpl
theorem boolT (ha : DA Xs K E (e :: es) t) (hg : ∀ i, Gl (Xs i) "bool" := by intro _; rfl) (he : ∀ i, starEach (e :: es) (Xs i).env = (false, eval e (Xs i).env) :: starEach es (Xs i).env := by intro _; rfl) (hpl : ∀ i, (backTo pos (starEach es (Xs i).env)).any (·.1) = false := by intro _; rfl) :
    DE Xs K E (.Call (.Name "bool" q) (e :: es) [] pos) (dCl boolD t) := de_callT (en.clK (r := fun K xs H Q => ∃ (a : Addr) (ys : List V), xs = [.ref a] ∧ SqT K H a ys ∧ Q (.bl (!ys.isEmpty)) H) fun _ => DOwn.call_boolT) cd_boolT hg (en.no en.bt.bool) (by decide +kernel) ha (by decide) (by decide) he hpl
theorem boolOwn {C : Addr} (h : Ow1 P w K mg base C "__bool__" kF F) (ha : DA Xs K E0 (e :: es) t) (hk : kF + 2 ≤ k := by decide) (hg : ∀ i, Gl (Xs i) "bool" := by intro _; rfl) (he : ∀ i, starEach (e :: es) (Xs i).env = (false, eval e (Xs i).env) :: starEach es (Xs i).env := by intro _; rfl) (hpl : ∀ i, (backTo pos (starEach es (Xs i).env)).any (·.1) = false := by intro _; rfl) :
    DE Xs K E0 (.Call (.Name "bool" q) (e :: es) [] pos) (dBoolOwn C F t) := by
  obtain ⟨f, fd, ps, M⟩ := h
  exact de_boolOwn (en.own M) (fun i => (en.hr i).mono hk) (en.no en.bt.bool) ha hg he hpl
theorem dc {kx vx : Expr} {ifs : List Expr} {scope : Scope} (sc : Scope) (own : List (Str × Nat)) {ts : List Nat} {f : TDG} (hi : DI Xs K E tg iter ti) (hg : DG (blkF Xs scope) K tg ts f) (ht : DTs (blkF Xs scope) K E0 ifs tt) (hk : DE (blkF Xs scope) K E0 kx tk) (he : DE (blkF Xs scope) K E0 vx te) (hsc : ∀ i, (Xs i).env.scope = sc := by intro _; rfl) (ok : BlkOk N sc scope own := by exact blkOk_by (by decide +kernel)) (hts : ∀ i ∈ ts, i ∈ own.map (·.2) := by decide)
    (hs : ∀ i x, foldedSetIterable iter (Xs i).env x = pure x := by intro _ _; rfl) : DE Xs K E (.DictComp kx vx [⟨tg, iter, ifs, 0⟩] scope pos) (dDc ti f tt tk te (own.map (·.2))) := de_dc en.hc en.nd' hi (fun i => by rw [en.hN i, hsc i]; exact ok) hg ht hk he hts hs
theorem app (j : Nat) {y : Str} {py : Pos} (he : DE Xs K E e te) (hN : N[j]? = some y := by rfl) (hv : ∀ k, Vis (Xs k).env.scope y := by intro _; first | exact Or.inl rfl | exact Or.inr (Or.inl rfl) | exact Or.inr (Or.inr rfl)) (hs : ∀ i, swapsWith (.Call (.Attribute (.Name y py) "append" apos) [e] [] cpos) none pos.line (Xs i).env = pure false := by intro _; rfl)
    (hbase : ∀ i, attributeBase (.Name y py) "append" (Xs i).env (eval (.Name y py) (Xs i).env) = eval (.Name y py) (Xs i).env := by intro _; rfl)
    (hfew : ∀ i, ((backTo cpos (starEach [e] (Xs i).env)).all (fun x => !x.1) && (backToKw cpos (keywordEach [] (Xs i).env)).all (fun x => x.1.isSome)
      && decide ([e].length + ([] : List Keyword).length + (if ([] : List Keyword).isEmpty then 0 else 1) < 30)) = true := by intro _; rfl)
    (hline : (apos.endLine == cpos.line) = true := by rfl) (hst : ∀ i, starEach [e] (Xs i).env = (false, eval e (Xs i).env) :: starEach [] (Xs i).env := by intro _; rfl)
    (hd : (y == ("__debug__" : Str)) = false := by decide) (hcd : (y == ("__classdict__" : Str)) = false := by decide) : DS Xs K E (.Expr (.Call (.Attribute (.Name y py) "append" apos) [e] [] cpos) pos) (dApp j te) :=
  ds_app en.hK (fun k => by rw [en.hN k]; exact hN) hv he hs hbase hfew hline hst hd hcd
theorem sliceO (j : Nat) {y : Str} {py : Pos} {lo hi : Option Expr} {tl th : TDO} (hl : DOp Xs K E lo tl) (hh : DOp Xs K E hi th) (hN : N[j]? = some y := by rfl) (hv : ∀ k, Vis (Xs k).env.scope y := by intro _; first | exact Or.inl rfl | exact Or.inr (Or.inl rfl) | exact Or.inr (Or.inr rfl)) (hd : (y == ("__debug__" : Str)) = false := by decide) (hcd : (y == ("__classdict__" : Str)) = false := by decide) : DE Xs K E (.Subscript (.Name y py) (.Slice lo hi none p2) pos) (dSliceO j tl th) :=
  de_sliceO en.hK (fun k => by rw [en.hN k]; exact hN) hv hl hh hd hcd
theorem par3O (i j l : Nat) {y z : Str} {px py pz pt pb pc : Pos} {kt k2 pt2} (he : DE Xs K E e te) (hij : i ≠ j := by decide) (hil : i ≠ l := by decide) (hjl : j ≠ l := by decide) (hi : N[i]? = some x := by rfl) (hj : N[j]? = some y := by rfl) (hl : N[l]? = some z := by rfl) (hx : ∀ k, (Xs k).env.scope.names.lookup x = some .local := by intro _; rfl) (hy : ∀ k, (Xs k).env.scope.names.lookup y = some .local := by intro _; rfl) (hz : ∀ k, (Xs k).env.scope.names.lookup z = some .local := by intro _; rfl)
    (hw : ∀ k, swappedStores [.Tuple [.Name x px, .Name y py, .Name z pz] kt pt] (.Tuple [e, .List [] pb, .List [] pc] k2 pt2) (Xs k).env = pure (some [x, y, z]) := by intro _; rfl)
    (hst : ∀ i, starEach [e, .List [] pb, .List [] pc] (Xs i).env = (false, eval e (Xs i).env) :: starEach [.List [] pb, .List [] pc] (Xs i).env := by intro _; rfl)
    (hs : ∀ k, swapsWithSole [.Tuple [.Name x px, .Name y py, .Name z pz] kt pt] (.Tuple [e, .List [] pb, .List [] pc] k2 pt2) pos.line (Xs k).env = pure false := by intro _; rfl) : DS Xs K E (.Assign [.Tuple [.Name x px, .Name y py, .Name z pz] kt pt] (.Tuple [e, .List [] pb, .List [] pc] k2 pt2) pos) (dPar3O i j l te) :=
  ds_par3O en.hc en.nd' (fun k => by rw [en.hN k]; exact hi) (fun k => by rw [en.hN k]; exact hj) (fun k => by rw [en.hN k]; exact hl) hij hil hjl hx hy hz he hw hst hs
end
end DL
set_option Elab.async false
set_option linter.all false
set_option maxRecDepth 100000
set_option maxHeartbeats 1000000
set_option autoImplicit false
/-! DL: three names at once, two of them lists to be filled, by way of a tuple. -/
namespace DL
open PySem L2
section
variable {ι : Type} {Xs : ι → Cx} {P : Program} {w : World} {K : PySem.W.Frag} {mg : Str → Option Value} {base : Heap} {N : List Str} {k : Nat}
variable {E : XK} {pos : Pos} {e : Expr} {te : TD} {x : Str}
variable (en : En Xs P w K mg base N k)
include en
theorem asg3O (i j l : Nat) {y z : Str} {px py pz pt pb pc : Pos} {kt k2 pt2} (he : DE Xs K E e te) (hi : N[i]? = some x := by rfl) (hj : N[j]? = some y := by rfl) (hl : N[l]? = some z := by rfl)
    (hx : ∀ k, Loc (Xs k).env.scope x := by intro _; first | exact Or.inl rfl | exact Or.inr rfl) (hy : ∀ k, Loc (Xs k).env.scope y := by intro _; first | exact Or.inl rfl | exact Or.inr rfl) (hz : ∀ k, Loc (Xs k).env.scope z := by intro _; first | exact Or.inl rfl | exact Or.inr rfl)
    (hfx : ∀ j, (Xs j).fn x = true ∨ (Xs j).env.scope.names.lookup x = some .local := by intro _; first | exact Or.inl rfl | exact Or.inr rfl) (hfy : ∀ j, (Xs j).fn y = true ∨ (Xs j).env.scope.names.lookup y = some .local := by intro _; first | exact Or.inl rfl | exact Or.inr rfl) (hfz : ∀ j, (Xs j).fn z = true ∨ (Xs j).env.scope.names.lookup z = some .local := by intro _; first | exact Or.inl rfl | exact Or.inr rfl)
    (hw : ∀ k, swappedStores [.Tuple [.Name x px, .Name y py, .Name z pz] kt pt] (.Tuple [e, .List [] pb, .List [] pc] k2 pt2) (Xs k).env = pure none := by intro _; rfl)
    (hst : ∀ i, starEach [e, .List [] pb, .List [] pc] (Xs i).env = (false, eval e (Xs i).env) :: starEach [.List [] pb, .List [] pc] (Xs i).env := by intro _; rfl)
    (hs : ∀ k, swapsWithSole [.Tuple [.Name x px, .Name y py, .Name z pz] kt pt] (.Tuple [e, .List [] pb, .List [] pc] k2 pt2) pos.line (Xs k).env = pure false := by intro _; rfl) : DS Xs K E (.Assign [.Tuple [.Name x px, .Name y py, .Name z pz] kt pt] (.Tuple [e, .List [] pb, .List [] pc] k2 pt2) pos) (dPar3O i j l te) := by
  obtain ⟨v, pe, ev⟩ := he
  have hN := en.nd'
  have hi' : ∀ k, (Xs k).N[i]? = some x := fun k => by rw [en.hN k]; exact hi
  have hj' : ∀ k, (Xs k).N[j]? = some y := fun k => by rw [en.hN k]; exact hj
  have hl' : ∀ k, (Xs k).N[l]? = some z := fun k => by rw [en.hN k]; exact hl
  refine ⟨tAsg (tTup (tCons v (tCons (tLst tNil) (tCons (tLst tNil) tNil)))) (gTup K 3 (gCons (gName i) (gCons (gName j) (gCons (gName l) gNil)))), fun k => ?_, fun {p H0 Z0 ρ n Z σ H x De Dv} w x hh qn qr qb qc => ev w x hh fun u H1 d n1 w1 k1 r1 h1 => ?_⟩
  · have g := pg_tup (pos := pt) (k := kt) (en.hc k) (pgs_cons (pg_name (pos := px) (hN k) (hi' k) (hx k) (hfx k)) (pgs_cons (pg_name (pos := py) (hN k) (hj' k) (hy k) (hfy k)) (pgs_cons (pg_name (pos := pz) (hN k) (hl' k) (hz k) (hfz k)) pgs_nil (by rfl)) (by rfl)) (by rfl)) (n := 3) (by rfl) (by rfl)
    rw [en.hK k] at g
    exact ps_asg (pe_tup (pa_cons (pe k) (pa_cons (pe_lst pa_nil) (pa_cons (pe_lst pa_nil) pa_nil)) (hst k))) g (hs k) (hw k) (by rfl)
  · refine ⟨Nat.zero_le _, fun b nb => ⟨Nat.zero_le _, fun c nc => ⟨(by show 3 ≤ sizeLine; decide), fun T nT => ?_⟩⟩⟩
    have w2 := ((w1.set i r1).newL nb j).newL nc l
    refine ⟨T, [u, .ref b, .ref c], rfl, .inl (.inl upd_same), rfl, u, _, rfl, .ref b, _, rfl, .ref c, _, rfl, rfl, ?_⟩
    exact qn _ n1 (zAdd (zAdd Z b) c) _ _ (w2.xt (Xt.new nT)) ((((w.mv k1).trans (mv_add nb)).trans (mv_add nc)).trans (w2.mv (Xt.new nT).kp)) h1
variable {F : DF} {kF : Nat} {a b : Expr} {ta tb : TD}
theorem ownCmpT {C : Addr} {op : CmpOp} (h : Ow1 P w K mg base C (cmpInfo op).2.1 kF F) (ha : DE Xs K E0 a ta) (hb : DE Xs K E0 b tb) (hop : ∀ a b, compareOp op a b = richCompare op a b := by intro _ _; rfl) (hk : kF ≤ k := by decide) (h1 : op ≠ .In := by decide) (h2 : op ≠ .NotIn := by decide) : DT Xs K E0 (.Compare a [op] [b] pos) (dTest (dOwn2 C F ta tb)) := by
  obtain ⟨f, fd, ps, M⟩ := h
  exact dt_cmpOwn hop (en.own M) (fun i => (en.hr i).mono hk) ha hb (nomark _ h1 h2)
end
end DL
set_option Elab.async false
set_option linter.all false
set_option maxRecDepth 100000
set_option maxHeartbeats 1000000
set_option autoImplicit false
/-! DL: defs that are called where no repr is under way (repr needs to know it); a law's end for such a def. -/
namespace DL
open PySem L2
/-- as FnOk (no error leaves it), where no repr is under way -/
structure FnG (P : Program) (w : World) (K : PySem.W.Frag) (mg : Str → Option Value) (base : Heap) (k : Nat) (f : Addr) (fd : FuncData) (ps : List Str) (sp : Sp) : Prop where
  len : ∀ vs H Q E, sp vs H Q E → vs.length = ps.length
  run : ∀ (A : Around) (outer : List Env) (s : Shared) (H : Hp) (args : Args) (us : List Value) (vs : List V) (Q : VK) (E : XK), Room k A → A.guards = some [] → Env0 P w K mg base A outer s H → BindsTo s fd args (ps.zip us) → Vals vs us → sp vs H Q E →
    codeAny (model P w) A (.call (.ref f) args) (CR CX0 outer P w H s Q E) s
section
variable {P : Program} {w : World} {K : PySem.W.Frag} {mg : Str → Option Value} {base : Heap}
theorem fnG_of {x qual : Str} {st : Stmt} {f : Addr} {fd : FuncData} {N ps : List Str} {k : Nat} {sp : Sp} (G : Fun K x qual st f fd) (S : FnScope N ps (defScope st)) (len : ∀ vs H Q E, sp vs H Q E → vs.length = ps.length)
    (walk : ∀ (cdv : Value) (A : Around) (outer : List Env) (s : Shared) (H : Hp) (vs : List V) (Q : VK) (E : XK), Room k (A.deeper (PyProof.Rows.envOfC qual (defScope st) s.heap.objs.size f cdv)) → A.guards = some [] → sp vs H Q E →
      ∃ t, PSs (cxOf CX0 P w K mg base N qual (defScope st) f cdv A outer s H E) (defBody st) t ∧ t { nx := fun _ H' => Q .non H', rt := Q } (L2.start N vs) H) : FnG P w K mg base (k + 1) f fd ps sp := by
  obtain ⟨oc, od, kV, doc, pm, an, cdv, ct, osl, rfl, lk, cdn⟩ := G.ex
  refine ⟨len, ?_⟩
  intro A outer s H args us vs Q E room gd env0 binds vals promise
  have old : ∀ b o, base.get? b = some o → s.heap.get? b = some o := fun b o e => (env0.bs b o e).1
  have inK : K.In s.heap := env0.mod.kin.keeps old
  have nolim : s.heap.NoLimit := env0.mod.nolimit.keeps old
  obtain ⟨t, rules, reading⟩ := walk cdv A outer s H vs Q E (room.deeper _) gd promise
  apply codeAny_call_function room.depth (inK _ _ lk) rfl S.co S.gen rfl (PySem.W.codeRec_of inK cdn)
  apply binds
  apply wpAny_newFunctionEnv_cells S.kind
  · rintro ⟨y, u⟩ hy
    rcases S.par y (List.of_mem_zip hy).1 with h | h
    · exact .inl h
    · exact .inr ⟨h, PySem.W.cellsFrom_some _ _ _ (.inl h)⟩
  · rintro env rfl s1 call1
    refine ⟨nolim.keeps call1.toInCall.keep, codeAny_func ?_⟩
    have I := inv_start (CX := CX0) (E := E) S room.hd env0 (len _ _ _ _ promise) vals call1
    refine wpAny_mono (rules.run [] s1 _ H _ I reading) ?_ fun _ _ z => z
    intro fl t1 post
    match fl, post with
    | .ret u, ⟨v, σ1, H1, J, rv, q⟩ => exact ⟨v, H1, J.os, J.bare, J.base, J.hok, rv, q⟩
    | .next, ⟨σ1, H1, J, q⟩ => exact ⟨.non, H1, J.os, J.bare, J.base, J.hok, rfl, q⟩
    | .brk, ⟨_, _, _, q⟩ => exact q.elim
    | .cont, ⟨_, _, _, q⟩ => exact q.elim
end
/-! ### the call of such a def -/
def Fn1G (P : Program) (w : World) (K : PySem.W.Frag) (mg : Str → Option Value) (base : Heap) (x : Str) (k : Nat) (F : DF) : Prop :=
  ∃ f fd ps, FnG P w K mg base k f fd ps (spD K F) ∧ mg x = some (.ref f) ∧ PySem.W.keepIn K (.ref f) = true ∧ Binds K fd ps []
section
variable {ι : Type} {Xs : ι → Cx} {P : Program} {w : World} {K : PySem.W.Frag} {mg : Str → Option Value} {base : Heap} {N : List Str} {k kF : Nat} {pos q : Pos} {e : Expr} {es : List Expr} {t : TDA} {x : Str} {F : DF}
theorem callG (en : En Xs P w K mg base N k) (gd : ∀ i, (Xs i).A.guards = some []) (h : Fn1G P w K mg base x kF F) (ha : DA Xs K E0 (e :: es) t) (hk : kF ≤ k := by decide) (hg : ∀ i, Gl (Xs i) x := by intro _; rfl) (hdb : (x == ("__debug__" : Str)) = false := by decide)
    (he : ∀ i, starEach (e :: es) (Xs i).env = (false, eval e (Xs i).env) :: starEach es (Xs i).env := by intro _; rfl) (hpl : ∀ i, (backTo pos (starEach es (Xs i).env)).any (·.1) = false := by intro _; rfl) :
    DE Xs K E0 (.Call (.Name x q) (e :: es) [] pos) (dCall F [] t) := by
  obtain ⟨f, fd, ps, G, hm, kp, bd⟩ := h
  obtain ⟨va, pa, ea⟩ := ha
  refine ⟨tCall (spD K F) [] E0 va, fun i => ⟨fun pins s σ H Q I hh => ?_⟩, ev_call (dd := []) (dvs := []) (fun _ _ _ => rfl) ea⟩
  apply wpAny_Call_Name_kw
  apply ld_glob I (hg i) (by rw [en.hm i]; exact hm) (hd := hdb)
  apply PySem.W.callWith_K (h₀ := (Xs i).base) I.ok.mod.kin (by rw [en.hK i]; exact kp) (he := he i) (hplain := hpl i)
  apply thn ((pa i).run pos pins s σ H _ I hh)
  rintro us t1 ⟨vs, H1, I1, rs, hh⟩
  refine ⟨I1.kIn, ?_⟩
  have hh : spD K F (vs ++ []) H1 Q E0 := hh
  rw [List.append_nil] at hh
  have hl : us.length = ps.length := by rw [← rs.length]; exact G.len _ _ _ _ hh
  have bb := bd t1 us (by rw [← en.hK i]; exact I1.kIn) (by rw [List.append_nil]; exact hl)
  rw [List.append_nil] at bb
  apply wpAny_call
  have run := G.run (Xs i).A (Xs i).stack t1 H1 ⟨us, []⟩ us vs Q E0 ((en.hr i).mono hk) (gd i) (by have := I1.env0; rw [en.hP i, en.hw i, en.hK i, en.hm i, en.hb i] at this; exact this) bb rs hh
  rw [← en.hP i, ← en.hw i] at run
  refine codeAny_mono run ?_
  intro res t2 post
  match res, post with
  | .error e, post => exact (show False from post).elim
  | .ok (.ret u), post => exact I1.after post
end
/-! ### a law's end -/
section
variable {P : Program} {w : World} {K : PySem.W.Frag} {mg mb : Str → Option Value} {k : Nat} {fa a : Addr} {fd : FuncData} {x : Str} {sp : Sp} {s : Shared} {vs : List Value} {ns : List Int}
/-- what stands ahead of the call -/
structure Ahead (K : PySem.W.Frag) (mg mb : Str → Option Value) (s : Shared) (a : Addr) (vs : List Value) (ns : List Int) : Prop where
  kin : K.In s.heap
  gl : s.heap.Ns mainGlobals mg
  bl : s.heap.Ns builtinsNs mb
  bb : ∀ x : Str, x ≠ "__name__" → mb x = bootBuiltins x
  lim : s.heap.NoLimit
  gens : s.gens = #[]
  scr : s.heap.get? a = some { cls := .type "list", data := .seq vs.toArray }
  nums : PyProof.Rows.IntsAre vs ns
  few : ns.length ≤ sizeLine
  mods : ∃ mm, s.heap.Ns sysModules mm
/-- the script, tracked or one of the module's own things -/
structure Seen (P : Program) (w : World) (K : PySem.W.Frag) (s : Shared) (a : Addr) (ns : List Int) (H : Hp) : Prop where
  only : Only H
  sq : SqL K H a (ns.map V.int)
  ok : HOk P w H s.heap
  alone : ∀ b o, H b = some o → b = a ∧ K.lookup a = none
theorem seen (g : Ahead K mg mb s a vs ns) : ∃ H, Seen P w K s a ns H := by
  have rv := vals_ints g.nums
  rcases hk : K.lookup a with _ | o
  · let o0 : Obj := { cls := .type "list", data := .seq vs.toArray }
    refine ⟨upd (fun _ => none) a (.frz o0 (.lst (ns.map V.int))), ?_, ?_, ?_, ?_⟩
    · intro b
      rcases Classical.em (b = a) with rfl | n
      · exact .inr ⟨_, _, upd_same⟩
      · exact .inl (upd_ne n)
    · exact .inl (.inr ⟨o0, upd_same⟩)
    · intro b o e
      rcases Classical.em (b = a) with rfl | n
      · rw [upd_same] at e
        cases e
        exact ⟨g.scr, by rw [List.length_map]; exact g.few, vs, _, rv, g.scr⟩
      · rw [upd_ne n] at e; cases e
    · intro b o e
      rcases Classical.em (b = a) with rfl | n
      · exact ⟨rfl, hk⟩
      · rw [upd_ne n] at e; cases e
  · have e := g.kin a o hk
    rw [g.scr] at e
    cases e
    refine ⟨fun _ => none, fun _ => .inl rfl, .inr ⟨_, vs.toArray, _, hk, rfl, rfl, rfl, ?_, ?_⟩, fun b o e => ?_, fun b o e => ?_⟩
    · rw [List.size_toArray, g.nums.length]; exact g.few
    · simpa using rv
    · cases e
    · cases e
theorem law_callG (g : Ahead K mg mb s a vs ns) (room : Room k callerA) (F : ∀ base : Heap, K.In base → base.Ns mainGlobals mg → base.get? sysModules ≠ none → FnG P w K mg base k fa fd [x] sp) (bd : ∀ (s : Shared) (u : Value), BindsTo s fd ⟨[u], []⟩ [(x, u)])
    (start : ∀ H : Hp, Only H → SqL K H a (ns.map V.int) → sp [.ref a] H (fun v _ => v = .bl true) fun _ _ _ => False) :
    codeAny (model P w) callerA (.call (.ref fa) ⟨[.ref a], []⟩) (fun r s' => r = .ok (.ret (.bool true)) ∧ OldK s.heap s'.heap ∧ s'.os = s.os ∧ PyProof.Rows.AllBare s'.gens) s := by
  obtain ⟨H, S⟩ := seen (P := P) (w := w) g
  have stays : ∀ {b : Addr} {o : Obj}, s.heap.get? b = some o → H b = none → (hidT s.heap H).get? b = some o := fun e n => hidT_get e n
  have notA : ∀ {b : Addr} {o : Obj} {es : Array DictEntry} {ep : Nat}, s.heap.get? b = some o → o.data = .dict es ep → H b = none := by
    intro b o es ep e dd
    rcases h : H b with _ | u
    · rfl
    · obtain ⟨rfl, _⟩ := S.alone b u h
      rw [g.scr] at e
      cases e
      cases dd
  have nsB : ∀ {b : Addr} {m : Str → Option Value}, s.heap.Ns b m → (hidT s.heap H).Ns b m := by
    rintro b m ⟨o, es, ep, e, dd, r⟩
    exact ⟨o, es, ep, stays e (notA e dd), dd, r⟩
  have kinB : K.In (hidT s.heap H) := by
    intro b o e
    refine stays (g.kin b o e) ?_
    rcases h : H b with _ | u
    · rfl
    · obtain ⟨rfl, no⟩ := S.alone b u h
      have e : List.lookup b K = some o := e
      rw [show List.lookup b K = none from no] at e
      cases e
  have limB : (hidT s.heap H).NoLimit := by
    obtain ⟨mc, h1, h2⟩ := g.lim
    exact ⟨mc, nsB h1, h2⟩
  have env0 : Env0 P w K mg (hidT s.heap H) callerA [] s H := by
    constructor
    · rfl
    · exact ⟨kinB, nsB g.gl, ⟨mb, nsB g.bl, g.bb⟩, limB⟩
    · exact fun b o e => of_hidT e
    · exact Nat.le_of_eq (hidT_size _ _)
    · trivial
    · intro b hb; cases hb
    · exact S.ok
    · exact .of_eq g.gens
  have modB : (hidT s.heap H).get? sysModules ≠ none := by
    obtain ⟨mm, hm⟩ := g.mods
    obtain ⟨o, es, ep, e, _⟩ := nsB hm
    rw [e]; exact fun z => nomatch z
  refine codeAny_mono ((F _ kinB (nsB g.gl) modB).run callerA [] s H ⟨[.ref a], []⟩ [.ref a] [.ref a] _ _ room rfl env0 (bd s (.ref a)) (.cons rfl .nil) (start H S.only S.sq)) ?_
  intro res t post
  match res, post with
  | .error e, post => exact (show False from post).elim
  | .ok (.ret u), ⟨v, H1, os1, bare, un, ok1, rv, q⟩ =>
    have q : v = .bl true := q
    subst q
    have rv : u = Value.bool true := rv
    subst rv
    refine ⟨rfl, OldK.of_keep ?_, os1, bare⟩
    intro b o e
    rcases h : H b with _ | u
    · exact un.keep b o e h (by intro z; cases z) (by intro z; cases z)
    · rcases S.only b with z | ⟨ob, xs, z⟩
      · rw [h] at z; cases z
      · have e1 := (S.ok b _ z).1
        have e2 := (ok1 b _ (un.frzs b ob _ z)).1
        rw [e] at e1
        cases e1
        exact e2
theorem walkG {l : PySem.W.OpenLaw} {n : Nat} {q : Program} {loose : List Str} {XP : (Str → Option Value) → Heap → Prop} {YP : World → Heap → Prop} {d : DefRec} {Kf : Params → PySem.W.Frag} {spw : World → Sp} (hn : l.most = some n) (hn2 : n ≤ sizeLine) (hdf : d.params.defaults = []) (room : Room k callerA) (him : PyProof.Rows.importsNone q = true)
    (hY : ∀ (w : World) (h : Heap), YP w h → (Kf w.params).In h)
    (F : ∀ (w : World) (mg : Str → Option Value) (fa : Addr) (h : Heap), (Kf w.params).In h → h.Ns mainGlobals mg → mg d.name = some (.ref fa) →
      ∃ fd : FuncData, (∀ (s : Shared) (u : Value), BindsTo s fd ⟨[u], []⟩ [(x, u)]) ∧ ∀ base : Heap, (Kf w.params).In base → base.Ns mainGlobals mg → base.get? sysModules ≠ none → FnG l.prog w (Kf w.params) mg base k fa fd [x] (spw w))
    (start : ∀ (w : World) (H : Hp) (a : Addr) (ns : List Int), ns.length ≤ n → Only H → SqL (Kf w.params) H a (ns.map V.int) → spw w [.ref a] H (fun v _ => v = .bl true) fun _ _ _ => False) :
    PySem.W.WalkO q loose XP YP l.row.toRowW d [] (fun f vs => PySem.call f vs) := by
  apply Att.attach_call hn hdf
  intro w s0 s1 mg mb fa o pm cd doc a vs ns gr yp _ _ _ hmg scr nums few gens
  have kin := hY w _ yp
  obtain ⟨fd, bd, prom⟩ := F w mg fa _ kin gr.T.g hmg
  exact law_callG ⟨kin, gr.T.g, gr.T.b, gr.T.builtins, gr.T.nolimit, gens, scr, nums, Nat.le_trans few hn2, let ⟨mm, hm, _⟩ := (gr.T.seer him).mods; ⟨mm, hm⟩⟩ room prom bd fun H hO hS => start w H a ns few hO hS
end
end DL
set_option Elab.async false
set_option linter.all false
set_option maxRecDepth 100000
set_option maxHeartbeats 1000000
set_option autoImplicit false
/-! DL: repr of small data, where no repr is under way. -/
namespace DL
open PySem L2
def kPd : Key → PyData
  | .inl i => .int i
  | .inr s => .str s
mutual
/-- the data that a tree shows -/
def D.pd : D → PyData
  | .bl b => .bool b
  | .int i => .int i
  | .str s => .str s
  | .tup l => .tuple (pds l)
  | .lst l => .list (pds l)
  | .dct l => .dict (pdk l)
  | .non => .none
  | .ty _ => .none
  | .con _ => .none
  | .pot => .none
  | .ins _ _ => .none
  | .exc _ _ => .none
  | .dlk _ => .none
  | .odd _ ks vs => .dict ((pds ks).zip (pds vs))
def pds : List D → List PyData
  | [] => []
  | d :: l => D.pd d :: pds l
def pdk : List (Key × D) → List (PyData × PyData)
  | [] => []
  | q :: l => (kPd q.1, D.pd q.2) :: pdk l
end
def SmI (i : Int) : Prop := (0 ≤ i ∧ i < 10 ^ 41) ∨ i = -1 ∨ i = -(10 ^ 20)
def SmT (s : Str) : Prop := s.cps.size ≤ 9 ∧ ∀ c ∈ s.cps.toList, c < 16 ^ 8
def SmK : Key → Prop
  | .inl i => SmI i
  | .inr s => SmT s
/-- small data, k deep -/
def Sm : Nat → D → Prop
  | _, .non => True
  | _, .bl _ => True
  | _, .int i => SmI i
  | _, .str s => SmT s
  | k + 1, .tup l => l.length ≤ 9 ∧ ∀ d ∈ l, Sm k d
  | k + 1, .lst l => l.length ≤ 9 ∧ ∀ d ∈ l, Sm k d
  | k + 1, .dct l => l.length ≤ 9 ∧ ∀ q ∈ l, SmK q.1 ∧ Sm k q.2
  | k + 2, .odd _ ks vs => (ks.length ≤ 9 ∧ ks.length = vs.length) ∧ (∀ d ∈ ks, Sm k d) ∧ ∀ d ∈ vs, Sm k d
  | _, _ => False
def bnd : Nat → Nat
  | 0 => 9
  | k + 1 => 9 * (bnd k + 11)
theorem bnd_ge : ∀ k, 9 ≤ bnd k
  | 0 => Nat.le_refl _
  | k + 1 => by have := bnd_ge k; simp only [bnd]; omega
/-- what small data needs -/
structure Few (n k : Nat) (d : PyData) : Prop where
  sh : d.showable = true
  lf : d.leavesShort 50 = true
  bk : d.bulk ≤ n
  dp : d.depth ≤ k
theorem few_int {i : Int} (h : SmI i) (k : Nat) : Few 9 k (.int i) := by
  refine ⟨?_, ?_, Nat.zero_le _, Nat.zero_le _⟩
  · simp only [PyData.showable, decide_eq_true_eq]
    have hn : i.natAbs < 2 ^ 1920 := by
      refine Nat.lt_of_lt_of_le (m := 10 ^ 41) ?_ (Nat.le_trans (m := 2 ^ 200) (by decide) (Nat.pow_le_pow_right (by decide) (by decide)))
      rcases h with ⟨a, b⟩ | rfl | rfl
      · have e : ((10 : Int) ^ 41) = ((10 ^ 41 : Nat) : Int) := by decide
        rw [e] at b
        omega
      · decide
      · decide
    by_cases z : i.natAbs = 0
    · rw [z]; decide
    · exact (Nat.log2_lt z).mpr hn
  · simp only [PyData.leavesShort, decide_eq_true_eq]
    rcases h with ⟨a, b⟩ | rfl | rfl
    · exact Nat.le_trans (PyProof.Rows.toString_length_le a (by decide) b) (by decide)
    · decide
    · decide +kernel
theorem few_str {s : Str} (h : SmT s) (k : Nat) : Few 9 k (.str s) :=
  ⟨rfl, by simpa only [PyData.leavesShort, List.all_eq_true, decide_eq_true_eq] using h.2, h.1, Nat.zero_le _⟩
theorem few_key {q : Key} (h : SmK q) (k : Nat) : Few 9 k (kPd q) := by
  cases q with
  | inl i => exact few_int h k
  | inr s => exact few_str h k
theorem Few.mono {n m k : Nat} {d : PyData} (h : Few n k d) (e : n ≤ m) : Few m k d := ⟨h.sh, h.lf, Nat.le_trans h.bk e, h.dp⟩
theorem few_all {n k : Nat} : ∀ {l : List D}, (∀ d ∈ l, Few n k d.pd) → PyData.showableAll (pds l) = true ∧ PyData.leavesShortAll 50 (pds l) = true ∧ PyData.bulkAll (pds l) ≤ (n + 1) * l.length ∧ PyData.depthAll (pds l) ≤ k
  | [], _ => ⟨rfl, rfl, Nat.zero_le _, Nat.zero_le _⟩
  | d :: l, h => by
    obtain ⟨a, b, c, e⟩ := few_all fun x m => h x (List.mem_cons_of_mem _ m)
    have f := h d List.mem_cons_self
    refine ⟨?_, ?_, ?_, ?_⟩
    · simp only [pds, PyData.showableAll, f.sh, a, Bool.and_self]
    · simp only [pds, PyData.leavesShortAll, f.lf, b, Bool.and_self]
    · have := f.bk
      simp only [pds, PyData.bulkAll, List.length_cons, Nat.mul_add, Nat.mul_one]; omega
    · have := f.dp
      simp only [pds, PyData.depthAll]; omega
theorem few_kv {n k : Nat} (hn : 9 ≤ n) : ∀ {l : List (Key × D)}, (∀ q ∈ l, SmK q.1 ∧ Few n k q.2.pd) → PyData.showableKv (pdk l) = true ∧ PyData.leavesShortKv 50 (pdk l) = true ∧ PyData.bulkKv (pdk l) ≤ (n + 11) * l.length ∧ PyData.depthKv (pdk l) ≤ k
  | [], _ => ⟨rfl, rfl, Nat.zero_le _, Nat.zero_le _⟩
  | q :: l, h => by
    obtain ⟨a, b, c, e⟩ := few_kv hn fun x m => h x (List.mem_cons_of_mem _ m)
    obtain ⟨hk, f⟩ := h q List.mem_cons_self
    have g := few_key hk k
    refine ⟨?_, ?_, ?_, ?_⟩
    · simp only [pdk, PyData.showableKv, f.sh, g.sh, a, Bool.and_self]
    · simp only [pdk, PyData.leavesShortKv, f.lf, g.lf, b, Bool.and_self]
    · have := f.bk
      have := g.bk
      simp only [pdk, PyData.bulkKv, List.length_cons, Nat.mul_add, Nat.mul_one]; omega
    · have := f.dp
      have := g.dp
      simp only [pdk, PyData.depthKv]; omega
theorem pds_len : ∀ l : List D, (pds l).length = l.length
  | [] => rfl
  | d :: l => congrArg (· + 1) (pds_len l)
theorem few_zip {n k : Nat} : ∀ {ks vs : List D}, ks.length = vs.length → (∀ d ∈ ks, Few n k d.pd) → (∀ d ∈ vs, Few n k d.pd) → PyData.showableKv ((pds ks).zip (pds vs)) = true ∧ PyData.leavesShortKv 50 ((pds ks).zip (pds vs)) = true ∧ PyData.bulkKv ((pds ks).zip (pds vs)) ≤ (2 * n + 2) * ks.length ∧ PyData.depthKv ((pds ks).zip (pds vs)) ≤ k
  | [], [], _, _, _ => ⟨rfl, rfl, Nat.zero_le _, Nat.zero_le _⟩
  | a :: ks, b :: vs, hl, h, h' => by
    obtain ⟨i, j, c, e⟩ := few_zip (Nat.succ.inj hl) (fun x m => h x (List.mem_cons_of_mem _ m)) fun x m => h' x (List.mem_cons_of_mem _ m)
    have f := h a List.mem_cons_self
    have g := h' b List.mem_cons_self
    refine ⟨?_, ?_, ?_, ?_⟩
    · simp only [pds, List.zip_cons_cons, PyData.showableKv, f.sh, g.sh, i, Bool.and_self]
    · simp only [pds, List.zip_cons_cons, PyData.leavesShortKv, f.lf, g.lf, j, Bool.and_self]
    · have := f.bk
      have := g.bk
      simp only [pds, List.zip_cons_cons, PyData.bulkKv, List.length_cons, Nat.mul_add, Nat.mul_one]; omega
    · have := f.dp
      have := g.dp
      simp only [pds, List.zip_cons_cons, PyData.depthKv]; omega
theorem Sm.few : ∀ (k : Nat) (d : D), Sm k d → Few (bnd k) k d.pd
  | k, .non, _ => ⟨rfl, rfl, Nat.zero_le _, Nat.zero_le _⟩
  | k, .bl _, _ => ⟨rfl, rfl, Nat.zero_le _, Nat.zero_le _⟩
  | k, .int i, h => (few_int (by cases k <;> exact h) k).mono (bnd_ge k)
  | k, .str s, h => (few_str (by cases k <;> exact h) k).mono (bnd_ge k)
  | k + 1, .tup l, h => by
    obtain ⟨a, b, c, e⟩ := few_all fun d m => Sm.few k d (h.2 d m)
    have h1 : l.length ≤ 9 := h.1
    refine ⟨a, b, Nat.le_trans c ?_, Nat.succ_le_succ e⟩
    have := Nat.mul_le_mul_left (bnd k + 1) h1
    simp only [bnd]; omega
  | k + 1, .lst l, h => by
    obtain ⟨a, b, c, e⟩ := few_all fun d m => Sm.few k d (h.2 d m)
    have h1 : l.length ≤ 9 := h.1
    refine ⟨a, b, Nat.le_trans c ?_, Nat.succ_le_succ e⟩
    have := Nat.mul_le_mul_left (bnd k + 1) h1
    simp only [bnd]; omega
  | k + 1, .dct l, h => by
    obtain ⟨a, b, c, e⟩ := few_kv (bnd_ge k) fun q m => ⟨(h.2 q m).1, Sm.few k q.2 (h.2 q m).2⟩
    have h1 : l.length ≤ 9 := h.1
    refine ⟨a, b, Nat.le_trans c ?_, Nat.succ_le_succ e⟩
    have := Nat.mul_le_mul_left (bnd k + 11) h1
    simp only [bnd]; omega
  | k + 2, .odd _ ks vs, h => by
    obtain ⟨a, b, c, e⟩ := few_zip h.1.2 (fun d m => Sm.few k d (h.2.1 d m)) fun d m => Sm.few k d (h.2.2 d m)
    have h1 : ks.length ≤ 9 := h.1.1
    refine ⟨a, b, Nat.le_trans c ?_, Nat.le_trans (Nat.succ_le_succ e) (Nat.le_succ _)⟩
    have := Nat.mul_le_mul_left (2 * bnd k + 2) h1
    have := bnd_ge k
    simp only [bnd]; omega
  | 0, .odd _ _ _, h => h.elim
  | 1, .odd _ _ _, h => h.elim
  | k, .ty _, h => by cases k <;> exact h.elim
  | k, .con _, h => by cases k <;> exact h.elim
  | k, .pot, h => by cases k <;> exact h.elim
  | k, .ins _ _, h => by cases k <;> exact h.elim
  | k, .exc _ _, h => by cases k <;> exact h.elim
  | k, .dlk _, h => by cases k <;> exact h.elim
  | 0, .tup _, h => h.elim
  | 0, .lst _, h => h.elim
  | 0, .dct _, h => h.elim
theorem sm_len {d : D} (h : Sm 4 d) : d.pd.shown.length ≤ sizeLine := by
  have f := Sm.few 4 d h
  have := PyData.shown_le_bulk 50 (by decide) d.pd f.lf
  have b : d.pd.bulk ≤ 140229 := f.bk
  have e : sizeLine = 16777216 := by decide
  have : (50 + 2) * d.pd.bulk ≤ 52 * 140229 := Nat.mul_le_mul_left 52 b
  omega
section
variable {X : Cx} {pins : List (Addr × Obj)} {σ : St} {H : Hp} {s : Shared} {Z : Addr → Prop} {p : Addr}
def Shows (s : Shared) (u : Value) (d : PyData) : Prop := ∃ as, Reads s.heap u d as ∧ sysModules ∉ as
theorem shows_all {h : Heap} : ∀ {l : List D} {vs : List V} {us : List Value}, (∀ d ∈ l, ∀ v u, Rep X.K Z p H d v → RelV v u → Shows s u d.pd) → Reps X.K Z p H l vs → Vals vs us → ∃ as, ReadsAll s.heap us (pds l) as ∧ sysModules ∉ as
  | [], _, _, _, r, v => by
    rw [show _ = [] from r] at v
    cases v
    exact ⟨[], .nil, by simp⟩
  | d :: l, _, _, f, ⟨v, r, e, a, b⟩, vv => by
    subst e
    cases vv with
    | cons h1 h2 =>
      obtain ⟨as, ra, na⟩ := f d List.mem_cons_self _ _ a h1
      obtain ⟨bs, rb, nb⟩ := shows_all (h := h) (fun x m => f x (List.mem_cons_of_mem _ m)) b h2
      exact ⟨as ++ bs, .cons ra rb, by simp only [List.mem_append]; rintro (z | z); exact na z; exact nb z⟩
theorem shows_key {P : Program} {w : World} {kk : Key} {v : Value} (h : (mixKind P w).is kk v = true) (s : Shared) : Reads s.heap v (kPd kk) [] := by
  rcases keyIs_shape h with ⟨i, t, rfl, rfl⟩ | ⟨x, t, rfl, rfl⟩
  · exact .int i t
  · exact .str x t
theorem shows_kv {P : Program} {w : World} : ∀ {l : List (Key × D)} {kvs : List (Key × V)} {vs : List (Key × Value)} {es : List DictEntry}, (∀ q ∈ l, ∀ v u, Rep X.K Z p H q.2 v → RelV v u → Shows s u q.2.pd) → RepK X.K Z p H l kvs → KV kvs vs → Pairs (mixKind P w) es vs →
    (∃ as, ReadsAll s.heap (es.map (·.key)) ((pdk l).map (·.1)) as ∧ sysModules ∉ as) ∧ ∃ as, ReadsAll s.heap (es.map (·.val)) ((pdk l).map (·.2)) as ∧ sysModules ∉ as
  | [], _, _, _, _, r, v, q => by
    rw [show _ = [] from r] at v
    cases v
    cases q
    exact ⟨⟨[], .nil, by simp⟩, ⟨[], .nil, by simp⟩⟩
  | d :: l, _, _, _, f, ⟨v, r, e, a, b⟩, vv, q => by
    subst e
    cases vv with
    | cons h1 h2 =>
      cases q with
      | cons k1 k2 k3 =>
        obtain ⟨⟨as, ra, na⟩, bs, rb, nb⟩ := shows_kv (fun x m => f x (List.mem_cons_of_mem _ m)) b h2 k3
        obtain ⟨cs, rc, nc⟩ := f d List.mem_cons_self _ _ a h1.2
        refine ⟨⟨[] ++ as, .cons ?_ ra, by simpa using na⟩, cs ++ bs, .cons ?_ rb, by simp only [List.mem_append]; rintro (z | z); exact nc z; exact nb z⟩
        · rw [← h1.1] at k1
          exact shows_key k1 s
        · show Reads s.heap _ _ cs
          have e := k2
          simp only [e]; exact rc
theorem rep_reads (I : Inv X pins σ H s) (hS : X.base.get? sysModules ≠ none) : ∀ (k : Nat) (d : D) (v : V) (u : Value), Sm k d → Rep X.K Z p H d v → RelV v u → Shows s u d.pd
  | _, .non, _, _, _, r, q => by rw [show _ = V.non from r] at q; cases q; exact ⟨[], .none, by simp⟩
  | _, .bl b, _, _, _, r, q => by rw [show _ = V.bl b from r] at q; cases q; exact ⟨[], .bool b, by simp⟩
  | _, .int i, _, _, _, r, q => by rw [show _ = V.int i from r] at q; obtain ⟨t, rfl⟩ := q; exact ⟨[], .int i t, by simp⟩
  | _, .str x, _, _, _, r, q => by rw [show _ = V.str x from r] at q; obtain ⟨t, rfl⟩ := q; exact ⟨[], .str x t, by simp⟩
  | k + 1, .tup l, _, _, h, ⟨a, vs, e, w, r⟩, q => by
    subst e
    cases q
    obtain ⟨its, rv, ⟨o, e1, c, n, e2⟩, _⟩ := I.tuple (sqT_of w)
    obtain ⟨as, ra, na⟩ := shows_all (h := s.heap) (fun d m v u => rep_reads I hS k d v u (h.2 d m)) r rv
    exact ⟨as, .tuple e1 c e2 (by simpa using ra), na⟩
  | k + 1, .lst l, _, _, h, ⟨a, vs, e, w, r⟩, q => by
    subst e
    cases q
    obtain ⟨its, rv, ⟨o, n, e1, c, _, e2⟩, _⟩ := I.list (sqL_of w)
    obtain ⟨as, ra, na⟩ := shows_all (h := s.heap) (fun d m v u => rep_reads I hS k d v u (h.2 d m)) r rv
    refine ⟨a :: as, .list e1 c e2 (by simpa using ra), ?_⟩
    rw [List.mem_cons]
    rintro (z | z)
    · subst z
      cases hk : X.base.get? sysModules with
      | none => exact hS hk
      | some o => have := (I.bs _ _ hk).2; rw [w.2] at this; cases this
    · exact na z
  | k + 1, .dct l, _, _, h, ⟨a, kvs, e, w, r⟩, q => by
    subst e
    cases q
    obtain ⟨_, hz, vs, rv, o, es, ep, e1, ex, e2, _, ps, _⟩ := dk_of I.hok w.2
    obtain ⟨⟨as, ra, na⟩, bs, rb, nb⟩ := shows_kv (fun d m v u => rep_reads I hS k d.2 v u (h.2 d m).2) r rv ps
    refine ⟨a :: as ++ bs, .dict e1 ex.1 e2 ra rb, ?_⟩
    simp only [List.cons_append, List.mem_cons, List.mem_append]
    rintro (z | z | z)
    · subst z
      simp at hz
    · exact na z
    · exact nb z
  | k, .ty _, _, _, h, _, _ => by cases k <;> exact h.elim
  | k, .con _, _, _, h, _, _ => by cases k <;> exact h.elim
  | k, .pot, _, _, h, _, _ => by cases k <;> exact h.elim
  | k, .ins _ _, _, _, h, _, _ => by cases k <;> exact h.elim
  | k, .exc _ _, _, _, h, _, _ => by cases k <;> exact h.elim
  | k, .dlk _, _, _, h, _, _ => by cases k <;> exact h.elim
  | 0, .odd _ _ _, _, _, h, _, _ => h.elim
  | 1, .odd _ _ _, _, _, h, _, _ => h.elim
  | k + 2, .odd w ks vs, _, _, h, ⟨a, o, nks, us, ws, e, q0, oo, nk, r1, r2⟩, q => by
    subst e
    cases q
    have e1 : s.heap.get? a = some o := (I.hok a _ q0.2).1
    obtain ⟨es, ep, e2, _, v1, v2⟩ := oo.dat
    obtain ⟨as, ra, na⟩ := shows_all (h := s.heap) (fun d m v u => rep_reads I hS k d v u (h.2.1 d m)) r1 v1
    obtain ⟨bs, rb, nb⟩ := shows_all (h := s.heap) (fun d m v u => rep_reads I hS k d v u (h.2.2 d m)) r2 v2
    have z1 : ((pds ks).zip (pds vs)).map (·.1) = pds ks := List.map_fst_zip (by rw [pds_len, pds_len]; exact Nat.le_of_eq h.1.2)
    have z2 : ((pds ks).zip (pds vs)).map (·.2) = pds vs := List.map_snd_zip (by rw [pds_len, pds_len]; exact Nat.le_of_eq h.1.2.symm)
    refine ⟨a :: as ++ bs, .dict e1 oo.ex.1 e2 (by rw [z1]; exact ra) (by rw [z2]; exact rb), ?_⟩
    simp only [List.cons_append, List.mem_cons, List.mem_append]
    rintro (z | z | z)
    · have := oo.low
      rw [← z] at this
      simp at this
    · exact na z
    · exact nb z
  | 0, .tup _, _, _, h, _, _ => h.elim
  | 0, .lst _, _, _, h, _, _ => h.elim
  | 0, .dct _, _, _, h, _, _ => h.elim
/-- repr's rule, by values -/
def rRepr (K : PySem.W.Frag) : List V → Hp → VK → Prop := fun xs H Q => ∃ d v Z p, xs = [v] ∧ Rep K Z p H d v ∧ Sm 4 d ∧ Q (.str d.pd.shown) H
theorem call_repr (hS : X.base.get? sysModules ≠ none) (hg : X.A.guards = some []) (hu : X.A.units + 64 < cLine) : CallR X (.builtin "repr") (rRepr X.K) := by
  rintro pins s σ H xs us Q I vals ⟨d, v, Z, p, rfl, rep, sm, q⟩
  cases vals with
  | cons h1 h2 =>
    cases h2
    obtain ⟨as, rd, ns⟩ := rep_reads I hS 4 d v _ sm rep h1
    have fw := Sm.few 4 d sm
    have ln := sm_len sm
    rename_i u
    cases hd : u with
    | ref a =>
      subst hd
      refine repr_of_reads' rd fw.sh (fun _ => ns) hg (by have := fw.dp; omega) (fun _ _ e => e) (fun h' u' tk k => ?_) ln
      exact ⟨.str d.pd.shown, H, I.kept k, ⟨_, rfl⟩, q⟩
    | _ =>
      subst hd
      generalize d.pd = e at *
      cases rd <;> first
      | exact P.repr_of_none ⟨.str PyData.none.shown, H, I.tok _, ⟨_, rfl⟩, q⟩
      | exact P.repr_of_bool ⟨.str (PyData.bool _).shown, H, I.tok _, ⟨_, rfl⟩, q⟩
      | exact P.repr_of_int (by simpa [PyData.showable] using fw.sh) ⟨.str (PyData.int _).shown, H, I.tok _, ⟨_, rfl⟩, q⟩
      | exact P.repr_of_str ⟨.str (PyData.str _).shown, H, I.tok _, ⟨_, rfl⟩, q⟩ ln
end
open Classical in
noncomputable def reprD : List D → Option D
  | [d] => if Sm 4 d then some (.str d.pd.shown) else none
  | _ => none
theorem reprD_of {d : D} (h : Sm 4 d) : reprD [d] = some (.str d.pd.shown) := by unfold reprD; exact if_pos h
theorem cd_repr {K : PySem.W.Frag} : ClD K (rRepr K) reprD := by
  intro Z p H ds d xs Q hz r e q
  match ds, r with
  | [d1], ⟨v, r', e', a, b⟩ =>
    rw [show r' = [] from b] at e'
    subst e'
    by_cases h : Sm 4 d1
    · rw [reprD_of h] at e
      injection e with e
      subst e
      exact ⟨d1, v, Z, p, rfl, a, h, q _ _ Xt.refl rfl⟩
    · have z : reprD [d1] = none := by unfold reprD; exact if_neg h
      rw [z] at e
      cases e
  | [], _ => cases e
  | _ :: _ :: _, _ => cases e
section
variable {ι : Type} {Xs : ι → Cx} {P : Program} {w : World} {K : PySem.W.Frag} {mg : Str → Option Value} {base : Heap} {N : List Str} {k : Nat} {E : XK} {e : Expr} {es : List Expr} {t : TDA} {pos p1 : Pos}
theorem eRepr (en : En Xs P w K mg base N k) (hS : base.get? sysModules ≠ none) (gd : ∀ i, (Xs i).A.guards = some []) (hmr : mg "repr" = none) (ha : DA Xs K E (e :: es) t) (hg : ∀ i, Gl (Xs i) "repr" := by intro _; rfl) (he : ∀ i, starEach (e :: es) (Xs i).env = (false, eval e (Xs i).env) :: starEach es (Xs i).env := by intro _; rfl)
    (hpl : ∀ i, (backTo pos (starEach es (Xs i).env)).any (·.1) = false := by intro _; rfl) : DE Xs K E (.Call (.Name "repr" p1) (e :: es) [] pos) (dCl reprD t) :=
  de_callB (id := "repr") (r := rRepr K) (fun i => by have := call_repr (X := Xs i) (by rw [en.hb i]; exact hS) (gd i) (en.u64 i); rw [en.hK i] at this; exact this) cd_repr hg (fun i => by rw [en.hm i]; exact hmr) (by with_unfolding_all rfl) ha (by decide) (by decide) he hpl
end
end DL
set_option Elab.async false
set_option linter.all false
set_option maxRecDepth 100000
set_option maxHeartbeats 1000000
set_option autoImplicit false
/-! a text compared with a dict, with an instance; own ==, in, len. -/
namespace OwnE
open PySem PySem.SeqAt PySem.MeetsSeq
open PySem.AutoSeq1 (wpAny_loadPart')
theorem str_no_dict (b : Str) (u : Tok) (l : Addr) (c : Value) (es : Array DictEntry) (n : Nat) (dd : Option Addr) (sl : Array (Option Value)) :
    Meets (Builtin.«str.__eq__» ⟨[.str b u, .ref l], []⟩) (fun _ R s => s.heap.get? l = some { cls := c, dict := dd, data := .dict es n, slots := sl } ∧ R (.ok (.ret .notImplemented)) s) :=
  .of_wp fun prog w A R s h => by obtain ⟨hp, g, d, tk, os⟩ := s; obtain ⟨hl, h⟩ := h; wp_walk using wpAny_loadPart' hl, wpAny_load hl; exact ⟨_, rfl, h⟩
theorem str_no_inst (b : Str) (u : Tok) (l C dx : Addr) :
    Meets (Builtin.«str.__eq__» ⟨[.str b u, .ref l], []⟩) (fun _ R s => s.heap.get? l = some (PySem.W.instObj C dx) ∧ R (.ok (.ret .notImplemented)) s) :=
  .of_wp fun prog w A R s h => by obtain ⟨hp, g, d, tk, os⟩ := s; obtain ⟨hl, h⟩ := h; unfold PySem.W.instObj at hl; wp_walk using wpAny_loadPart' hl, wpAny_load hl; exact ⟨_, rfl, h⟩
theorem dict_no_str (b : Str) (u : Tok) (l : Addr) (es : Array DictEntry) (n : Nat) (sl : Array (Option Value)) :
    Meets (Builtin.«dict.__eq__» ⟨[.ref l, .str b u], []⟩) (fun _ R s => s.heap.get? l = some { cls := .type "dict", dict := none, data := .dict es n, slots := sl } ∧ R (.ok (.ret .notImplemented)) s) :=
  .of_wp fun prog w A R s h => by
    obtain ⟨hp, g, d, tk, os⟩ := s
    obtain ⟨hl, h⟩ := h
    wp_walk using wpAny_loadPart' hl, wpAny_load hl
    refine wpAny_of_eq F.sub_str_dict ?_
    rw [if_pos (show (!false) = true from rfl)]
    exact wpAny_bind (wpAny_rule (wpAny_pure ⟨_, rfl, h⟩))
section
variable {A : Around} {s : Shared}
theorem rc_str_dict (b : Str) (u : Tok) {l : Addr} {o : Obj} {es : Array DictEntry} {n : Nat} (ho : s.heap.get? l = some o) (hx : o.ExactDict) (hd : o.data = .dict es n) (hu : A.units < cLine) : RcAt A s (.str b u) (.ref l) false := fun prog w E Q h => by
  obtain ⟨cls, dd, data, sl⟩ := o
  obtain ⟨hc, hn, _⟩ := hx
  simp only at hc hn hd
  subst hc hn hd
  exact rc_eq_decline_or (k := false) (typeIs_str s b u) ⟨_, ho, rfl⟩ (by decide) F.sub_dict_str F.slot_str_eq F.slot_dict_eq_refl
    (fun _ hq => call_meets F.slot_str_eq (typeIs_str s b u) F.entry_str_eq (F.args_str_eq_2 _ _) (str_no_dict b u l (.type "dict") es n none sl) ⟨ho, hq⟩)
    (fun _ hq => call_meets F.slot_dict_eq_refl ⟨_, ho, rfl⟩ F.entry_dict_eq (F.args_dict_eq_2 _ _) (dict_no_str b u l es n sl) ⟨ho, hq⟩)
    (fun _ hq => wpAny_of_eq (rfl : isSame (.str b u) (.ref l) = pure false) hq) (.inr hu) h
/-- a text and an instance: its own == answers -/
theorem rc_str_own {K : PySem.W.Frag} {prog : Program} {w : World} {E : Value → Shared → Prop} (b : Str) (u : Tok) {x C dx f : Addr} {od : Option Obj} {Q : Value → Shared → Prop} (hu : A.units < cLine) (X : K.In s.heap) (I : PySem.W.InstAt s.heap x (PySem.W.instObj C dx) C od)
    (hsub : PySem.W.subIn K (.ref C) (.type "str") = some false) (hs : PySem.W.findIn K (.ref C) "__eq__" = some (some (.ref f))) (hf : PySem.W.isFn K (.ref f) = true)
    (h : wpAny (model prog w) A (call (.ref f) [.ref x, .str b u]) (PySem.W.CmpBack Q) E s) : wpAny (model prog w) A (richCompare .Eq (.str b u) (.ref x)) Q E s := by
  have one : wpAny (model prog w) A (tryCompare (.ref x) (cmpInfo .Eq).2.2 (.str b u)) (fun r s' => ∃ v, r = some v ∧ Q v s') E s := by
    unfold tryCompare
    refine wpAny_bind (PySem.W.ifBound_K X I hs hf (wpAny_mono h (fun v s' hv => ?_) fun _ _ e => e))
    cases v <;> first | exact hv.elim | exact wpAny_pure ⟨_, rfl, hv⟩
  unfold richCompare
  simp only [(typeIs_str s b u).oneThing_none]
  refine wpAny_holding (wpAny_bind (wpAny_cRoomFor hu ?_))
  refine wpAny_bind (wpAny_typeOf (typeIs_str s b u) (wpAny_bind (I.type.here ?_)))
  rw [if_pos (by simp)]
  refine wpAny_bind ((PySem.W.looks_subIn X hsub).here ?_)
  simp only [Bool.false_eq_true, if_false, Bool.not_false, if_true]
  refine wpAny_bind (m := tryCompare (.str b u) _ (.ref x)) (wpAny_tryCompare_declines (typeIs_str s b u) F.slot_str_eq (call_meets F.slot_str_eq (typeIs_str s b u) F.entry_str_eq (F.args_str_eq_2 _ _) (str_no_inst b u x C dx) ⟨I.at_, ⟨rfl, ?_⟩⟩))
  refine wpAny_bind (wpAny_mono one (fun r s' z => ?_) fun _ _ e => e)
  obtain ⟨v, rfl, hq⟩ := z
  exact wpAny_pure hq
end
end OwnE
set_option Elab.async false
set_option linter.all false
set_option maxRecDepth 100000
set_option maxHeartbeats 1000000
set_option autoImplicit false
/-! own ==, in, len with any values; a text compared with any. -/
namespace DOwn
open PySem L2 DL
section
variable {X : Cx} {k : Nat} {CX : CXT} {f C : Addr} {fd : FuncData} {ps : List Str} {sp : Sp} {E : XK}
def rOwnA (K : PySem.W.Frag) (C : Addr) (sp : Sp) (E : XK) : R2 := fun x y H Q => (∃ a dx fs, x = .ref a ∧ H a = some (.ins C dx fs)) ∧ (∃ t, TyY K H y t ∧ PySem.W.notFirst K C t = true) ∧ sp [x, y] H Q E
theorem cmp_ownA {op : CmpOp} (hop : ∀ a b, compareOp op a b = richCompare op a b) (G : FnOk X.prog X.w X.K X.mg X.base CX k f fd ps sp) (hr : Room k X.A) (hb : Binds X.K fd ps []) (hx : Passes CX X E)
    (hs : PySem.W.findIn X.K (.ref C) (cmpInfo op).2.1 = some (some (.ref f))) (hf : PySem.W.isFn X.K (.ref f) = true) : OpR X (compareOp op) (rOwnA X.K C sp E) := by
  intro pins s σ H x y u v Q I rx ry h
  obtain ⟨⟨a, dx, fs, rfl, ha⟩, ⟨t, ty, nf⟩, h⟩ := h
  cases rx
  obtain ⟨od, J⟩ := inst_of I ha
  obtain ⟨m, hF⟩ := I.fr
  obtain ⟨P, Z, p, _⟩ := kit_y I ry ty
  rw [hop]
  refine PySem.W.cmp_K (op := op) (tb := t) hr.units0 hF I.ok.mod.kin J (Z.ty _ _ I.kIn p) nf hs hf (wpAny_mono (run_any G hr rfl hb hx I (vs := [.ref a, y]) (us := [.ref a, v]) (.cons rfl (.cons ry .nil)) h) (fun z s' q => ?_) fun _ _ q => q)
  obtain ⟨w', H', I', r', q'⟩ := q
  exact rel_back r' ⟨w', H', I', r', q'⟩
def rStrDict : R2 := fun x y H Q => ∃ (s : Str) (a : Addr) (kvs : List (Key × V)), x = .str s ∧ y = .ref a ∧ H a = some (.dK kvs) ∧ Q (.bl false) H
theorem cmp_strDict (hu : X.A.units + 64 < cLine) : OpR X (compareOp .Eq) rStrDict := by
  intro pins s σ H x y u v Q I rx ry h
  obtain ⟨z, a, kvs, rfl, rfl, ha, q⟩ := h
  obtain ⟨t, rfl⟩ := rx
  cases ry
  obtain ⟨_, _, vs, _, o, es, ep, h1, h2, h3, _⟩ := dk_of I.hok ha
  exact OwnE.rc_str_dict z t h1 h2 h3 (by omega) _ _ _ _ ⟨.bl false, H, I.tok _, rfl, q⟩
def rStrOwn (C : Addr) (sp : Sp) (E : XK) : R2 := fun x y H Q => ∃ (s : Str) (a dx : Addr) (fs : List (Str × V)), x = .str s ∧ y = .ref a ∧ H a = some (.ins C dx fs) ∧ sp [y, x] H Q E
theorem cmp_strOwn (G : FnOk X.prog X.w X.K X.mg X.base CX k f fd ps sp) (hr : Room k X.A) (hb : Binds X.K fd ps []) (hx : Passes CX X E) (hsub : PySem.W.subIn X.K (.ref C) (.type "str") = some false)
    (hs : PySem.W.findIn X.K (.ref C) "__eq__" = some (some (.ref f))) (hf : PySem.W.isFn X.K (.ref f) = true) : OpR X (compareOp .Eq) (rStrOwn C sp E) := by
  intro pins s σ H x y u v Q I rx ry h
  obtain ⟨z, a, dx, fs, rfl, rfl, ha, h⟩ := h
  obtain ⟨t, rfl⟩ := rx
  cases ry
  obtain ⟨od, J⟩ := inst_of I ha
  refine OwnE.rc_str_own z t hr.units0 I.kIn J hsub hs hf (wpAny_mono (run_any G hr rfl hb hx I (vs := [.ref a, .str z]) (us := [.ref a, .str z t]) (.cons rfl (.cons ⟨t, rfl⟩ .nil)) h) (fun z s' q => ?_) fun _ _ q => q)
  obtain ⟨w', H', I', r', q'⟩ := q
  exact rel_back r' ⟨w', H', I', r', q'⟩
def rOwnIn (C : Addr) (sp : Sp) (E : XK) : R2 := fun x y H Q => (∃ a dx fs, y = .ref a ∧ H a = some (.ins C dx fs)) ∧ sp [y, x] H (fun v H' => ∃ c, v = .bl c ∧ Q (.bl c) H') E
theorem op_ownIn (G : FnOk X.prog X.w X.K X.mg X.base CX k f fd ps sp) (hr : Room k X.A) (hb : Binds X.K fd ps []) (hx : Passes CX X E)
    (hs : PySem.W.findIn X.K (.ref C) "__contains__" = some (some (.ref f))) (hf : PySem.W.isFn X.K (.ref f) = true) : OpR X (compareOp .In) (rOwnIn C sp E) := by
  intro pins s σ H x y u v Q I rx ry h
  obtain ⟨⟨a, dx, fs, rfl, ha⟩, h⟩ := h
  cases ry
  obtain ⟨od, J⟩ := inst_of I ha
  obtain ⟨m, hF⟩ := I.fr
  refine PySem.W.in_K hF I.ok.mod.kin J hs hf (wpAny_mono (run_any G hr rfl hb hx I (vs := [.ref a, x]) (us := [.ref a, u]) (.cons rfl (.cons rx .nil)) h) (fun z s' q => ?_) fun _ _ q => q)
  obtain ⟨w', H', I', r', c, rfl, q'⟩ := q
  cases r'
  exact wpAny_truthy_bool ⟨.bl c, H', I', rfl, q'⟩
def rLenOwn (C : Addr) (sp : Sp) (E : XK) : List V → Hp → VK → Prop := fun xs H Q => ∃ a dx fs, xs = [.ref a] ∧ H a = some (.ins C dx fs) ∧ sp [.ref a] H (fun v H' => ∃ i : Int, v = .int i ∧ (0 ≤ i ∧ i < 2 ^ 63) ∧ Q (.int i) H') E
theorem call_lenOwn (G : FnOk X.prog X.w X.K X.mg X.base CX k f fd ps sp) (hr : Room (k + 1) X.A) (hb : Binds X.K fd ps []) (hx : Passes CX X E)
    (hs : PySem.W.findIn X.K (.ref C) "__len__" = some (some (.ref f))) (hf : PySem.W.isFn X.K (.ref f) = true) : CallR X (.builtin "len") (rLenOwn C sp E) := by
  intro pins s σ H xs us Q I r h
  obtain ⟨a, dx, fs, rfl, ha, h⟩ := h
  obtain rfl := Vals.ref1 r
  obtain ⟨od, J⟩ := inst_of I ha
  obtain ⟨m, hF⟩ := I.fr
  refine PySem.W.len_K hF I.ok.mod.kin J hs hf (wpAny_mono (run_any (A := X.A.in1) G hr.in1 rfl hb hx I (vs := [.ref a]) (us := [.ref a]) (.cons rfl .nil) h) (fun z s' q => ?_) fun _ _ q => q)
  obtain ⟨w', H', I', r', i, rfl, hi, q'⟩ := q
  obtain ⟨t, rfl⟩ := r'
  exact ⟨hi, .int i, H', I'.tok _, ⟨_, rfl⟩, q'⟩
end
end DOwn
namespace DL
open PySem L2
section
variable {ι : Type} {Xs : ι → Cx} {P : Program} {w : World} {K : PySem.W.Frag} {mg : Str → Option Value} {base : Heap} {N : List Str} {k kF : Nat} {E : XK} {pos q : Pos} {a b e : Expr} {es : List Expr} {ta tb te : TD} {t : TDA} {F : DF}
/-- which types do not come first -/
structure Sb (K : PySem.W.Frag) (C : Addr) : Prop where
  no : ∀ n, n = "NoneType" ∨ n = "int" ∨ n = "bool" ∨ n = "str" ∨ n = "tuple" ∨ n = "list" ∨ n = "dict" → PySem.W.subIn K (.type n) (.ref C) = some false
  st : PySem.W.subIn K (.ref C) (.type "str") = some false
theorem Sb.nf {C : Addr} (h : Sb K C) {d : D} {a : Tn} (e : tnOf d = some a) (o : okT C a = true) : PySem.W.notFirst K C (tnV a) = true := by
  unfold PySem.W.notFirst
  cases a with
  | own E =>
    have e : E = C := of_decide_eq_true o
    subst e
    simp [tnV]
  | non => show (_ || PySem.W.subIn K (.type "NoneType") (.ref C) == some false) = true; rw [h.no _ (by simp)]; simp
  | bool => show (_ || PySem.W.subIn K (.type "bool") (.ref C) == some false) = true; rw [h.no _ (by simp)]; simp
  | int => show (_ || PySem.W.subIn K (.type "int") (.ref C) == some false) = true; rw [h.no _ (by simp)]; simp
  | str => show (_ || PySem.W.subIn K (.type "str") (.ref C) == some false) = true; rw [h.no _ (by simp)]; simp
  | tup => show (_ || PySem.W.subIn K (.type "tuple") (.ref C) == some false) = true; rw [h.no _ (by simp)]; simp
  | lst => show (_ || PySem.W.subIn K (.type "list") (.ref C) == some false) = true; rw [h.no _ (by simp)]; simp
  | dct => show (_ || PySem.W.subIn K (.type "dict") (.ref C) == some false) = true; rw [h.no _ (by simp)]; simp
/-- mark == any -/
def dOwnA (C : Addr) (F : DF) (ta tb : TD) : TD := fun ρ n Q x => ta ρ n (fun d1 n1 => tb ρ n1 (fun d2 n2 => (∃ l, d1 = .ins C l) ∧ (∃ a, tnOf d2 = some a ∧ okT C a = true) ∧ F [d1, d2] n2 Q x) x) x
theorem ownEqA (en : En Xs P w K mg base N k) {C : Addr} (I : Isi K C) (S : Sb K C) (h : Ow1 P w K mg base C "__eq__" kF F) (ha : DE Xs K E0 a ta) (hb : DE Xs K E0 b tb) (hk : kF ≤ k := by decide) : DE Xs K E0 (.Compare a [.Eq] [b] pos) (dOwnA C F ta tb) := by
  obtain ⟨f, fd, ps, M⟩ := h
  have M := fun i => en.own M i
  obtain ⟨va, pa, ea⟩ := ha
  obtain ⟨vb, pb, eb⟩ := hb
  refine ⟨tOp (DOwn.rOwnA K C (spD K F) E0) va vb, fun i => ?_, fun {p H0 Z0 ρ n Z σ H x Q Qv} wd hx h q2 => ea wd hx h fun v1 H1 d1 n1 w1 k1 r1 h1 => eb w1 hx h1 fun v2 H2 d2 n2 w2 k2 r2 ⟨⟨l1, e1⟩, ⟨t2, e2, o2⟩, h2⟩ => ?_⟩
  · have := pe_cmpR (pos := pos) (DOwn.cmp_ownA (op := .Eq) (fun _ _ => rfl) (M i).ok ((en.hr i).mono hk) (M i).bd pass0 (M i).at_ (M i).fn) (pa i) (pb i) (nomark _)
    rw [en.hK i] at this
    exact this
  · have r1' := r1.mv (w1.mv k2)
    refine ⟨?_, ⟨_, ty_of I r2 e2 o2, S.nf e2 o2⟩, sp_of w2 hx (reps_two r1' r2) h2 fun v H' d n' w' k' r' h' => q2 v H' d n' w' ((k1.trans k2).trans k') r' h'⟩
    subst e1
    obtain ⟨a, dx, fs, e, ⟨_, hh⟩, _⟩ := r1'
    exact ⟨a, dx, fs, e, hh⟩
/-- text == any -/
def eqSA (C : Addr) (F : DF) (d1 d2 : D) (n2 : Nat) (Q : DQ) (x : DX) : Prop := (∃ r, eqD d1 d2 = some r ∧ Q r n2) ∨ (∃ s l, d1 = .str s ∧ d2 = .dct l ∧ Q (.bl false) n2) ∨ ∃ s l, d1 = .str s ∧ d2 = .ins C l ∧ F [d2, d1] n2 Q x
def dEqS (C : Addr) (F : DF) (ta tb : TD) : TD := fun ρ n Q x => ta ρ n (fun d1 n1 => tb ρ n1 (fun d2 n2 => eqSA C F d1 d2 n2 Q x) x) x
theorem ev_eqS {C : Addr} {va vb : TE} (ea : EvD K E0 va ta) (eb : EvD K E0 vb tb) : EvD K E0 (tOp (fun x y H Q => rEqD K x y H Q ∨ (DOwn.rStrDict x y H Q ∨ DOwn.rStrOwn C (spD K F) E0 x y H Q)) va vb) (dEqS C F ta tb) :=
  fun {p H0 Z0 ρ n Z σ H x Q Qv} wd hx h q2 => ea wd hx h fun v1 H1 d1 n1 w1 k1 r1 h1 => eb w1 hx h1 fun v2 H2 d2 n2 w2 k2 r2 h2 => by
    have r1' := r1.mv (w1.mv k2)
    rcases h2 with ⟨r, e, h2⟩ | ⟨s, l, e1, e2, h2⟩ | ⟨s, l, e1, e2, h2⟩
    · exact .inl (od_eq (fun _ => w2.notin) r1' r2 e fun v H' xt r => q2 v H' _ n2 (w2.xt xt) ((k1.trans k2).trans xt.kp) r h2)
    · subst e1 e2
      cases r1'
      obtain ⟨c, kvs, ev, ⟨_, hc⟩, _⟩ := r2
      exact .inr (.inl ⟨s, c, kvs, rfl, ev, hc, q2 _ H2 (.bl false) n2 w2 (k1.trans k2) rfl h2⟩)
    · subst e1 e2
      obtain ⟨c, dx, fs, ev, ⟨_, hc⟩, _⟩ := id r2
      have e1 : v1 = .str s := r1'
      refine .inr (.inr ⟨s, c, dx, fs, e1, ev, hc, sp_of w2 hx (reps_two r2 r1') h2 fun v H' d n' w' k' r' h' => q2 v H' d n' w' ((k1.trans k2).trans k') r' h'⟩)
theorem or_eqS (en : En Xs P w K mg base N k) {C f : Addr} {fd : FuncData} {ps : List Str} (S : Sb K C) (M : OwnM P w K mg base K C "__eq__" kF F f fd ps) (hk : kF ≤ k) : ∀ i, OpR (Xs i) (compareOp .Eq) (fun x y H Q => rEqD K x y H Q ∨ (DOwn.rStrDict x y H Q ∨ DOwn.rStrOwn C (spD K F) E0 x y H Q)) := fun i => by
  have M := en.own M i
  have h1 := op_eqD (X := Xs i) (en.u64 i)
  rw [en.hK i] at h1
  exact h1.or ((DOwn.cmp_strDict (en.u64 i)).or (DOwn.cmp_strOwn M.ok ((en.hr i).mono hk) M.bd pass0 (by rw [en.hK i]; exact S.st) M.at_ M.fn))
theorem eEqS (en : En Xs P w K mg base N k) {C : Addr} (S : Sb K C) (h : Ow1 P w K mg base C "__eq__" kF F) (ha : DE Xs K E0 a ta) (hb : DE Xs K E0 b tb) (hk : kF ≤ k := by decide) : DE Xs K E0 (.Compare a [.Eq] [b] pos) (dEqS C F ta tb) := by
  obtain ⟨f, fd, ps, M⟩ := h
  obtain ⟨va, pa, ea⟩ := ha
  obtain ⟨vb, pb, eb⟩ := hb
  exact ⟨_, fun i => pe_cmpR (or_eqS en S M hk i) (pa i) (pb i) (nomark _), ev_eqS ea eb⟩
theorem tEqS (en : En Xs P w K mg base N k) {C : Addr} (S : Sb K C) (h : Ow1 P w K mg base C "__eq__" kF F) (ha : DE Xs K E0 a ta) (hb : DE Xs K E0 b tb) (hk : kF ≤ k := by decide) : DT Xs K E0 (.Compare a [.Eq] [b] pos) (dTest (dEqS C F ta tb)) := by
  obtain ⟨f, fd, ps, M⟩ := h
  obtain ⟨va, pa, ea⟩ := ha
  obtain ⟨vb, pb, eb⟩ := hb
  exact ⟨_, fun i => pt_cmpR (or_eqS en S M hk i) (pa i) (pb i) (nomark _), ev_test (ev_eqS ea eb)⟩
/-- any in mark -/
def dOwnIn (C : Addr) (F : DF) (ta tb : TD) : TD := fun ρ n Q x => ta ρ n (fun d1 n1 => tb ρ n1 (fun d2 n2 => (∃ l, d2 = .ins C l) ∧ F [d2, d1] n2 (fun d n3 => ∃ c, d = .bl c ∧ Q (.bl c) n3) x) x) x
theorem ownIn (en : En Xs P w K mg base N k) {C : Addr} (h : Ow1 P w K mg base C "__contains__" kF F) (ha : DE Xs K E0 a ta) (hb : DE Xs K E0 b tb) (hm : behindInMarks .In b = false := by rfl) (hk : kF ≤ k := by decide) : DE Xs K E0 (.Compare a [.In] [b] pos) (dOwnIn C F ta tb) := by
  obtain ⟨f, fd, ps, M⟩ := h
  have M := fun i => en.own M i
  obtain ⟨va, pa, ea⟩ := ha
  obtain ⟨vb, pb, eb⟩ := hb
  refine ⟨_, fun i => pe_cmpR (DOwn.op_ownIn (M i).ok ((en.hr i).mono hk) (M i).bd pass0 (M i).at_ (M i).fn) (pa i) (pb i) hm, fun {p H0 Z0 ρ n Z σ H x Q Qv} wd hx h q2 => ea wd hx h fun v1 H1 d1 n1 w1 k1 r1 h1 => eb w1 hx h1 fun v2 H2 d2 n2 w2 k2 r2 ⟨⟨l2, e2⟩, h2⟩ => ?_⟩
  have r1' := r1.mv (w1.mv k2)
  refine ⟨?_, sp_of w2 hx (reps_two r2 r1') h2 fun v H' d n' w' k' r' ⟨c, ec, h'⟩ => ?_⟩
  · subst e2
    obtain ⟨a, dx, fs, e, ⟨_, hh⟩, _⟩ := r2
    exact ⟨a, dx, fs, e, hh⟩
  · subst ec
    exact ⟨c, r', q2 _ H' (.bl c) n' w' ((k1.trans k2).trans k') rfl h'⟩
/-- len(mark) -/
def dLenOwn (C : Addr) (F : DF) (t : TDA) : TD := fun ρ n Q x => t ρ n (fun ds n1 => ∃ l, ds = [.ins C l] ∧ F ds n1 (fun d n2 => ∃ i : Int, d = .int i ∧ (0 ≤ i ∧ i < 2 ^ 63) ∧ Q (.int i) n2) x) x
theorem lenOwn (en : En Xs P w K mg base N k) {C : Addr} (h : Ow1 P w K mg base C "__len__" kF F) (ha : DA Xs K E0 (e :: es) t) (hk : kF + 1 ≤ k := by decide) (hg : ∀ i, Gl (Xs i) "len" := by intro _; rfl)
    (he : ∀ i, starEach (e :: es) (Xs i).env = (false, eval e (Xs i).env) :: starEach es (Xs i).env := by intro _; rfl) (hpl : ∀ i, (backTo pos (starEach es (Xs i).env)).any (·.1) = false := by intro _; rfl) :
    DE Xs K E0 (.Call (.Name "len" q) (e :: es) [] pos) (dLenOwn C F t) := by
  obtain ⟨f, fd, ps, M⟩ := h
  have M := fun i => en.own M i
  obtain ⟨va, pa, ea⟩ := ha
  refine ⟨tCB (DOwn.rLenOwn C (spD K F) E0) va, fun i => pe_callB (DOwn.call_lenOwn (M i).ok ((en.hr i).mono hk) (M i).bd pass0 (M i).at_ (M i).fn) (hg i) (en.no en.bt.len i) (by decide +kernel) (pa i) (by decide) (by decide) (he i) (hpl i), fun {p H0 Z0 ρ n Z σ H x Q Qv} wd hx hh q2 => ea wd hx hh fun vs H1 ds n1 w1 k1 r1 ⟨l, e1, h1⟩ => ?_⟩
  subst e1
  obtain ⟨v, rfl, r⟩ := reps1 r1
  obtain ⟨a1, dx, fs, rfl, ⟨z, hh1⟩, rf⟩ := r
  refine ⟨a1, dx, fs, rfl, hh1, sp_of w1 hx r1 h1 fun v H' d n' w' k' r' ⟨i, ec, hi, h'⟩ => ?_⟩
  subst ec
  exact ⟨i, r', hi, q2 _ H' (.int i) n' w' (k1.trans k') rfl h'⟩
/-- mark != mark, as a test -/
theorem ev_neOwn {C : Addr} {va vb : TE} (ea : EvD K E0 va ta) (eb : EvD K E0 vb tb) : EvD K E0 (tOp (DOwn.rOwnNe C (spD K F) E0) va vb) (dOwnNe C F ta tb) :=
  fun {p H0 Z0 ρ n Z σ H x Q Qv} wd hx h q2 => ea wd hx h fun v1 H1 d1 n1 w1 k1 r1 h1 => eb w1 hx h1 fun v2 H2 d2 n2 w2 k2 r2 ⟨⟨l1, e1⟩, ⟨l2, e2⟩, h2⟩ => by
    have r1' := r1.mv (w1.mv k2)
    refine ⟨?_, ?_, sp_of w2 hx (reps_two r1' r2) h2 fun v H' d n' w' k' r' ⟨c, ec, h'⟩ => ?_⟩
    · subst e1
      obtain ⟨a, dx, fs, e, ⟨_, hh⟩, _⟩ := r1'
      exact ⟨a, dx, fs, e, hh⟩
    · subst e2
      obtain ⟨a, dx, fs, e, ⟨_, hh⟩, _⟩ := r2
      exact ⟨a, dx, fs, e, hh⟩
    · subst ec
      exact ⟨c, r', q2 _ H' (.bl (!c)) n' w' ((k1.trans k2).trans k') rfl h'⟩
theorem ownNeT (en : En Xs P w K mg base N k) {C : Addr} (h : OwNe P w K mg base C kF F) (ha : DE Xs K E0 a ta) (hb : DE Xs K E0 b tb) (hk : kF + 1 ≤ k := by decide) : DT Xs K E0 (.Compare a [.NotEq] [b] pos) (dTest (dOwnNe C F ta tb)) := by
  obtain ⟨f, fd, ps, M, hO⟩ := h
  have M := fun i => en.own M i
  obtain ⟨va, pa, ea⟩ := ha
  obtain ⟨vb, pb, eb⟩ := hb
  exact ⟨_, fun i => pt_cmpR (DOwn.ne_own PySem.F.cmp_object (fun h a dx X e => hO h a dx (by rw [← en.hK i]; exact X) e) (M i).ok ((en.hr i).mono hk) (M i).bd pass0) (pa i) (pb i) (nomark _), ev_test (ev_neOwn ea eb)⟩
theorem tNotIn (en : En Xs P w K mg base N k) (ha : DE Xs K E a ta) (hb : DE Xs K E b tb) (hm : behindInMarks .NotIn b = false := by with_unfolding_all rfl) : DT Xs K E (.Compare a [.NotIn] [b] pos) (dTest (dOp notInD ta tb)) := dt_cmp (en.opK (r := fun K => rIn K true) fun _ => op_notIn_seq) od_notIn ha hb hm
end
end DL
set_option Elab.async false
set_option linter.all false
set_option maxRecDepth 100000
set_option maxHeartbeats 1000000
set_option autoImplicit false
/-! DL: raise, and defs that may raise. -/
namespace DL
open PySem L2
/-! ### what raises nothing, where something may be raised -/
def zE (t : TD) : TD := fun ρ n Q _ => t ρ n Q x0
def zT (t : TDT) : TDT := fun ρ n Q _ => t ρ n Q x0
def zA (t : TDA) : TDA := fun ρ n Q _ => t ρ n Q x0
def zL (t : TDL) : TDL := fun ρ n Q _ => t ρ n Q x0
section
variable {ι : Type} {Xs : ι → Cx} {K : PySem.W.Frag} {E : XK} {e tg iter : Expr} {es : List Expr} {te : TD} {tt : TDT} {t : TDA} {ti : TDL} {s : Stmt} {ts : TDS}
theorem DE.up (h : DE Xs K E0 e te) : DE Xs K E e (zE te) := let ⟨v, p, h⟩ := h; ⟨v, p, fun w _ hh q => h w HE.zero hh q⟩
theorem DT.up (h : DT Xs K E0 e tt) : DT Xs K E e (zT tt) := let ⟨v, p, h⟩ := h; ⟨v, p, fun w _ hh q => h w HE.zero hh q⟩
theorem DA.up (h : DA Xs K E0 es t) : DA Xs K E es (zA t) := let ⟨v, p, h⟩ := h; ⟨v, p, fun w _ hh q => h w HE.zero hh q⟩
theorem DI.up (h : DI Xs K E0 tg iter ti) : DI Xs K E tg iter (zL ti) := let ⟨v, p, h⟩ := h; ⟨v, p, fun w _ hh q => h w HE.zero hh q⟩
def zS (t : TDS) : TDS := fun De ρ n _ => t De ρ n x0
theorem DS.up (h : DS Xs K E0 s ts) : DS Xs K E s (zS ts) := let ⟨v, p, h⟩ := h; ⟨v, p, fun w _ hh => h w HE.zero hh⟩
end
/-! ### an own error -/
/-- what is known of a class X whose __init__ keeps its one argument in f -/
structure Xc (P : Program) (w : World) (K : PySem.W.Frag) (mg : Str → Option Value) (base : Heap) (x : Str) (C : Addr) (f : Str) : Prop where
  oex : OexC K C
  at_ : mg x = some (.ref C)
  ini : ∃ fI fd, PySem.W.findIn K (.ref C) "__init__" = some (some (.ref fI)) ∧ PySem.W.typeIn K (.ref fI) = some (.type "function") ∧ FnOk P w K mg base CX0 1 fI fd ["self", f] (XI.spXi C f) ∧ Binds K fd ["self", f] []
def dRaise (C : Addr) (f : Str) (te : TD) : TDS := fun _ ρ n x => te ρ n (fun d n1 => x C [(f, d)] n1) x
section
variable {ι : Type} {Xs : ι → Cx} {P : Program} {w : World} {K : PySem.W.Frag} {mg : Str → Option Value} {base : Heap} {N : List Str} {k : Nat} {E : XK} {pos q rpos : Pos} {e : Expr} {te : TD} {x : Str} {C : Addr} {f : Str}
theorem raiseX (en : En Xs P w K mg base N k) (T : Xc P w K mg base x C f) (tk : ∀ i, Takes (Xs i) (fun cls d _ H => E cls d H)) (he : DE Xs K E e te) (hk : 2 ≤ k := by decide) (hg : ∀ i, Gl (Xs i) x := by intro _; rfl) (hdb : (x == ("__debug__" : Str)) = false := by decide)
    (hst : ∀ i, starEach [e] (Xs i).env = (false, eval e (Xs i).env) :: starEach [] (Xs i).env := by intro _; rfl) : DS Xs K E (.Raise (some (.Call (.Name x q) [e] [] pos)) none rpos) (dRaise C f te) := by
  obtain ⟨ve, pe, ee⟩ := he
  obtain ⟨fI, fd, iC, tI, F1, hb⟩ := T.ini
  refine ⟨_, fun i => ps_raise (en.hc i) (tk i) (pmk_oex (by rw [en.hK i]; exact T.oex) (by rw [en.hK i]; exact iC) (by rw [en.hK i]; exact tI) (by rw [en.hP i, en.hw i, en.hK i, en.hm i, en.hb i]; exact F1) ((en.hr i).mono hk) (by rw [en.hK i]; exact hb) .nil pass0 (hg i) (by rw [en.hm i]; exact T.at_) (pa_cons (pe i) pa_nil (hst i)) hdb (hst i)), ?_⟩
  intro p H0 Z0 ρ n Z σ H xx De Dv w hx hh _ _ _ _
  refine ee w hx hh fun v H1 d n1 w1 k1 r1 h1 => ⟨by show 1 ≤ 1000; decide, fun a na => ⟨a, v, rfl, upd_same, fun dx ndx ne => ?_⟩⟩
  rw [upd_ne ne] at ndx
  have nap : a ≠ p := fun z => w1.pot.ne (by rw [← z]; exact na)
  have ndp : dx ≠ p := fun z => w1.pot.ne (by rw [← z]; exact ndx)
  refine ⟨rfl, dx, [(f, v)], upd_same, by rw [upd_ne ne, upd_same], ndx, ?_⟩
  have hother : ∀ b o, H1 b = some o → (upd (del (upd (upd (upd H1 a (exo a C none)) dx (exd dx [(f, v)])) a (exo a C (some dx))) a) dx (.xd [(f, v)])) b = some o := fun b o hb => by
    have b1 : b ≠ dx := ne_of_none hb ndx
    have b2 : b ≠ a := ne_of_none hb na
    rw [upd_ne b1, del_ne b2, upd_ne b2, upd_ne b1, upd_ne b2]
    exact hb
  refine hx C [(f, d)] n1 dx [(f, v)] _ h1 ?_ (fun b o nb hb => hother b o (w1.keep b o nb hb)) upd_same (fun z => w1.notin ndx (w1.sub dx z)) ⟨v, [], rfl, r1.mv fun b o zb hb => ⟨fun z0 => zb (w1.sub b z0), hother b o hb⟩, rfl⟩
  obtain ⟨o, s, c, e1, r⟩ := w1.pot
  exact ⟨o, s, c, hother p _ e1, r⟩
end
/-! ### a def that may raise -/
section
variable {P : Program} {w : World} {K : PySem.W.Frag} {mg : Str → Option Value} {base : Heap}
abbrev famX (P : Program) (w : World) (K : PySem.W.Frag) (mg : Str → Option Value) (base : Heap) (N : List Str) (qual : Str) (sc : Scope) (f : Addr) (cdv : Value) (A : Around) (outer : List Env) (s : Shared) (H : Hp) (E : XK) : Unit → Cx :=
  fun _ => cxOf (L2.CX P w) P w K mg base N qual sc f cdv A outer s H E
def DerX (P : Program) (w : World) (K : PySem.W.Frag) (mg : Str → Option Value) (base : Heap) (N : List Str) (qual : Str) (st : Stmt) (k : Nat) (t : TDS) : Prop :=
  ∀ (f : Addr) (cdv : Value) (A : Around) (outer : List Env) (s : Shared) (H : Hp) (E : XK), En (famX P w K mg base N qual (defScope st) f cdv A outer s H E) P w K mg base N k →
    (∀ i, Takes (famX P w K mg base N qual (defScope st) f cdv A outer s H E i) (fun cls d _ H => E cls d H)) → (∀ i, PassesOwn (model (famX P w K mg base N qual (defScope st) f cdv A outer s H E i).prog (famX P w K mg base N qual (defScope st) f cdv A outer s H E i).w) (famX P w K mg base N qual (defScope st) f cdv A outer s H E i).A (famX P w K mg base N qual (defScope st) f cdv A outer s H E i).env (famX P w K mg base N qual (defScope st) f cdv A outer s H E i).xe) → DSs (famX P w K mg base N qual (defScope st) f cdv A outer s H E) K E (defBody st) t
theorem fnX {x qual : Str} {st : Stmt} {f : Addr} {fd : FuncData} {N ps : List Str} {k : Nat} {F : DF} {t : TDS} (G : Fun K x qual st f fd) (S : FnScope N ps (defScope st)) (bt : Bt mg) (len : ∀ ds n Q x, F ds n Q x → ds.length = ps.length) (d : DerX P w K mg base N qual st k t)
    (ht : ∀ ds n Q x, F ds n Q x → t { nx := fun _ n' => Q .non n', rt := Q } (startD N ds) n x) : FnOk P w K mg base (L2.CX P w) (k + 1) f fd ps (spD K F) := by
  refine G.okX S (fun vs H Q E h => ?_) fun cdv A outer s H vs Q E hr h => ?_
  · obtain ⟨ds, Z, p, n, x, Qd, hp, zp, hd, r, hF, _⟩ := h
    rw [← r.len]
    exact len ds n Qd x hF
  · obtain ⟨ds, Z, p, n, x, Qd, hp, zp, hd, r, hF, hQ, hx⟩ := h
    obtain ⟨ts, pt, et⟩ := d f cdv A outer s H E ⟨fun _ => rfl, fun _ => rfl, fun _ => rfl, fun _ => rfl, fun _ => rfl, fun _ => rfl, fun _ => rfl, fun _ => hr, S.nd, bt⟩ (fun _ => takes_of rfl rfl rfl rfl) (fun _ => passes_of rfl)
    refine ⟨ts, pt (), et (start_wd hp zp hd r) hx (ht ds n Qd x hF) (fun ρ' n' Z' σ' H' w' _ h' => ?_) (fun v H' d n' hp' k' r' h' => hQ d n' v H' hp' k' r' h') (fun _ _ _ _ _ _ _ h => h.elim) fun _ _ _ _ _ _ _ h => h.elim⟩
    exact hQ .non n' .non H' w'.pot w'.keep rfl h'
/-- what a method that may raise is known by -/
structure MeX (P : Program) (w : World) (K : PySem.W.Frag) (mg : Str → Option Value) (base : Heap) (C : Addr) (m : Str) (k : Nat) (F : DF) (ps : List Str) : Prop where
  ex : ∃ f fd, FnOk P w K mg base (L2.CX P w) k f fd ps (spD K F) ∧ Binds K fd ps [] ∧ Meth K C m f
theorem MethAt.mx {C f : Addr} {m qual : Str} {st : Stmt} {N ps : List Str} {k : Nat} {F : DF} {t : TDS} (h : MethAt K C m qual st ps f) (hk : PySem.W.keepIn K (.ref f) = true) (S : FnScope N ps (defScope st)) (bt : Bt mg) (d : DerX P w K mg base N qual st k t) (len : ∀ ds n Q x, F ds n Q x → ds.length = ps.length)
    (ht : ∀ ds n Q x, F ds n Q x → t { nx := fun _ n' => Q .non n', rt := Q } (startD N ds) n x) : MeX P w K mg base C m (k + 1) F ps := by
  obtain ⟨fd, G, hb, h1, h2, h3, h4⟩ := h
  exact ⟨f, fd, fnX G S bt len d ht, hb, ⟨h1, h2, hk⟩⟩
end
section
variable {ι : Type} {Xs : ι → Cx} {P : Program} {w : World} {K : PySem.W.Frag} {mg : Str → Option Value} {base : Heap} {N : List Str} {k : Nat} {E : XK} {pos : Pos} {tg iter : Expr} {body : List Stmt} {ti : TDL} {ts : List Nat} {f : TDG} {tb : TDS}
/-- a for whose body may raise -/
theorem forX (en : En Xs P w K mg base N k) (hp : ∀ i, PassesOwn (model (Xs i).prog (Xs i).w) (Xs i).A (Xs i).env (Xs i).xe) (hi : DI Xs K E tg iter ti) (hg : DG Xs K tg ts f) (hb : DSs Xs K E body tb) (hs : ∀ i x, foldedSetIterable iter (Xs i).env x = pure x := by intro _ _; rfl) : DS Xs K E (.For tg iter body [] pos) (dFor ti f tb) := ds_for hp en.hc hi hg hb hs
end
end DL
set_option Elab.async false
set_option linter.all false
set_option maxRecDepth 100000
set_option maxHeartbeats 1000000
set_option autoImplicit false
/-! DL: try .. except, the exception kept; methods that may raise, called by position or by names. -/
namespace DL
open PySem L2
/-- what is raised is wished for at the slots as they are -/
def EvW (K : PySem.W.Frag) (W : WX) (te : TE) (t : TD) : Prop :=
  ∀ {p : Addr} {H0 : Hp} {Z0 : Addr → Prop} {ρ : DSt} {n : Nat} {Z : Addr → Prop} {σ : L2.St} {H : Hp} {x : DX} {Q : DQ} {Qv : VK}, Wd K p H0 Z0 ρ n Z σ H → HE K p H0 Z0 x (fun c d H' => W c d σ H') → t ρ n Q x →
    (∀ v H' d n', Wd K p H0 Z0 ρ n' Z σ H' → Kp p H H' → Rep K Z p H' d v → Q d n' → Qv v H') → te σ H Qv
def StW (K : PySem.W.Frag) (W : WX) (ts : TS) (t : TDS) : Prop :=
  ∀ {p : Addr} {H0 : Hp} {Z0 : Addr → Prop} {ρ : DSt} {n : Nat} {Z : Addr → Prop} {σ : L2.St} {H : Hp} {x : DX} {De : DEnds} {Dv : Ends}, Wd K p H0 Z0 ρ n Z σ H → HE K p H0 Z0 x (fun c d H' => W c d σ H') → t De ρ n x →
    (∀ ρ' n' Z' σ' H', Wd K p H0 Z0 ρ' n' Z' σ' H' → Mv Z H Z' H' → De.nx ρ' n' → Dv.nx σ' H') →
    (∀ v H' d n', PotAt H' p n' → Kp p H0 H' → Rep K Z0 p H' d v → De.rt d n' → Dv.rt v H') → ts Dv σ H
abbrev TrI := List (Addr × Obj) × (Value → Shared → Prop)
abbrev trF (X : Cx) : TrI → Cx := fun q => X.tr q.1 q.2
def We (X : Cx) (K : PySem.W.Frag) (e : Expr) (t : TD) : Prop := ∃ te : WX → TE, (∀ (W : WX) (q : TrI), Takes (trF X q) W → PE (trF X q) e (te W)) ∧ ∀ W, EvW K W (te W) t
def Ws (X : Cx) (K : PySem.W.Frag) (s : Stmt) (t : TDS) : Prop := ∃ ts : WX → TS, (∀ (W : WX) (q : TrI), Takes (trF X q) W → PS (trF X q) s (ts W)) ∧ ∀ W, StW K W (ts W) t
def Wss (X : Cx) (K : PySem.W.Frag) (s : List Stmt) (t : TDS) : Prop := ∃ ts : WX → TS, (∀ (W : WX) (q : TrI), Takes (trF X q) W → PSs (trF X q) s (ts W)) ∧ ∀ W, StW K W (ts W) t
section
variable {X : Cx} {P : Program} {w : World} {K : PySem.W.Frag} {mg : Str → Option Value} {base : Heap} {N : List Str} {k : Nat}
theorem En.tr (e : En (fun _ : Unit => X) P w K mg base N k) : En (trF X) P w K mg base N k := ⟨fun _ => e.hP (), fun _ => e.hw (), fun _ => e.hK (), fun _ => e.hm (), fun _ => e.hb (), fun _ => e.hN (), fun _ => e.hc (), fun _ => e.hr (), e.nd, e.bt⟩
variable {e c a b o : Expr} {te ta tb to : TD} {tt : TDT} {s : Stmt} {s1 s2 : TDS} {pos apos kpos : Pos}
theorem we_up (h : DE (trF X) K E0 e te) : We X K e (zE te) := by
  obtain ⟨v, pe, ev⟩ := h
  exact ⟨fun _ => v, fun _ q _ => pe q, fun _ {_ _ _ _ _ _ _ _ _ _ _} w _ h q => ev w HE.zero h q⟩
theorem we_if (hc : DT (trF X) K E0 c tt) (ha : We X K a ta) (hb : We X K b tb) : We X K (.IfExp c a b pos) (dIf (zT tt) ta tb) := by
  obtain ⟨vc, pc, ec⟩ := hc
  obtain ⟨va, pa, ea⟩ := ha
  obtain ⟨vb, pb, eb⟩ := hb
  refine ⟨fun W => tIf vc (va W) (vb W), fun W q tk => pe_ifExp (pc q) (pa W q tk) (pb W q tk), fun W {p H0 Z0 ρ n Z σ H x Q Qv} w hx h q => ec w HE.zero h fun y H1 n1 w1 k1 h1 => ?_⟩
  cases y with
  | true => exact ea W w1 hx h1 fun v H2 d n2 w2 k2 r h2 => q v H2 d n2 w2 (k1.trans k2) r h2
  | false => exact eb W w1 hx h1 fun v H2 d n2 w2 k2 r h2 => q v H2 d n2 w2 (k1.trans k2) r h2
theorem wss_one (h : Ws X K s s1) : Wss X K [s] s1 := by
  obtain ⟨v, p, e⟩ := h
  exact ⟨v, fun W q tk => pss_one (p W q tk), e⟩
theorem ws_if {as bs : List Stmt} (hc : DT (trF X) K E0 c tt) (ha : Wss X K as s1) (hb : Wss X K bs s2) : Ws X K (.If c as bs pos) (dIfS (zT tt) s1 s2) := by
  obtain ⟨vc, pc, ec⟩ := hc
  obtain ⟨va, pa, ea⟩ := ha
  obtain ⟨vb, pb, eb⟩ := hb
  refine ⟨fun W => tIfS vc (va W) (vb W), fun W q tk => ps_if (pc q) (pa W q tk) (pb W q tk), fun W {p H0 Z0 ρ n Z σ H x De Dv} w hx h qn qr => ec w HE.zero h fun y H1 n1 w1 k1 h1 => ?_⟩
  have m := w.mv k1
  cases y with
  | true => exact ea W w1 hx h1 (fun ρ2 n2 Z2 σ2 H2 w2 m2 => qn ρ2 n2 Z2 σ2 H2 w2 (m.trans m2)) qr
  | false => exact eb W w1 hx h1 (fun ρ2 n2 Z2 σ2 H2 w2 m2 => qn ρ2 n2 Z2 σ2 H2 w2 (m.trans m2)) qr
theorem ws_ret (h : We X K e te) : Ws X K (.Return (some e) pos) (dRet te) := by
  obtain ⟨v, p, ev⟩ := h
  refine ⟨fun W => tRet (v W), fun W q tk => ps_ret (p W q tk), fun W {p H0 Z0 ρ n Z σ H x De Dv} w hx h _ qr => ev W w hx h fun u H' d n' w' k' r' h' => ?_⟩
  exact qr u H' d n' w'.pot w'.keep (r'.mv fun a o z h => ⟨fun q => z (w'.sub a q), h⟩) h'
theorem ws_set (en : En (fun _ : Unit => X) P w K mg base N k) (i : Nat) {y : Str} {pos' : Pos} (he : We X K e te) (hi : N[i]? = some y := by rfl) (hx : Loc X.env.scope y := by first | exact Or.inl rfl | exact Or.inr rfl) (hf : X.fn y = true ∨ X.env.scope.names.lookup y = some .local := by first | exact Or.inl rfl | exact Or.inr rfl)
    (hs : swapsWith e (some (.Name y pos')) pos.line X.env = pure false := by rfl) : Ws X K (.Assign [.Name y pos'] e pos) (dAsg te (gN i)) := by
  obtain ⟨v, p, ev⟩ := he
  refine ⟨fun W => tAsg (v W) (gName i), fun W q tk => ps_set (en.tr.nd' q) (by rw [en.tr.hN q]; exact hi) hx (p W q tk) hs hf, fun W {p H0 Z0 ρ n Z σ H x De Dv} w hx h qn qr => ev W w hx h fun u H' d n' w' k' r' h' => ?_⟩
  obtain ⟨ρ', e1, h'⟩ := h'
  cases e1
  exact qn _ n' Z _ H' (w'.set i r') (w.mv k') h'
/-! ### o.m(..) that may raise -/
def arr {α : Type} (b : Bool) (l : List α) : List α := if b = true then l.reverse else l
theorem vals_arr {vs : List V} {us : List Value} (b : Bool) (h : Vals vs us) : Vals (arr b vs) (arr b us) := by
  cases b with
  | false => exact h
  | true =>
    show Vals vs.reverse us.reverse
    induction h with
    | nil => exact .nil
    | cons h r ih =>
      rw [List.reverse_cons, List.reverse_cons]
      exact ih.append (.cons h .nil)
theorem reps_arr {Z : Addr → Prop} {p : Addr} {H : Hp} {ds : List D} {vs : List V} (b : Bool) (h : Reps K Z p H ds vs) : Reps K Z p H (arr b ds) (arr b vs) := by
  cases b with
  | false => exact h
  | true => exact h.rev
theorem arr_len {α : Type} (b : Bool) (l : List α) : (arr b l).length = l.length := by
  cases b
  · rfl
  · exact List.length_reverse
def dMethW (C : Addr) (m : Str) (F : DF) (b : Bool) (to : TD) (t : TDA) : TD := fun ρ n Q x => to ρ n (fun d n1 => ∃ l, d = .ins C l ∧ l.lookup m = none ∧ t ρ n1 (fun ds n2 => F (d :: arr b ds) n2 Q x) x0) x0
/-- the value side of it -/
def tMethW (C : Addr) (m : Str) (sp : Sp) (b : Bool) (W : WX) (to : TE) (t : TA) : TE := fun σ H Q => to σ H fun y H1 => ∃ a dx fs, y = .ref a ∧ H1 a = some (.ins C dx fs) ∧ fs.lookup m = none ∧ t σ H1 fun zs H2 => sp (.ref a :: arr b zs) H2 Q (WE W σ)
theorem ev_methW {C : Addr} {m : Str} {F : DF} {b : Bool} {W : WX} {vo : TE} {va : TA} {t : TDA} (eo : EvD K E0 vo to) (ea : EvA K E0 va t) : EvW K W (tMethW C m (spD K F) b W vo va) (dMethW C m F b to t) := by
  intro p H0 Z0 ρ n Z σ H x Q Qv w hx h q
  refine eo w HE.zero h fun v1 H1 d1 n1 w1 k1 r1 h1 => ?_
  obtain ⟨l, e1, e2, h1⟩ := h1
  subst e1
  obtain ⟨a, dx, fs, ev, ⟨z, hh⟩, rf⟩ := id r1
  subst ev
  refine ⟨a, dx, fs, rfl, hh, rf.none e2, ea w1 HE.zero h1 fun vs H2 ds n2 w2 k2 r2 h2 => ?_⟩
  refine sp_of w2 hx (ds := .ins C l :: arr b ds) ⟨.ref a, arr b vs, rfl, r1.mv (w1.mv k2), reps_arr b r2⟩ h2 fun v3 H3 d3 n3 w3 k3 r3 h3 => q v3 H3 d3 n3 w3 ((k1.trans k2).trans k3) r3 h3
/-- the call itself, once its values are known -/
theorem run_W {X : Cx} {f : Addr} {fd : FuncData} {ps : List Str} {sp : Sp} {W : WX} {pins : List (Addr × Obj)} {σ : L2.St} {H : Hp} {s : Shared} {Q : VK} {args : Args} {us : List Value} {vs : List V} {kF : Nat} (G : FnOk X.prog X.w X.K X.mg X.base (L2.CX X.prog X.w) kF f fd ps sp) (hr : Room kF X.A) (tk : Takes X W) (I : Inv X pins σ H s)
    (hb : BindsTo s fd args (ps.zip us)) (r : Vals vs us) (h : sp vs H Q (WE W σ)) : wpAny (model X.prog X.w) X.A (PySem.call (.ref f) args.pos args.kw) (EP X pins σ Q) X.xe s := by
  apply wpAny_call
  refine codeAny_mono (G.run X.A X.stack s H args us vs Q (WE W σ) hr I.env0 hb r h) ?_
  intro res t post
  match res, post with
  | .error e, post => exact tk e t (XE.of_call I (fun _ _ _ z => z) post)
  | .ok (.ret u), post => exact I.after post
theorem we_meth (en : En (fun _ : Unit => X) P w K mg base N k) {C : Addr} {m : Str} {ps : List Str} {F : DF} {kF : Nat} {es : List Expr} {t : TDA} {pl : TrI → Sem Bool} (h : MeX P w K mg base C m kF F ps) (cl : Cls K C) (ho : DE (trF X) K E0 o to) (ha : DA (trF X) K E0 (e :: es) t) (hk : kF ≤ k := by decide)
    (hst : ∀ i, starEach (e :: es) (trF X i).env = (false, eval e (trF X i).env) :: starEach es (trF X i).env := by intro _; rfl) (hpl : ∀ i, (backTo pos (starEach es (trF X i).env)).any (·.1) = false := by intro _; rfl)
    (ht : ∀ i, eval (.Call (.Attribute o m apos) (e :: es) [] pos) (trF X i).env = (do
      let ov ← eval o (trF X i).env
      standAt apos.atName
      let (f, first) ← holding [ov] (getMethod ov m (pl i))
      callWith pos f first (backTo pos (starEach (e :: es) (trF X i).env)) (backToKw pos (keywordEach [] (trF X i).env))) := by intro _; rfl) :
    We X K (.Call (.Attribute o m apos) (e :: es) [] pos) (dMethW C m F false to t) := by
  obtain ⟨f, fd, G, hb, M⟩ := h.ex
  obtain ⟨vo, po, eo⟩ := ho
  obtain ⟨va, pa, ea⟩ := ha
  refine ⟨fun W => tMethW C m (spD K F) false W vo va, fun W q tk => ⟨fun pins s σ H Q I hh => ?_⟩, fun W => ev_methW eo ea⟩
  have E := en.tr
  apply PySem.W.methodCall_KW (pl := pl q) (he := ht q)
  apply thn ((po q).run pins s σ H _ I hh)
  rintro u t1 ⟨y, H1, I1, ry, a, dx, fs, rfl, ha1, lk, hh⟩
  have ry : u = Value.ref a := ry
  rw [ry]
  apply getmeth_ok I1 ha1 (by rw [E.hK q]; exact cl) (by rw [E.hK q]; exact M) lk
  apply PySem.W.callWith_K (first := [.ref a]) (h₀ := (trF X q).base) I1.ok.mod.kin (by rw [E.hK q]; exact M.kp) (he := hst q) (hplain := hpl q)
  apply thn ((pa q).run pos pins t1 σ H1 _ I1 hh)
  rintro us t2 ⟨vs, H2, I2, rs, hh⟩
  refine ⟨I2.kIn, ?_⟩
  have rr : Vals (V.ref a :: vs) (Value.ref a :: us) := .cons rfl rs
  have hl : (Value.ref a :: us).length = ps.length := by rw [← rr.length]; exact G.len _ _ _ _ hh
  have bb := hb t2 (Value.ref a :: us) (by rw [← E.hK q]; exact I2.kIn) (by rw [List.append_nil]; exact hl)
  rw [List.append_nil] at bb
  exact run_W (args := { pos := Value.ref a :: us, kw := [] }) (by rw [E.hP q, E.hw q, E.hK q, E.hm q, E.hb q]; exact G) ((E.hr q).mono hk) tk I2 bb rr hh
/-! by names -/
def KwB (K : PySem.W.Frag) (fd : FuncData) (ps ks : List Str) (b : Bool) : Prop := ∀ (s : Shared) (u : Value) (ws : List Value), K.In s.heap → ws.length = ks.length → BindsTo s fd ⟨[u], ks.zip ws⟩ (ps.zip (u :: arr b ws))
structure MeK (P : Program) (w : World) (K : PySem.W.Frag) (mg : Str → Option Value) (base : Heap) (C : Addr) (m : Str) (k : Nat) (F : DF) (ps ks : List Str) (b : Bool) : Prop where
  ex : ∃ f fd, FnOk P w K mg base (L2.CX P w) k f fd ps (spD K F) ∧ KwB K fd ps ks b ∧ Meth K C m f
def DKw {ι : Type} (Xs : ι → Cx) (K : PySem.W.Frag) (kws : List Keyword) (t : TDA) : Prop := ∃ te, (∀ i, PK (Xs i) kws te) ∧ EvA K E0 te t
theorem dk_nil {ι : Type} {Xs : ι → Cx} : DKw Xs K [] dNil := ⟨tNil, fun _ => pk_nil, fun {_ _ _ _ _ _ _ _ _ _ _} w _ h q => q [] _ [] _ w Kp.refl rfl h⟩
theorem dk_cons {ι : Type} {Xs : ι → Cx} {nm : Option Str} {kws : List Keyword} {t : TDA} (ha : DE Xs K E0 e te) (hr : DKw Xs K kws t) : DKw Xs K (⟨nm, e, kpos⟩ :: kws) (dCons te t) := by
  obtain ⟨ve, pe, ee⟩ := ha
  obtain ⟨vr, pr, er⟩ := hr
  refine ⟨tCons ve vr, fun i => pk_cons (pe i) (pr i), fun {_ _ _ _ _ _ _ _ _ _ _} w x h q => ee w x h fun v H1 d n1 w1 k1 r1 h1 => er w1 x h1 fun vs H2 ds n2 w2 k2 r2 h2 => ?_⟩
  exact q (v :: vs) H2 (d :: ds) n2 w2 (k1.trans k2) ⟨v, vs, rfl, r1.mv (w1.mv k2), r2⟩ h2
theorem we_methK (en : En (fun _ : Unit => X) P w K mg base N k) {C : Addr} {m : Str} {ps ks : List Str} {F : DF} {kF : Nat} {b : Bool} {kws : List Keyword} {t : TDA} {pl : TrI → Sem Bool} (h : MeK P w K mg base C m kF F ps ks b) (cl : Cls K C) (ho : DE (trF X) K E0 o to) (ha : DKw (trF X) K kws t) (hk : kF ≤ k := by decide)
    (hall : ∀ i, (backToKw pos (keywordEach kws (trF X i).env)).all (·.1.isSome) = true := by intro _; rfl) (hks : ∀ i, (backToKw pos (keywordEach kws (trF X i).env)).filterMap (·.1) = ks := by intro _; rfl)
    (hpl : ∀ i, ((backTo pos (starEach [] (trF X i).env)).any (·.1) || (backToKw pos (keywordEach kws (trF X i).env)).any (·.1.isNone)) = false := by intro _; rfl) (hlen : ks.length = kws.length := by rfl) (hp1 : ps.length = ks.length + 1 := by rfl)
    (ht : ∀ i, eval (.Call (.Attribute o m apos) [] kws pos) (trF X i).env = (do
      let ov ← eval o (trF X i).env
      standAt apos.atName
      let (f, first) ← holding [ov] (getMethod ov m (pl i))
      callWith pos f first (backTo pos (starEach [] (trF X i).env)) (backToKw pos (keywordEach kws (trF X i).env))) := by intro _; rfl) :
    We X K (.Call (.Attribute o m apos) [] kws pos) (dMethW C m F b to t) := by
  obtain ⟨f, fd, G, hb, M⟩ := h.ex
  obtain ⟨vo, po, eo⟩ := ho
  obtain ⟨va, pa, ea⟩ := ha
  refine ⟨fun W => tMethW C m (spD K F) b W vo va, fun W q tk => ⟨fun pins s σ H Q I hh => ?_⟩, fun W => ev_methW eo ea⟩
  have E := en.tr
  apply PySem.W.methodCall_KW (pl := pl q) (he := ht q)
  apply thn ((po q).run pins s σ H _ I hh)
  rintro u t1 ⟨y, H1, I1, ry, a, dx, fs, rfl, ha1, lk, hh⟩
  have ry : u = Value.ref a := ry
  rw [ry]
  apply getmeth_ok I1 ha1 (by rw [E.hK q]; exact cl) (by rw [E.hK q]; exact M) lk
  apply PySem.W.callWith_KW0 (first := [.ref a]) (h₀ := (trF X q).base) I1.ok.mod.kin (by rw [E.hK q]; exact M.kp) (hall q) (hplain := hpl q)
  apply thn ((pa q).run pos pins t1 σ H1 _ I1 hh)
  rintro ws t2 ⟨zs, H2, I2, rs, hh⟩
  refine ⟨I2.kIn, ?_⟩
  have rr : Vals (V.ref a :: arr b zs) (Value.ref a :: arr b ws) := .cons rfl (vals_arr b rs)
  have hl : (Value.ref a :: arr b ws).length = ps.length := by rw [← rr.length]; exact G.len _ _ _ _ hh
  rw [List.length_cons, arr_len] at hl
  rw [hks q]
  exact run_W (args := { pos := [Value.ref a], kw := ks.zip ws }) (by rw [E.hP q, E.hw q, E.hK q, E.hm q, E.hb q]; exact G) ((E.hr q).mono hk) tk I2 (hb t2 (.ref a) ws (by rw [← E.hK q]; exact I2.kIn) (by omega)) rr hh
/-! ### try: body / except X as n: suite -/
/-- nothing is being filled -/
def plainSt (ρ : DSt) : Prop := ∀ (i : Nat) (s : Sl), ρ[i]? = some (some s) → s.owned = false
section
variable {p : Addr} {H0 H H1 : Hp} {Z0 Z Z1 : Addr → Prop} {ρ ρ1 : DSt} {n n1 : Nat} {σ σ1 : L2.St}
/-- from here on -/
theorem Wd.here (w : Wd K p H0 Z0 ρ n Z σ H) (pl : plainSt ρ) : Wd K p H Z ρ n Z σ H := by
  refine ⟨w.pot, w.zpp, w.dom, fun _ z => z, w.dom, .refl, w.len, fun i s h => ?_, fun i j a s t _ h _ so => ?_⟩
  · obtain ⟨v, ev, r⟩ := w.env i s h
    refine ⟨v, ev, ?_⟩
    have := pl i s h
    cases s with
    | val d => exact r
    | own _ => cases this
    | ownD _ => cases this
  · rw [pl i s h] at so; cases so
/-- as it was from the start on -/
theorem Wd.whole (w : Wd K p H0 Z0 ρ n Z σ H) (w1 : Wd K p H Z ρ1 n1 Z1 σ1 H1) : Wd K p H0 Z0 ρ1 n1 Z1 σ1 H1 := by
  have back : ∀ a, H a = none → H0 a = none := fun a h => by
    cases e : H0 a with
    | none => rfl
    | some o =>
      by_cases q : a = p
      · rw [q] at h; exact absurd h w.pot.ne
      · rw [w.keep a o q e] at h; cases h
  refine ⟨w1.pot, w.zp, w.d0, fun a z => w1.sub a (w.sub a z), w1.dom, w.keep.trans w1.keep, w1.len, fun i s h => ?_, w1.dis⟩
  obtain ⟨v, ev, r⟩ := w1.env i s h
  refine ⟨v, ev, ?_⟩
  cases s with
  | val d => exact r
  | own l => obtain ⟨a, vs, e, z, h0, r⟩ := r; exact ⟨a, vs, e, z, back a h0, r⟩
  | ownD l => obtain ⟨a, vs, e, z, h0, r⟩ := r; exact ⟨a, vs, e, z, back a h0, r⟩
end
abbrev suF (X : Cx) : Addr × List (Addr × Obj) → Cx := fun q => X.suite q.1 q.2
/-- the reading: i is n's slot; c takes the classes that are raised -/
def dTryK (K : PySem.W.Frag) (c : Addr) (i : Nat) (tb ts : TDS) : TDS := fun De ρ n _ => plainSt ρ ∧ tb De ρ n (fun C l n' => PySem.W.exmOne K (.ref C) (.ref c) = some true ∧
  ts { nx := fun ρ' n2 => De.nx (ρ'.set i none) n2, rt := De.rt } (ρ.set i (some (.val (.exc C l)))) n' x0)
theorem try_ds (en : En (fun _ : Unit => X) P w K mg base N k) (i : Nat) {x n : Str} {c : Addr} {body bs : List Stmt} {b : Stmt} {np ep : Pos} {E : XK} (hb : Wss X K body s1) (hs : DSs (suF X) K E0 (b :: bs) s2) (cn : mg x = some (.ref c)) (slot : N[i]? = some n := by rfl) (own : X.stack = X.env :: X.outer := by rfl) (fr : X.env.frame = some X.env.locals := by rfl) (noex : X.ex = [] := by rfl)
    (isl : X.env.kindOf n = some .local := by rfl) (gl : Gl X x := by rfl) (db : (x == ("__debug__" : Str)) = false := by decide) :
    DS (fun _ : Unit => X) K E (.Try body [.ExceptHandler (some (.Name x np)) (some n) (b :: bs) ep] [] [] pos) (dTryK K c i s1 s2) := by
  obtain ⟨vb, pb, eb⟩ := hb
  obtain ⟨vs, ps, es⟩ := hs
  refine ⟨_, fun _ => XI.try_keep own fr noex (en.nd' ()) (by rw [en.hN ()]; exact slot) isl gl db (by rw [en.hm ()]; exact cn) (fun W pn xe tk => pb W (pn, xe) tk) (fun a pn => ps (a, pn)), ?_⟩
  intro p H0 Z0 ρ n Z σ H x De Dv w hx h qn qr qb qc
  obtain ⟨pl, h⟩ := h
  have hK : X.K = K := en.hK ()
  have wh := w.here pl
  have toZ0 : ∀ {d : D} {v : V} {H' : Hp}, Rep K Z p H' d v → Rep K Z0 p H' d v := fun r => r.mv fun a o z h => ⟨fun q => z (w.sub a q), h⟩
  refine eb _ wh (x := fun C l n' => PySem.W.exmOne K (.ref C) (.ref c) = some true ∧ s2 { nx := fun ρ' n2 => De.nx (ρ'.set i none) n2, rt := De.rt } (ρ.set i (some (.val (.exc C l)))) n' x0) ?_ h (fun ρ1 n1 Z1 σ1 H1 w1 m1 h1 => qn ρ1 n1 Z1 σ1 H1 (w.whole w1) m1 h1) (fun v H1 d n1 hp hk r hr => qr v H1 d n1 hp (w.keep.trans hk) (toZ0 r) hr)
  intro C l n1 dx fs H1 ⟨hit, hsu⟩ hp hk hd nz rf
  refine ⟨by rw [hK]; exact hit, fun a na => ?_⟩
  have w1 := wh.kp hk hp
  have w2 := w1.xt (Xt.new (o := XI.exh a (.ref C) (some dx)) na)
  have mv : Mv Z H1 Z (upd H1 a (XI.exh a (.ref C) (some dx))) := w1.mv (Xt.new na).kp
  have w3 := w2.set i (d := .exc C l) (v := .ref a) ⟨a, dx, fs, rfl, ⟨w1.notin na, upd_same⟩, mv dx _ nz hd, rf.mv mv⟩
  have mv0 : Mv Z H Z (upd H1 a (XI.exh a (.ref C) (some dx))) := (w.mv hk).trans mv
  refine es (De := { nx := fun ρ' n2 => De.nx (ρ'.set i none) n2, rt := De.rt }) w3 HE.zero hsu (fun ρ4 n4 Z4 σ4 H4 w4 m4 h4 => ?_) (fun v H4 d n4 hp4 hk4 r4 h4 => qr v H4 d n4 hp4 (w.keep.trans hk4) (toZ0 r4) h4) (fun _ _ _ _ _ _ _ h => h.elim) (fun _ _ _ _ _ _ _ h => h.elim)
  exact qn _ n4 Z4 _ H4 (w.whole (w4.clr i)) (mv0.trans m4) h4
end
end DL
set_option Elab.async false
set_option linter.all false
set_option maxRecDepth 100000
set_option maxHeartbeats 1000000
set_option autoImplicit false
/-! DL: displays of dicts; texts and lists that are told apart; a dict's keys walked while it is locked. -/
namespace DL
open PySem L2
section
variable {ι : Type} {Xs : ι → Cx} {P : Program} {w : World} {K : PySem.W.Frag} {mg : Str → Option Value} {base : Heap} {N : List Str} {k : Nat}
variable {E : XK} {pos p1 p2 : Pos} {tg a b e : Expr} {ta tb te : TD}
theorem dct0 : DE Xs K E (.Dict [] [] pos) (dC (.dct [])) :=
  ⟨tDNewK, fun _ => pe_dnewK, fun w _ h q a na => q _ _ (.dct []) _ (w.xt (Xt.new na)) (Xt.new na).kp ⟨a, [], rfl, ⟨w.notin na, upd_same⟩, rfl⟩ h⟩
theorem dct1 {s : Str} {i : Int} {j j' : Nat} : DE Xs K E (.Dict [some (.Constant (.str s) j p1)] [.Constant (.int i) j' p2] pos) (dC (.dct [(Sum.inr s, .int i)])) := by
  refine ⟨tDisp [(tC (.str s), tC (.int i))], fun _ => pe_disp (pps_cons pe_str pe_int pps_nil) rfl rfl (by simp) (by show 1 ≤ 15; decide), fun w _ h q a na => ⟨upd_same, [(Sum.inr s, .int i)], rfl, by show 1 ≤ 15; decide, ?_⟩⟩
  rw [upd_upd]
  exact q _ _ (.dct [(Sum.inr s, .int i)]) _ (w.xt (Xt.new na)) (Xt.new na).kp ⟨a, [(Sum.inr s, .int i)], rfl, ⟨w.notin na, upd_same⟩, ⟨.int i, [], rfl, rfl, rfl⟩⟩ h
/-! ### != of texts, of a list and the empty one -/
def neS : D → D → Option D
  | .str a, .str b => some (.bl (!decide (a = b)))
  | _, _ => none
theorem od_neS : OpD K rNe neS := by
  intro Z p H d1 d2 d x y Q hz r1 r2 e q
  cases d1 with
  | str a =>
    cases d2 with
    | str b =>
      cases e; cases r1; cases r2
      refine ⟨rfl, q _ _ .refl ?_⟩
      show V.bl _ = V.bl _
      rw [Bool.eq_iff_iff.mpr (by simp : (!decide (V.str a = V.str b)) = true ↔ (!decide (a = b)) = true)]
    | _ => cases e
  | _ => cases d2 <;> cases e
theorem eNeS (ha : DE Xs K E a ta) (hb : DE Xs K E b tb) : DE Xs K E (.Compare a [.NotEq] [b] pos) (dOp neS ta tb) := de_cmp (r := rNe) (fun _ => op_ne) od_neS ha hb (nomark _)
theorem tNeS (ha : DE Xs K E a ta) (hb : DE Xs K E b tb) : DT Xs K E (.Compare a [.NotEq] [b] pos) (dTest (dOp neS ta tb)) := dt_cmp (r := rNe) (fun _ => op_ne) od_neS ha hb (nomark _)
def rNeL (K : PySem.W.Frag) : R2 := fun x y H Q => ∃ a b xs, x = .ref a ∧ y = .ref b ∧ SqL K H a xs ∧ SqL K H b [] ∧ Q (.bl (!xs.isEmpty)) H
theorem op_neL {X : Cx} (hu : X.A.units + 64 < cLine) : OpR X (compareOp .NotEq) (rNeL X.K) := by
  rintro pins s σ H x y v u Q I rx ry ⟨a, b, xs, rfl, rfl, ha, hb, q⟩
  cases rx; cases ry
  obtain ⟨is, ra, ⟨oa, na, ea, ca, _, da⟩, _⟩ := I.list ha
  obtain ⟨js, rb, ⟨ob, nb, eb, cb, _, db⟩, _⟩ := I.list hb
  cases rb
  have la : s.heap.IsList a is.toArray := ⟨oa, ea, ca, na, da⟩
  have lb : s.heap.IsList b (List.toArray []) := ⟨ob, eb, cb, nb, db⟩
  cases ra with
  | nil => exact (SeqAt.RcNeAt.lists (e := fun _ => true) la lb rfl (by omega) (fun j h _ => absurd h (Nat.not_lt_zero _))) _ _ _ _ ⟨.bl false, H, I, rfl, q⟩
  | cons h t => exact (SeqAt.RcNeAt.lists_lengths la lb (by simp) (by omega)) _ _ _ _ ⟨.bl true, H, I, rfl, q⟩
def neL : D → D → Option D
  | .lst l, .lst [] => some (.bl (!l.isEmpty))
  | _, _ => none
theorem od_neL : OpD K (rNeL K) neL := by
  intro Z p H d1 d2 d x y Q hz r1 r2 e q
  match d1, d2, e with
  | .lst l, .lst [], e =>
    cases e
    obtain ⟨a, vs, rfl, ha, rs⟩ := r1
    obtain ⟨b, us, rfl, hb, ru⟩ := r2
    rw [show us = [] from ru] at hb
    refine ⟨a, b, vs, rfl, rfl, sqL_of ha, sqL_of hb, q _ _ .refl ?_⟩
    show V.bl _ = V.bl _
    have := rs.len
    cases l <;> cases vs <;> first | rfl | (simp at this)
theorem tNeL (en : En Xs P w K mg base N k) (ha : DE Xs K E a ta) (hb : DE Xs K E b tb) : DT Xs K E (.Compare a [.NotEq] [b] pos) (dTest (dOp neL ta tb)) :=
  dt_cmp (r := rNeL K) (fun i => by have := op_neL (X := Xs i) (en.u64 i); rw [en.hK i] at this; exact this) od_neL ha hb (nomark _)
/-! ### a locked dict -/
def dKeys (t : TD) : TDL := fun ρ n Q x => t ρ n (fun d n1 => ∃ l, d = .dlk l ∧ Q (l.map fun q => keyD q.1) n1) x
theorem repk_at {Z : Addr → Prop} {p : Addr} {H : Hp} : ∀ {l : List (Key × D)} {kvs : List (Key × V)} {i : Nat} {c : Key} {v : V}, RepK K Z p H l kvs → kvs[i]? = some (c, v) → (l.map fun q => keyD q.1)[i]? = some (keyD c)
  | [], _, i, c, v, h, e => by rw [show _ = [] from h] at e; simp at e
  | q :: l, _, 0, c, v, ⟨u, r, e, _, _⟩, k => by
    rw [e] at k
    injection k with k
    injection k with k1 k2
    simp [k1]
  | q :: l, _, i + 1, c, v, ⟨u, r, e, _, h⟩, k => by
    rw [e] at k
    exact repk_at (i := i) h k
theorem inK (he : DE Xs K E e te) : DI Xs K E tg e (dKeys te) := by
  obtain ⟨v, pe, ev⟩ := he
  refine ⟨iKeys v, fun i => pi_keys (pe i), fun {p H0 Z0 ρ n Z σ H x Q R} w x hh q => ev w x hh fun u H1 d n1 w1 k1 r1 ⟨l, e1, h1⟩ => ?_⟩
  subst e1
  obtain ⟨a, o, kvs, ea, hs, rs⟩ := r1
  have hl : (l.map fun q => keyD q.1).length = kvs.length := by rw [List.length_map, rs.len]
  refine ⟨a, o, ea, .inl ⟨kvs, hs.2, q _ H1 _ n1 w1 k1 ⟨fun i Z' H' m hi => ⟨(m a _ hs.1 hs.2).2, by rw [← hl]; exact hi⟩, fun i Z' H' x H2 m hz hi y => ?_, fun Z' H' m => ⟨(m a _ hs.1 hs.2).2, by rw [hl]; exact Nat.le_refl _⟩⟩ h1⟩⟩
  obtain ⟨e2, c, u, e3, e4⟩ := y
  subst e2 e4
  exact ⟨keyD c, repk_at rs e3, .refl, rep_key c⟩
/-- d[k], the dict locked -/
def dIxK (ta tb : TD) : TD := fun ρ n Q x => ta ρ n (fun d n1 => ∃ l, d = .dlk l ∧ tb ρ n1 (fun z n2 => ∃ (c : Key) (r : D), z = keyD c ∧ lookD l c = some r ∧ Q r n2) x) x
theorem ixK (en : En Xs P w K mg base N k) (ha : DE Xs K E a ta) (hb : DE Xs K E b tb) (hs : NoSl b := by intro _ _; rfl) : DE Xs K E (.Subscript a b pos) (dIxK ta tb) := by
  obtain ⟨va, pa, ea⟩ := ha
  obtain ⟨vb, pb, eb⟩ := hb
  refine ⟨tDGet va vb, fun i => pe_dget (by have := en.u64 i; omega) (pa i) (pb i) hs, fun w x h q => ea w x h fun v1 H1 d1 n1 w1 k1 r1 ⟨l, e1, h1⟩ => ?_⟩
  subst e1
  refine eb w1 x h1 fun v2 H2 d2 n2 w2 k2 r2 ⟨c, r, e2, e3, h2⟩ => ?_
  obtain ⟨a1, o, kvs, e4, hs1, rk⟩ := r1.mv (w1.mv k2)
  subst e2 e4
  obtain rfl := key_of r2
  rcases rk.look c with ⟨d, v, q1, q2, q3⟩ | ⟨q1, q2⟩
  · rw [q1] at e3
    cases e3
    exact ⟨a1, v, rfl, .inl ⟨kvs, c, .inr ⟨o, hs1.2⟩, rfl, q2.symm⟩, q v H2 r n2 w2 (k1.trans k2) q3 h2⟩
  · rw [q1] at e3; cases e3
end
/-! ### locking -/
mutual
/-- no dict in it -/
def D.nd : D → Bool
  | .tup l => ndL l
  | .lst l => ndL l
  | .ins _ l => ndF l
  | .exc _ l => ndF l
  | .dct _ => false
  | .dlk _ => false
  | .odd _ _ _ => false
  | .non => true
  | .bl _ => true
  | .int _ => true
  | .str _ => true
  | .ty _ => true
  | .con _ => true
  | .pot => true
def ndL : List D → Bool
  | [] => true
  | d :: l => D.nd d && ndL l
def ndF : List (Str × D) → Bool
  | [] => true
  | q :: l => D.nd q.2 && ndF l
end
/-- a dict stands there, locked or not -/
def DictAt (H : Hp) (a : Addr) : Prop := (∃ kvs, H a = some (.dK kvs)) ∨ ∃ o kvs, H a = some (.frz o (.dK kvs))
section
variable {K : PySem.W.Frag} {Z : Addr → Prop} {p a : Addr} {H : Hp} {u : HO}
theorem DictAt.ne (h : DictAt H a) {b : Addr} {o : HO} (e : H b = some o) (n1 : ∀ kvs, o ≠ .dK kvs) (n2 : ∀ o' kvs, o ≠ .frz o' (.dK kvs)) : upd H a u b = some o := by
  rw [upd_ne]
  · exact e
  · intro z
    subst z
    rcases h with ⟨kvs, h⟩ | ⟨o', kvs, h⟩
    · rw [e] at h; exact n1 kvs (Option.some.inj h)
    · rw [e] at h; exact n2 o' kvs (Option.some.inj h)
mutual
theorem Rep.lk (h : DictAt H a) : ∀ {d : D} {v : V}, d.nd = true → Rep K Z p H d v → Rep K Z p (upd H a u) d v
  | .non, _, _, r => r
  | .bl _, _, _, r => r
  | .int _, _, _, r => r
  | .str _, _, _, r => r
  | .ty _, _, _, r => r
  | .con _, _, _, r => r
  | .pot, _, _, r => r
  | .dct _, _, n, _ => nomatch n
  | .dlk _, _, n, _ => nomatch n
  | .odd _ _ _, _, n, _ => nomatch n
  | .tup l, _, n, ⟨b, vs, e, w, r⟩ => by
    refine ⟨b, vs, e, ?_, Reps.lk h n r⟩
    rcases w with ⟨z, w | ⟨o, w⟩⟩ | w
    · exact .inl ⟨z, .inl (h.ne w (fun _ => nofun) (fun _ _ => nofun))⟩
    · exact .inl ⟨z, .inr ⟨o, h.ne w (fun _ => nofun) (fun _ _ => nofun)⟩⟩
    · exact .inr w
  | .lst l, _, n, ⟨b, vs, e, w, r⟩ => ⟨b, vs, e, ⟨w.1, h.ne w.2 (fun _ => nofun) (fun _ _ => nofun)⟩, Reps.lk h n r⟩
  | .ins C l, _, n, ⟨b, dx, fs, e, w, r⟩ => ⟨b, dx, fs, e, ⟨w.1, h.ne w.2 (fun _ => nofun) (fun _ _ => nofun)⟩, RepF.lk h n r⟩
  | .exc C l, _, n, ⟨b, dx, fs, e, w, w2, r⟩ => ⟨b, dx, fs, e, ⟨w.1, h.ne w.2 (fun _ => nofun) (fun _ _ => nofun)⟩, ⟨w2.1, h.ne w2.2 (fun _ => nofun) (fun _ _ => nofun)⟩, RepF.lk h n r⟩
theorem Reps.lk (h : DictAt H a) : ∀ {l : List D} {vs : List V}, ndL l = true → Reps K Z p H l vs → Reps K Z p (upd H a u) l vs
  | [], _, _, r => r
  | d :: l, _, n, ⟨v, r, e, x, y⟩ => by
    have n : (d.nd && ndL l) = true := n
    rw [Bool.and_eq_true] at n
    exact ⟨v, r, e, Rep.lk h n.1 x, Reps.lk h n.2 y⟩
theorem RepF.lk (h : DictAt H a) : ∀ {l : List (Str × D)} {vs : List (Str × V)}, ndF l = true → RepF K Z p H l vs → RepF K Z p (upd H a u) l vs
  | [], _, _, r => r
  | d :: l, _, n, ⟨v, r, e, x, y⟩ => by
    have n : (d.2.nd && ndF l) = true := n
    rw [Bool.and_eq_true] at n
    exact ⟨v, r, e, Rep.lk h n.1 x, RepF.lk h n.2 y⟩
end
def ndK (l : List (Key × D)) : Prop := ∀ q ∈ l, q.2.nd = true
theorem RepK.lk (h : DictAt H a) : ∀ {l : List (Key × D)} {vs : List (Key × V)}, ndK l → RepK K Z p H l vs → RepK K Z p (upd H a u) l vs
  | [], _, _, r => r
  | d :: l, _, n, ⟨v, r, e, x, y⟩ => ⟨v, r, e, Rep.lk h (n d List.mem_cons_self) x, RepK.lk h (fun q m => n q (List.mem_cons_of_mem _ m)) y⟩
end
/-- nothing is being filled, no dict but at i -/
def lockOk (i : Nat) (ρ : DSt) : Prop := ∀ (j : Nat) (s : Sl), j ≠ i → ρ[j]? = some (some s) → ∃ d, s = .val d ∧ d.nd = true
section
variable {ι : Type} {Xs : ι → Cx} {P : Program} {w : World} {K : PySem.W.Frag} {mg : Str → Option Value} {base : Heap} {N : List Str} {k : Nat}
variable {E : XK} {e : Expr} {te : TD} {st : Stmt} {ts : TDS}
section
variable {p : Addr} {H0 H : Hp} {Z0 Z : Addr → Prop} {ρ : DSt} {n : Nat} {σ : L2.St}
/-- the world with the dict at slot i locked -/
theorem Wd.lk (w : Wd K p H0 Z0 ρ n Z σ H) {i : Nat} {l : List (Key × D)} {a : Addr} {kvs : List (Key × V)} (od : Obj) (ok : lockOk i ρ) (hi : ρ[i]? = some (some (.val (.dct l)))) (hσ : σ[i]? = some (some (.ref a))) (nz : ¬ Z a) (ha : H a = some (.dK kvs)) (r : RepK K Z p H l kvs) (nd : ndK l) :
    Wd K p (upd H a (.frz od (.dK kvs))) Z (ρ.set i (some (.val (.dlk l)))) n Z σ (upd H a (.frz od (.dK kvs))) := by
  have da : DictAt H a := .inl ⟨kvs, ha⟩
  have ap : a ≠ p := fun z => nz (z ▸ w.zpp)
  have dom : ∀ b, Z b → upd H a (.frz od (.dK kvs)) b ≠ none := fun b z => by rw [upd_ne (fun q : b = a => nz (by rw [← q]; exact z))]; exact w.dom b z
  have hil : i < ρ.length := (List.getElem?_eq_some_iff.mp hi).1
  refine ⟨?_, w.zpp, dom, fun _ z => z, dom, .refl, by rw [List.length_set]; exact w.len, fun j s h => ?_, fun j m b s t ne hj hm sj sm ej => ?_⟩
  · obtain ⟨o, s, c, q, r⟩ := w.pot
    exact ⟨o, s, c, by rw [upd_ne (Ne.symm ap)]; exact q, r⟩
  · by_cases e : i = j
    · subst e
      rw [List.getElem?_set_self hil] at h
      cases h
      exact ⟨.ref a, hσ, a, od, kvs, rfl, ⟨nz, upd_same⟩, r.lk da nd⟩
    · rw [List.getElem?_set_ne e] at h
      obtain ⟨v, ev, rr⟩ := w.env j s h
      obtain ⟨d, rfl, hd⟩ := ok j s (Ne.symm e) h
      exact ⟨v, ev, Rep.lk da hd rr⟩
  · by_cases e : i = j
    · subst e
      rw [List.getElem?_set_self hil] at hj
      cases hj; cases sj
    · rw [List.getElem?_set_ne e] at hj
      obtain ⟨d, rfl, hd⟩ := ok j s (Ne.symm e) hj
      cases sj
end
def dLock (i : Nat) (te : TD) : TD := fun ρ n Q _ => ∃ l, ρ[i]? = some (some (.val (.dct l))) ∧ ndK l ∧ lockOk i ρ ∧ te (ρ.set i (some (.val (.dlk l)))) n (fun d n1 => d.nd = true ∧ Q d n1) x0
theorem lockE (i : Nat) (h : DE Xs K E0 e te) : DE Xs K E0 e (dLock i te) := by
  obtain ⟨v, pe, ev⟩ := h
  refine ⟨tLockE v, fun j => pe_lock (pe j), ?_⟩
  intro p H0 Z0 ρ n Z σ H x Q Qv w hx ⟨l, hi, nd, ok, h⟩ q
  obtain ⟨u, hσ, a, kvs, rfl, ⟨nz, ha⟩, rk⟩ := w.env i _ hi
  refine ⟨a, .dK kvs, ha, trivial, fun od => ev (w.lk od ok hi hσ nz ha rk nd) HE.zero h fun v1 H1 d1 n1 w1 k1 r1 h1 => ?_⟩
  have ap : a ≠ p := fun z => nz (z ▸ w.zpp)
  have h1a : H1 a = some (.frz od (.dK kvs)) := k1 a _ ap upd_same
  refine ⟨h1a, ?_⟩
  have kk : Kp p H (upd H1 a (.dK kvs)) := fun b o nb hb => by
    by_cases z : b = a
    · subst z; rw [upd_same]; rw [ha] at hb; exact hb
    · rw [upd_ne z]; exact k1 b o nb (by rw [upd_ne z]; exact hb)
  have pot : PotAt (upd H1 a (.dK kvs)) p n1 := by
    obtain ⟨o, s, c, q, r⟩ := w1.pot
    exact ⟨o, s, c, by rw [upd_ne (Ne.symm ap)]; exact q, r⟩
  exact q v1 _ d1 n1 (w.kp kk pot) kk (Rep.lk (.inr ⟨od, kvs, h1a⟩) h1.1 r1) h1.2
/-- a statement that goes on behind; the dict's slot is not looked at any more -/
def dLockS (i : Nat) (ts : TDS) : TDS := fun De ρ n _ => ∃ l, ρ[i]? = some (some (.val (.dct l))) ∧ ndK l ∧ lockOk i ρ ∧ ts { nx := fun ρ' n' => lockOk i ρ' ∧ De.nx (ρ'.set i none) n', rt := fun _ _ => False } (ρ.set i (some (.val (.dlk l)))) n x0
theorem lockS (i : Nat) (h : DS Xs K E0 st ts) : DS Xs K E0 st (dLockS i ts) := by
  obtain ⟨v, ps, ev⟩ := h
  refine ⟨tLock v, fun j => ps_lock (ps j), ?_⟩
  intro p H0 Z0 ρ n Z σ H x De Dv w hx ⟨l, hi, nd, ok, h⟩ qn qr qb qc
  obtain ⟨u, hσ, a, kvs, rfl, ⟨nz, ha⟩, rk⟩ := w.env i _ hi
  have ap : a ≠ p := fun z => nz (z ▸ w.zpp)
  refine ⟨a, .dK kvs, ha, trivial, fun od => ?_⟩
  refine ev (De := { nx := fun ρ' n' => lockOk i ρ' ∧ De.nx (ρ'.set i none) n', rt := fun _ _ => False }) (w.lk od ok hi hσ nz ha rk nd) HE.zero h (fun ρ' n' Z' σ' H' w' m' h' => ?_) (fun _ _ _ _ _ _ _ z => z.elim) (fun _ _ _ _ _ _ _ z => z.elim) (fun _ _ _ _ _ _ _ z => z.elim)
  obtain ⟨nz', h1a⟩ := m' a _ nz upd_same
  refine ⟨h1a, ?_⟩
  have da : DictAt H' a := .inr ⟨od, kvs, h1a⟩
  have mv : Mv Z H Z' (upd H' a (.dK kvs)) := fun b o zb hb => by
    by_cases z : b = a
    · subst z; rw [upd_same]; rw [ha] at hb; exact ⟨nz', hb⟩
    · rw [upd_ne z]; exact m' b o zb (by rw [upd_ne z]; exact hb)
  have kk : Kp p H0 (upd H' a (.dK kvs)) := fun b o nb hb => by
    have hb := w.keep b o nb hb
    by_cases z : b = a
    · subst z; rw [upd_same]; rw [ha] at hb; exact hb
    · rw [upd_ne z]; exact w'.keep b o nb (by rw [upd_ne z]; exact hb)
  have pot : PotAt (upd H' a (.dK kvs)) p n' := by
    obtain ⟨o, s, c, q, r⟩ := w'.pot
    exact ⟨o, s, c, by rw [upd_ne (Ne.symm ap)]; exact q, r⟩
  have w2 : Wd K p H0 Z0 (ρ'.set i none) n' Z' σ' (upd H' a (.dK kvs)) := by
    refine ⟨pot, w.zp, w.d0, fun b z => w'.sub b (w.sub b z), fun b z => ?_, kk, by rw [List.length_set]; exact w'.len, fun j s hj => ?_, fun j m b s t ne hj hm sj sm ej => ?_⟩
    · by_cases q : b = a
      · rw [q, upd_same]; exact fun z => nomatch z
      · rw [upd_ne q]; exact w'.dom b z
    · by_cases e : i = j
      · subst e
        have hl : i < ρ'.length := by
          have := (List.getElem?_eq_some_iff.mp hj).1
          rwa [List.length_set] at this
        rw [List.getElem?_set_self hl] at hj
        cases hj
      · rw [List.getElem?_set_ne e] at hj
        obtain ⟨v, ev, rr⟩ := w'.env j s hj
        obtain ⟨d, rfl, hd⟩ := h'.1 j s (Ne.symm e) hj
        exact ⟨v, ev, Rep.lk da hd rr⟩
    · by_cases e : i = j
      · subst e
        have hl : i < ρ'.length := by
          have := (List.getElem?_eq_some_iff.mp hj).1
          rwa [List.length_set] at this
        rw [List.getElem?_set_self hl] at hj
        cases hj
      · rw [List.getElem?_set_ne e] at hj
        obtain ⟨d, rfl, hd⟩ := h'.1 j s (Ne.symm e) hj
        cases sj
  exact qn _ n' Z' σ' _ w2 mv h'.2
end
end DL
set_option Elab.async false
set_option linter.all false
set_option maxRecDepth 100000
set_option maxHeartbeats 1000000
set_option autoImplicit false
/-! DL: a dict that a def made itself: read, then written. -/
namespace DL
open PySem L2
section
variable {K : PySem.W.Frag} {Z Z' : Addr → Prop} {p a c : Addr} {H H' : Hp} {u : HO}
mutual
/-- what has no dict in it does not care whether a dict may change -/
theorem Rep.zd (h : DictAt H c) (s : ∀ b, Z' b → Z b ∨ b = c) : ∀ {d : D} {v : V}, d.nd = true → Rep K Z p H d v → Rep K Z' p H d v
  | .non, _, _, r => r
  | .bl _, _, _, r => r
  | .int _, _, _, r => r
  | .str _, _, _, r => r
  | .ty _, _, _, r => r
  | .con _, _, _, r => r
  | .pot, _, _, r => r
  | .dct _, _, n, _ => nomatch n
  | .dlk _, _, n, _ => nomatch n
  | .odd _ _ _, _, n, _ => nomatch n
  | .tup l, _, n, ⟨b, vs, e, w, r⟩ => by
    refine ⟨b, vs, e, ?_, Reps.zd h s n r⟩
    rcases w with ⟨z, w⟩ | w
    · refine .inl ⟨fun y => (s b y).elim z fun e2 => ?_, w⟩
      subst e2
      rcases w with w | ⟨o, w⟩ <;> rcases h with ⟨k, h⟩ | ⟨o', k, h⟩ <;> rw [w] at h <;> cases h
    · exact .inr w
  | .lst l, _, n, ⟨b, vs, e, w, r⟩ => by
    refine ⟨b, vs, e, ⟨fun y => (s b y).elim w.1 fun e2 => ?_, w.2⟩, Reps.zd h s n r⟩
    subst e2
    rcases h with ⟨k, h⟩ | ⟨o', k, h⟩ <;> rw [w.2] at h <;> cases h
  | .ins C l, _, n, ⟨b, dx, fs, e, w, r⟩ => by
    refine ⟨b, dx, fs, e, ⟨fun y => (s b y).elim w.1 fun e2 => ?_, w.2⟩, RepF.zd h s n r⟩
    subst e2
    rcases h with ⟨k, h⟩ | ⟨o', k, h⟩ <;> rw [w.2] at h <;> cases h
  | .exc C l, _, n, ⟨b, dx, fs, e, w, w2, r⟩ => by
    refine ⟨b, dx, fs, e, ⟨fun y => (s b y).elim w.1 fun e2 => ?_, w.2⟩, ⟨fun y => (s dx y).elim w2.1 fun e2 => ?_, w2.2⟩, RepF.zd h s n r⟩
    · subst e2
      rcases h with ⟨k, h⟩ | ⟨o', k, h⟩ <;> rw [w.2] at h <;> cases h
    · subst e2
      rcases h with ⟨k, h⟩ | ⟨o', k, h⟩ <;> rw [w2.2] at h <;> cases h
theorem Reps.zd (h : DictAt H c) (s : ∀ b, Z' b → Z b ∨ b = c) : ∀ {l : List D} {vs : List V}, ndL l = true → Reps K Z p H l vs → Reps K Z' p H l vs
  | [], _, _, r => r
  | d :: l, _, n, ⟨v, r, e, x, y⟩ => by
    have n : (d.nd && ndL l) = true := n
    rw [Bool.and_eq_true] at n
    exact ⟨v, r, e, Rep.zd h s n.1 x, Reps.zd h s n.2 y⟩
theorem RepF.zd (h : DictAt H c) (s : ∀ b, Z' b → Z b ∨ b = c) : ∀ {l : List (Str × D)} {vs : List (Str × V)}, ndF l = true → RepF K Z p H l vs → RepF K Z' p H l vs
  | [], _, _, r => r
  | d :: l, _, n, ⟨v, r, e, x, y⟩ => by
    have n : (d.2.nd && ndF l) = true := n
    rw [Bool.and_eq_true] at n
    exact ⟨v, r, e, Rep.zd h s n.1 x, RepF.zd h s n.2 y⟩
end
end
section
variable {K : PySem.W.Frag} {p : Addr} {H0 H H' : Hp} {Z0 Z : Addr → Prop} {ρ : DSt} {n n' : Nat} {σ : L2.St} {c : Addr} {l : List (Key × D)} {kvs : List (Key × V)}
/-- a dict that was just made may change from now on -/
theorem Wd.grow (w : Wd K p H0 Z0 ρ n Z σ H) (hc : H c = none) (k : Kp p H H') (q : PotAt H' p n') (hc' : H' c ≠ none) : Wd K p H0 Z0 ρ n' (zAdd Z c) σ H' := by
  have w' := w.kp k q
  have cp : c ≠ p := fun e => w.pot.ne (by rw [← e]; exact hc)
  have m : Mv Z H (zAdd Z c) H' := fun a o z h => ⟨fun y => y.elim z fun e => (by rw [e, hc] at h; exact nomatch h), k a o (fun e => z (by rw [e]; exact w.zpp)) h⟩
  refine ⟨q, w.zp, w.d0, fun a z => .inl (w.sub a z), fun a z => ?_, w'.keep, w.len, fun i s h => ?_, w.dis⟩
  · rcases z with z | rfl
    · exact w'.dom a z
    · exact hc'
  · obtain ⟨v, ev, r⟩ := w.env i s h
    refine ⟨v, ev, ?_⟩
    cases s with
    | val d => exact Rep.mv m r
    | own l =>
      obtain ⟨a, vs, e1, z, h0, h1, r⟩ := r
      exact ⟨a, vs, e1, .inl z, h0, k a _ (w.own_ne h0) h1, r.mv m⟩
    | ownD l =>
      obtain ⟨a, vs, e1, z, h0, h1, r⟩ := r
      exact ⟨a, vs, e1, .inl z, h0, k a _ (w.own_ne h0) h1, r.mv m⟩
/-- .. and comes to a slot -/
theorem Wd.toOwn (w : Wd K p H0 Z0 ρ n Z σ H) (i : Nat) (zc : Z c) (h0 : H0 c = none) (hc : H c = some (.dK kvs)) (r : RepK K Z p H l kvs) (oth : ∀ (j : Nat) (s : Sl), s.owned = true → ρ[j]? = some (some s) → σ[j]? ≠ some (some (.ref c))) : Wd K p H0 Z0 (ρ.set i (some (.ownD l))) n Z (σ.set i (some (.ref c))) H := by
  refine ⟨w.pot, w.zp, w.d0, w.sub, w.dom, w.keep, by rw [List.length_set, List.length_set]; exact w.len, fun j s h => ?_, fun j k b s t ne hj hk sj sk e => ?_⟩
  · by_cases ej : i = j
    · subst ej
      have hl : i < ρ.length := by
        have := (List.getElem?_eq_some_iff.mp h).1
        rwa [List.length_set] at this
      rw [List.getElem?_set_self hl] at h
      cases h
      exact ⟨.ref c, List.getElem?_set_self (by rw [w.len]; exact hl), c, kvs, rfl, zc, h0, hc, r⟩
    · rw [List.getElem?_set_ne ej] at h ⊢
      exact w.env j s h
  · have lt : ∀ {m : Nat} {u : Option Sl}, (ρ.set i (some (.ownD l)))[m]? = some u → m < ρ.length := fun h => by
      have := (List.getElem?_eq_some_iff.mp h).1
      rwa [List.length_set] at this
    by_cases ej : i = j
    · subst ej
      rw [List.getElem?_set_self (by rw [w.len]; exact lt hj)] at e
      cases e
      rw [List.getElem?_set_ne ne] at hk ⊢
      exact oth k t sk hk
    · rw [List.getElem?_set_ne ej] at hj e
      by_cases ek : i = k
      · subst ek
        rw [List.getElem?_set_self (by rw [w.len]; exact lt hk)]
        intro z
        cases z
        exact oth j s sj hj e
      · rw [List.getElem?_set_ne ek] at hk ⊢
        exact w.dis j k b s t ne hj hk sj sk e
theorem Wd.noref (w : Wd K p H0 Z0 ρ n Z σ H) (hc : H c = none) : ∀ (j : Nat) (s : Sl), s.owned = true → ρ[j]? = some (some s) → σ[j]? ≠ some (some (.ref c)) := fun j s so h e => by
  obtain ⟨v, ev, r⟩ := w.env j s h
  rw [e] at ev
  cases ev
  cases s with
  | val d => cases so
  | own l => obtain ⟨b, vs, eb, zb, _, hb, _⟩ := r; cases eb; rw [hc] at hb; cases hb
  | ownD l => obtain ⟨b, vs, eb, zb, _, hb, _⟩ := r; cases eb; rw [hc] at hb; cases hb
end
section
variable {ι : Type} {Xs : ι → Cx} {P : Program} {w : World} {K : PySem.W.Frag} {mg : Str → Option Value} {base : Heap} {N : List Str} {k kF : Nat} {E : XK} {pos q : Pos} {a b e : Expr} {es : List Expr} {ta tb te : TD} {t : TDA} {F : DF} {x : Str}
abbrev rDct (K : PySem.W.Frag) : List V → Hp → VK → Prop := fun xs H Q => ∃ (a : Addr) (ps : List Addr) (kvs : List (Key × V)), xs = [.ref a] ∧ SqL K H a (ps.map V.ref) ∧ Paired (fun p kv => SqT K H p [kV kv.1, kv.2]) ps kvs ∧ ∀ p, H p = none → Q (.ref p) (upd H p (.dK (mergeK [] kvs)))
theorem pe_dct (en : En Xs P w K mg base N k) {va : TA} {i : ι} (pa : PA (Xs i) [e] va) (hg : Gl (Xs i) "dict") (he : starEach [e] (Xs i).env = (false, eval e (Xs i).env) :: starEach [] (Xs i).env) : PE (Xs i) (.Call (.Name "dict" q) [e] [] pos) (tCB (rDct K) va) := by
  have := pe_callTy (x := "dict") (p := q) (pos := pos) (call_dictP (en.hc i)) hg (en.no en.bt.dict i) (by decide +kernel) pa (by decide) (by decide) he (by rfl)
  rw [en.hK i] at this
  exact this
/-- x, y = e, dict(pairs): y is the def's own -/
def dParK (i j : Nat) (te : TD) (t : TDA) : TDS := fun De ρ n x => te ρ n (fun d n1 => t ρ n1 (fun ds n2 => ∃ l : List (Key × D), ds = [.lst (l.map itemD)] ∧ De.nx ((ρ.set i (some (.val d))).set j (some (.ownD (mergeD [] l)))) n2) x) x
theorem parK (en : En Xs P w K mg base N k) (i j : Nat) {y : Str} {px py pt pd qd : Pos} {kt k2 pt2} (he : DE Xs K E e te) (ha : DA Xs K E [a] t) (hij : i ≠ j := by decide) (hi : N[i]? = some x := by rfl) (hj : N[j]? = some y := by rfl) (hx : ∀ k, (Xs k).env.scope.names.lookup x = some .local := by intro _; rfl) (hy : ∀ k, (Xs k).env.scope.names.lookup y = some .local := by intro _; rfl)
    (hg : ∀ i, Gl (Xs i) "dict" := by intro _; rfl) (hsa : ∀ i, starEach [a] (Xs i).env = (false, eval a (Xs i).env) :: starEach [] (Xs i).env := by intro _; rfl)
    (hw : ∀ k, swappedStores [.Tuple [.Name x px, .Name y py] kt pt] (.Tuple [e, .Call (.Name "dict" qd) [a] [] pd] k2 pt2) (Xs k).env = pure (some [x, y]) := by intro _; rfl)
    (hst : ∀ i, starEach [e, .Call (.Name "dict" qd) [a] [] pd] (Xs i).env = (false, eval e (Xs i).env) :: starEach [.Call (.Name "dict" qd) [a] [] pd] (Xs i).env := by intro _; rfl)
    (hst2 : ∀ i, starEach [.Call (.Name "dict" qd) [a] [] pd] (Xs i).env = (false, eval (.Call (.Name "dict" qd) [a] [] pd) (Xs i).env) :: starEach [] (Xs i).env := by intro _; rfl)
    (hs : ∀ k, swapsWithSole [.Tuple [.Name x px, .Name y py] kt pt] (.Tuple [e, .Call (.Name "dict" qd) [a] [] pd] k2 pt2) pos.line (Xs k).env = pure false := by intro _; rfl) : DS Xs K E (.Assign [.Tuple [.Name x px, .Name y py] kt pt] (.Tuple [e, .Call (.Name "dict" qd) [a] [] pd] k2 pt2) pos) (dParK i j te t) := by
  obtain ⟨v, pe, ev⟩ := he
  obtain ⟨va, pa, ea⟩ := ha
  refine ⟨tPar i j (tCons v (tCons (tCB (rDct K) va) tNil)), fun k => ps_par (en.hc k) (en.nd' k) (by rw [en.hN k]; exact hi) (by rw [en.hN k]; exact hj) hij (hx k) (hy k) (pa_cons (pe k) (pa_cons (pe_dct en (pa k) (hg k) (hsa k)) pa_nil (hst2 k)) (hst k)) (hw k) (hs k), fun {p H0 Z0 ρ n Z σ H x De Dv} w x hh qn qr qb qc => ev w x hh fun u H1 d n1 w1 k1 r1 h1 => ea w1 x h1 fun vs H2 ds n2 w2 k2 r2 ⟨l, e2, h2⟩ => ?_⟩
  subst e2
  obtain ⟨v2, rfl, c, us, rfl, hs2, rs⟩ := reps1 r2
  obtain ⟨ts, kvs, e1, rk, pr⟩ := reps_items rs
  subst e1
  refine ⟨c, ts, kvs, rfl, sqL_of hs2, pr, fun m nm => ?_⟩
  have w3 := w2.set i (r1.mv (w1.mv k2))
  have w4 := w3.grow (c := m) (H' := upd H2 m (.dK (mergeK [] kvs))) nm (Xt.new nm).kp ((Xt.new nm).pot w2.pot) (by rw [upd_same]; exact fun z => nomatch z)
  have rk' : RepK K (zAdd Z m) p (upd H2 m (.dK (mergeK [] kvs))) (mergeD [] l) (mergeK [] kvs) := (RepK.merge rk (l := []) (kvs := []) rfl).mv (mv_add nm)
  refine ⟨u, .ref m, rfl, qn _ n2 (zAdd Z m) _ _ (w4.toOwn j (.inr rfl) (w2.new0 nm) upd_same rk' (w3.noref nm)) (((w.mv k1).trans (w1.mv k2)).trans (mv_add nm)) h2⟩
/-- x, y = dict(pairs), e: x is the def's own -/
def dParL (i j : Nat) (t : TDA) (te : TD) : TDS := fun De ρ n x => t ρ n (fun ds n1 => ∃ l : List (Key × D), ds = [.lst (l.map itemD)] ∧ te ρ n1 (fun d n2 => d.nd = true ∧ De.nx ((ρ.set i (some (.ownD (mergeD [] l)))).set j (some (.val d))) n2) x) x
theorem parL (en : En Xs P w K mg base N k) (i j : Nat) {y : Str} {px py pt pd qd : Pos} {kt k2 pt2} (ha : DA Xs K E [a] t) (he : DE Xs K E e te) (hij : i ≠ j := by decide) (hi : N[i]? = some x := by rfl) (hj : N[j]? = some y := by rfl) (hx : ∀ k, (Xs k).env.scope.names.lookup x = some .local := by intro _; rfl) (hy : ∀ k, (Xs k).env.scope.names.lookup y = some .local := by intro _; rfl)
    (hg : ∀ i, Gl (Xs i) "dict" := by intro _; rfl) (hsa : ∀ i, starEach [a] (Xs i).env = (false, eval a (Xs i).env) :: starEach [] (Xs i).env := by intro _; rfl)
    (hw : ∀ k, swappedStores [.Tuple [.Name x px, .Name y py] kt pt] (.Tuple [.Call (.Name "dict" qd) [a] [] pd, e] k2 pt2) (Xs k).env = pure (some [x, y]) := by intro _; rfl)
    (hst : ∀ i, starEach [.Call (.Name "dict" qd) [a] [] pd, e] (Xs i).env = (false, eval (.Call (.Name "dict" qd) [a] [] pd) (Xs i).env) :: starEach [e] (Xs i).env := by intro _; rfl)
    (hst2 : ∀ i, starEach [e] (Xs i).env = (false, eval e (Xs i).env) :: starEach [] (Xs i).env := by intro _; rfl)
    (hs : ∀ k, swapsWithSole [.Tuple [.Name x px, .Name y py] kt pt] (.Tuple [.Call (.Name "dict" qd) [a] [] pd, e] k2 pt2) pos.line (Xs k).env = pure false := by intro _; rfl) : DS Xs K E (.Assign [.Tuple [.Name x px, .Name y py] kt pt] (.Tuple [.Call (.Name "dict" qd) [a] [] pd, e] k2 pt2) pos) (dParL i j t te) := by
  obtain ⟨v, pe, ev⟩ := he
  obtain ⟨va, pa, ea⟩ := ha
  refine ⟨tPar i j (tCons (tCB (rDct K) va) (tCons v tNil)), fun k => ps_par (en.hc k) (en.nd' k) (by rw [en.hN k]; exact hi) (by rw [en.hN k]; exact hj) hij (hx k) (hy k) (pa_cons (pe_dct en (pa k) (hg k) (hsa k)) (pa_cons (pe k) pa_nil (hst2 k)) (hst k)) (hw k) (hs k), fun {p H0 Z0 ρ n Z σ H x De Dv} w x hh qn qr qb qc => ea w x hh fun vs H1 ds n1 w1 k1 r1 ⟨l, e2, h1⟩ => ?_⟩
  subst e2
  obtain ⟨v2, rfl, c, us, rfl, hs2, rs⟩ := reps1 r1
  obtain ⟨ts, kvs, e1, rk, pr⟩ := reps_items rs
  subst e1
  refine ⟨c, ts, kvs, rfl, sqL_of hs2, pr, fun m nm => ?_⟩
  have w2 := w1.xt (Xt.new (o := .dK (mergeK [] kvs)) nm)
  refine ev w2 x h1 fun u H3 d n3 w3 k3 r3 ⟨nd, h3⟩ => ?_
  have mp : m ≠ p := fun z => w1.pot.ne (by rw [← z]; exact nm)
  have hm3 : H3 m = some (.dK (mergeK [] kvs)) := k3 m _ mp upd_same
  have kp : Kp p H1 H3 := (Xt.new nm).kp.trans k3
  have w4 := w1.grow (c := m) nm kp w3.pot (by rw [hm3]; exact fun z => nomatch z)
  have mv1 : Mv Z H1 (zAdd Z m) H3 := fun a o z h => ⟨fun y => y.elim z fun e => (by rw [e, nm] at h; exact nomatch h), kp a o (fun e => z (by rw [e]; exact w1.zpp)) h⟩
  have rk' : RepK K (zAdd Z m) p H3 (mergeD [] l) (mergeK [] kvs) := (RepK.merge rk (l := []) (kvs := []) rfl).mv mv1
  have w5 := w4.toOwn i (.inr rfl) (w1.new0 nm) hm3 rk' (w1.noref nm)
  have r3' : Rep K (zAdd Z m) p H3 d u := r3.zd (c := m) (.inl ⟨_, hm3⟩) (fun b y => y) nd
  refine ⟨.ref m, u, rfl, qn _ n3 (zAdd Z m) _ _ (w5.set j r3') ((w.mv k1).trans mv1) h3⟩
/-- the def's own dict, read -/
def dFrz (i : Nat) (te : TD) : TD := fun ρ n Q _ => ∃ l, ρ[i]? = some (some (.ownD l)) ∧ te (ρ.set i (some (.val (.dct l)))) n (fun d n1 => d.nd = true ∧ Q d n1) x0
theorem frzE (i : Nat) (h : DE Xs K E0 e te) : DE Xs K E0 e (dFrz i te) := by
  obtain ⟨v, pe, ev⟩ := h
  refine ⟨v, pe, fun {p H0 Z0 ρ n Z σ H x Q Qv} w hx hh q => ?_⟩
  obtain ⟨l, el, hh⟩ := hh
  obtain ⟨c, kvs, es, zc, h0, hc, rk⟩ := w.ownD el
  have cp : c ≠ p := w.own_ne h0
  let Z' : Addr → Prop := fun b => Z b ∧ b ≠ c
  have m : Mv Z H Z' H := fun a o z h => ⟨fun y => z y.1, h⟩
  have hi : i < ρ.length := (List.getElem?_eq_some_iff.mp el).1
  have w' : Wd K p H0 Z0 (ρ.set i (some (.val (.dct l)))) n Z' σ H := by
    refine ⟨w.pot, w.zp, w.d0, fun a z => ⟨w.sub a z, fun e => w.d0 a z (by rw [e]; exact h0)⟩, fun a z => w.dom a z.1, w.keep, by rw [List.length_set]; exact w.len, fun j s h => ?_, fun j k b s t ne hj hk sj sk e => ?_⟩
    · by_cases ej : i = j
      · subst ej
        rw [List.getElem?_set_self hi] at h
        cases h
        exact ⟨.ref c, es, c, kvs, rfl, ⟨fun y => y.2 rfl, hc⟩, rk.mv m⟩
      · rw [List.getElem?_set_ne ej] at h
        obtain ⟨v, ev, r⟩ := w.env j s h
        refine ⟨v, ev, ?_⟩
        cases s with
        | val d => exact Rep.mv m r
        | own l =>
          obtain ⟨a, vs, e1, z, h0, h1, r⟩ := r
          exact ⟨a, vs, e1, ⟨z, fun e => by rw [e, hc] at h1; cases h1⟩, h0, h1, r.mv m⟩
        | ownD l' =>
          obtain ⟨a, vs, e1, z, h0, h1, r⟩ := r
          refine ⟨a, vs, e1, ⟨z, fun e => ?_⟩, h0, h1, r.mv m⟩
          subst e e1
          exact w.dis i j a _ _ ej el h rfl rfl es ev
    · have nj : i ≠ j := fun z => by
        subst z
        rw [List.getElem?_set_self hi] at hj
        cases hj; cases sj
      have nk : i ≠ k := fun z => by
        subst z
        rw [List.getElem?_set_self hi] at hk
        cases hk; cases sk
      rw [List.getElem?_set_ne nj] at hj
      rw [List.getElem?_set_ne nk] at hk
      exact w.dis j k b s t ne hj hk sj sk e
  refine ev w' HE.zero hh fun u H1 d n1 w1 k1 r1 ⟨nd, h1⟩ => ?_
  have hc1 : H1 c = some (.dK kvs) := k1 c _ cp hc
  refine q u H1 d n1 (w.kp k1 w1.pot) k1 (r1.zd (c := c) (.inl ⟨_, hc1⟩) (fun b y => ?_) nd) h1
  by_cases e : b = c
  · exact .inr e
  · exact .inl ⟨y, e⟩
end
end DL
set_option Elab.async false
set_option linter.all false
set_option maxRecDepth 100000
set_option maxHeartbeats 1000000
set_option autoImplicit false
/-! What the written part says of an own error class; DL's rules for kept errors. -/
namespace DL
open PySem L2
/-- a kept error's field, its kind -/
structure Xq (K : PySem.W.Frag) (C : Addr) (f : Str) : Prop where
  xh : XI.XhC K C
  no : PySem.W.findIn K (.ref C) f = some none
def dFldX (K : PySem.W.Frag) (f : Str) (ta : TD) : TD := fun ρ n Q x => ta ρ n (fun d n1 => ∃ C l r, d = .exc C l ∧ Xq K C f ∧ l.lookup f = some r ∧ Q r n1) x
def dIsX (K : PySem.W.Frag) (t : TDA) : TD := fun ρ n Q x => t ρ n (fun ds n1 => ∃ C l B b f, ds = [.exc C l, .con B] ∧ Xq K C f ∧ PySem.W.kitOne K (.ref C) (.ref B) = some b ∧ Q (.bl b) n1) x
section
variable {ι : Type} {Xs : ι → Cx} {P : Program} {w : World} {K : PySem.W.Frag} {mg : Str → Option Value} {base : Heap} {N : List Str} {k : Nat} {E : XK} {pos q : Pos} {a e : Expr} {es : List Expr} {ta : TD} {t : TDA} {f : Str}
variable (en : En Xs P w K mg base N k)
include en
theorem fldX (ha : DE Xs K E a ta) (hb : ∀ i, attributeBase a f (Xs i).env (eval a (Xs i).env) = eval a (Xs i).env := by intro _; rfl) : DE Xs K E (.Attribute a f pos) (dFldX K f ta) := by
  obtain ⟨va, pa, ea⟩ := ha
  refine ⟨XI.tXh K f va, fun i => ?_, fun {p H0 Z0 ρ n Z σ H x Q Qv} w hx h q => ea w hx h fun v1 H1 d1 n1 w1 k1 r1 h1 => ?_⟩
  · have := XI.pe_xh (pos := pos) (f := f) (pa i) (hb i)
    rw [en.hK i] at this
    exact this
  · obtain ⟨C, l, r, e1, X, e2, h1⟩ := h1
    subst e1
    obtain ⟨a1, dx, fs, ev, ⟨z, hh⟩, ⟨z2, hd⟩, rf⟩ := r1
    obtain ⟨u, lu, ru⟩ := rf.look e2
    exact ⟨a1, C, dx, fs, u, ev, hh, X.xh.xf, X.no, hd, lu, q u H1 r n1 w1 k1 ru h1⟩
theorem isX (ha : DA Xs K E (e :: es) t) (hg : ∀ i, Gl (Xs i) "isinstance" := by intro _; rfl) (he : ∀ i, starEach (e :: es) (Xs i).env = (false, eval e (Xs i).env) :: starEach es (Xs i).env := by intro _; rfl) (hpl : ∀ i, (backTo pos (starEach es (Xs i).env)).any (·.1) = false := by intro _; rfl) :
    DE Xs K E (.Call (.Name "isinstance" q) (e :: es) [] pos) (dIsX K t) := by
  obtain ⟨va, pa, ea⟩ := ha
  refine ⟨tCB (XI.rIsH K) va, fun i => ?_, fun {p H0 Z0 ρ n Z σ H x Q Qv} w hx h qq => ea w hx h fun vs H1 ds n1 w1 k1 r1 h1 => ?_⟩
  · have := pe_callB (x := "isinstance") (p := q) (pos := pos) (XI.call_isH (X := Xs i)) (hg i) (en.no en.bt.isi i) (by first | rfl | exact PySem.boot_isinstance) (pa i) (by decide) (by decide) (he i) (hpl i)
    rw [en.hK i] at this
    exact this
  · obtain ⟨C, l, B, b, f, e1, X, e2, h1⟩ := h1
    subst e1
    obtain ⟨v1, v2, rfl, rx, rc⟩ := reps2 r1
    obtain ⟨a1, dx, fs, ev, ⟨z, hh⟩, ⟨z2, hd⟩, rf⟩ := rx
    have rc : v2 = .ref B := rc
    subst rc ev
    exact ⟨a1, C, dx, fs, .ref B, .ref B, b, rfl, hh, hd, X.xh, fun u ru => ru, e2, qq _ H1 (.bl b) n1 w1 k1 rfl h1⟩
end
theorem kit_rf {K : PySem.W.Frag} {A C : Addr} {cd : ClassData} {b : Bool} (hn : A ≠ C) (hc : PySem.W.clsIn K C = some cd) (ht : PySem.W.typeIn K (.ref C) = some (.type "type")) (h2 : PySem.W.subIn K (.ref A) (.ref C) = some b) : PySem.W.kitOne K (.ref A) (.ref C) = some b := by
  have e : ((Value.ref A : Value) == .ref C) = false := beq_eq_false_iff_ne.mpr fun z => hn (Value.ref.inj z)
  unfold PySem.W.kitOne
  rw [e, if_neg (by decide)]
  show (if ((PySem.W.clsIn K C).isSome && PySem.W.typeIn K (.ref C) == some (.type "type")) = true then PySem.W.subIn K (.ref A) (.ref C) else none) = _
  rw [hc, ht, if_pos (show ((some cd).isSome && some (Value.type "type") == some (Value.type "type")) = true by rw [beq_self_eq_true]; rfl)]
  exact h2
end DL
namespace DL
open PySem L2
/-- what super() finds, by the class above -/
theorem super_in {K : PySem.W.Frag} {C D : Addr} {m : Str} {v : Value} {nm q nm' q' : Str} {N N' : Addr} {bs bm bs' bm' : List Value} {h h' : Bool} {sn sn' : List Str} {sub sub' : List Value} {ab ab' : Bool} {col col' : Option Bool} {dd dd' : Option Addr} {k0 k1 k2 k3 k5 j0 j1 j2 j3 j5 : Option Value} {nw nw' : String}
    (lC : K.lookup C = some (excClassObj nm q C N bs bm h sn sub ab col dd k0 k1 k2 k3 k5 nw)) (lD : K.lookup D = some (excClassObj nm' q' D N' bs' bm' h' sn' sub' ab' col' dd' j0 j1 j2 j3 j5 nw')) (e : bm = .ref D :: bm') (f : PySem.W.findIn K (.ref D) m = some (some v)) : PySem.W.ks_superIn K C C m = some (some v) := by
  have cC : ∃ cd, PySem.W.clsIn K C = some cd ∧ cd.mro = .ref C :: bm := by unfold PySem.W.clsIn; rw [lC]; exact ⟨_, rfl, rfl⟩
  obtain ⟨c1, h1, m1⟩ := cC
  unfold PySem.W.ks_superIn
  rw [h1, Option.bind_some, m1]
  have : ((Value.ref C :: bm).dropWhile (· != .ref C)).drop 1 = bm := by simp [List.dropWhile_cons]
  rw [this, e]
  dsimp only [PySem.W.findIn] at f
  rw [lD] at f
  exact f
end DL
set_option Elab.async false
set_option linter.all false
set_option maxRecDepth 100000
set_option maxHeartbeats 1000000
set_option autoImplicit false
/-! DL: making an instance may raise; making one by a keyword; a kept error's kinds. -/
namespace DL
open PySem L2
/-- what a maker that may raise promises -/
def spMkX (K : PySem.W.Frag) (C : Addr) (F : DF) : Sp := fun vs H Q E => ∃ (y dx : Addr) (us : List V) (ds : List D) (Z : Addr → Prop) (p : Addr) (n : Nat) (x : DX) (Qd : DQ), vs = .ref y :: us ∧ H y = some (.ins C dx []) ∧ ¬ Z y ∧ PotAt H p n ∧ Z p ∧ (∀ a, Z a → H a ≠ none) ∧ Reps K (zAdd Z y) p H ds us ∧ F ds n Qd x ∧
  (∀ l n' H' fs, PotAt H' p n' → (∀ a o, a ≠ p → a ≠ y → H a = some o → H' a = some o) → H' y = some (.ins C dx fs) → RepF K (zAdd Z y) p H' l fs → Qd (.ins C l) n' → Q .non H') ∧ HE K p H (zAdd Z y) x E
def MkX (P : Program) (w : World) (K : PySem.W.Frag) (mg : Str → Option Value) (base : Heap) (x : Str) (C : Addr) (k : Nat) (F : DF) : Prop :=
  ∃ f fd ps, Mk K C f ∧ FnOk P w K mg base (L2.CX P w) k f fd ps (spMkX K C F) ∧ mg x = some (.ref C) ∧ Binds K fd ps []
section
variable {X : Cx} {P : Program} {w : World} {K : PySem.W.Frag} {mg : Str → Option Value} {base : Heap} {N : List Str} {k kF : Nat} {e o : Expr} {es : List Expr} {te : TD} {t : TDA} {pos q p1 : Pos} {F : DF} {x f : Str}
def tMakeW (C : Addr) (sp : Sp) (W : WX) (t : TA) : TE := fun σ H Q => t σ H fun vs H1 => ∀ y dx, H1 y = none → H1 dx = none → dx ≠ y → sp (.ref y :: vs) (upd (upd H1 dx (.own y)) y (.ins C dx [])) (fun v H2 => v = .non ∧ Q (.ref y) H2) (WE W σ)
theorem run_makeW {X : Cx} {C f : Addr} {fd : FuncData} {ps : List Str} {sp : Sp} {W : WX} {pins : List (Addr × Obj)} {σ : L2.St} {H : Hp} {s : Shared} {Q : VK} {us : List Value} {vs : List V} {kF : Nat} (M : Mk X.K C f) (G : FnOk X.prog X.w X.K X.mg X.base (L2.CX X.prog X.w) kF f fd ps sp) (hr : Room (kF + 1) X.A) (hb : Binds X.K fd ps []) (tk : Takes X W) (I : Inv X pins σ H s) (r : Vals vs us)
    (h : ∀ y dx, H y = none → H dx = none → dx ≠ y → sp (.ref y :: vs) (upd (upd H dx (.own y)) y (.ins C dx [])) (fun v H2 => v = .non ∧ Q (.ref y) H2) (WE W σ)) : wpAny (model X.prog X.w) X.A (PySem.call (.ref C) us) (EP X pins σ Q) X.xe s := by
  have hq := h (s.heap.objs.size + 1) s.heap.objs.size (I.hok.fresh (Nat.le_succ _)) (I.hok.fresh (Nat.le_refl _)) (Nat.ne_of_lt (Nat.lt_succ_self _))
  have I2 := Inv.made (C := C) I
  have r2 : Vals (V.ref (s.heap.objs.size + 1) :: vs) (Value.ref (s.heap.objs.size + 1) :: us) := .cons rfl r
  have hl : (Value.ref (s.heap.objs.size + 1) :: us ++ ([] : List Value)).length = ps.length := by
    rw [List.append_nil, ← r2.length]
    exact G.len _ _ _ _ hq
  have bb := hb _ (Value.ref (s.heap.objs.size + 1) :: us) I2.kIn hl
  rw [List.append_nil] at bb
  apply wpAny_call
  apply make_map (f := f) I.kIn M.makes M.init (beq_iff_eq.mp M.fn)
  refine codeAny_mono (G.run _ X.stack _ _ ⟨Value.ref (s.heap.objs.size + 1) :: us, []⟩ (Value.ref (s.heap.objs.size + 1) :: us) _ _ (WE W σ) (hr.make C us []) (I2.env0.make C us []) bb r2 hq) ?_
  intro res t post
  match res, post with
  | .error e, post => exact tk e t (XE.of_call I2 (fun _ _ _ z => z) post)
  | .ok (.ret u), post =>
    obtain ⟨v, H', I3, rv, ev, q3⟩ := I2.after post
    subst ev
    exact ⟨rv, V.ref (s.heap.objs.size + 1), H', I3, rfl, q3⟩
def dMakeW (F : DF) (t : TDA) : TD := fun ρ n Q x => t ρ n (fun ds n1 => F ds n1 Q x) x0
theorem ev_makeW {C : Addr} {W : WX} {va : TA} (ea : EvA K E0 va t) : EvW K W (tMakeW C (spMkX K C F) W va) (dMakeW F t) := by
  intro p H0 Z0 ρ n Z σ H xd Q Qv w hx hh q2
  refine ea w HE.zero hh fun vs H1 ds n1 w1 k1 r1 h1 y dx ny ndx hne => ?_
  have nyp : y ≠ p := fun z => w1.pot.ne (z ▸ ny)
  have hX : Xt H1 (upd (upd H1 dx (.own y)) y (.ins C dx [])) := (Xt.new ndx).trans (Xt.new (by rw [upd_ne (Ne.symm hne)]; exact ny))
  have m : Mv Z H1 (zAdd Z y) (upd (upd H1 dx (.own y)) y (.ins C dx [])) := fun a o z h => ⟨fun g => g.elim z fun ea => (by rw [ea, ny] at h; exact nomatch h), hX a o h⟩
  refine ⟨y, dx, vs, ds, Z, p, n1, xd, Q, rfl, upd_same, w1.notin ny, hX.pot w1.pot, w1.zpp, fun a z e => ?_, r1.mv m, h1, fun l n' H' fs hp' k' hy' rf hq => ?_, ?_⟩
  · cases ha : H1 a with
    | none => exact w1.dom a z ha
    | some o => rw [hX a o ha] at e; cases e
  · have kk : Kp p H1 H' := fun a o na h => k' a o na (ne_of_none h ny) (hX a o h)
    have mE : Mv (zAdd Z y) H' Z H' := fun a o z h => ⟨fun g => z (.inl g), h⟩
    exact ⟨rfl, q2 _ H' (.ins C l) n' (w1.kp kk hp') (k1.trans kk) ⟨y, dx, fs, rfl, ⟨w1.notin ny, hy'⟩, rf.mv mE⟩ hq⟩
  · exact hx.later (w1.keep.trans hX.kp) fun a z => .inl (w1.sub a z)
theorem we_make (en : En (fun _ : Unit => X) P w K mg base N k) {C : Addr} (h : MkX P w K mg base x C kF F) (ha : DA (trF X) K E0 (e :: es) t) (hk : kF + 1 ≤ k := by decide) (hg : ∀ i, Gl (trF X i) x := by intro _; rfl) (hdb : (x == ("__debug__" : Str)) = false := by decide)
    (hst : ∀ i, starEach (e :: es) (trF X i).env = (false, eval e (trF X i).env) :: starEach es (trF X i).env := by intro _; rfl) (hpl : ∀ i, (backTo pos (starEach es (trF X i).env)).any (·.1) = false := by intro _; rfl) : We X K (.Call (.Name x q) (e :: es) [] pos) (dMakeW F t) := by
  obtain ⟨f, fd, ps, M, G, hm, hb⟩ := h
  obtain ⟨va, pa, ea⟩ := ha
  refine ⟨fun W => tMakeW C (spMkX K C F) W va, fun W i tk => ⟨fun pins s σ H Q I hh => ?_⟩, fun W => ev_makeW ea⟩
  have E := en.tr
  have M' : Mk (trF X i).K C f := by rw [E.hK i]; exact M
  refine wpAny_Call_Name_kw (ld_glob I (hg i) (E.at hm i) ?_ hdb)
  refine PySem.W.callWith_K (h₀ := (trF X i).base) I.ok.mod.kin M'.kp (thn ((pa i).run pos pins s σ H _ I hh) fun us s1 ⟨vs, H1, I1, r, q⟩ => ⟨I1.kIn, ?_⟩) (hst i) (hpl i)
  exact run_makeW M' (by rw [E.hP i, E.hw i, E.hK i, E.hm i, E.hb i]; exact G) ((E.hr i).mono hk) (by rw [E.hK i]; exact hb) tk I1 r q
theorem we_fld {C : Addr} (en : En (fun _ : Unit => X) P w K mg base N k) (hC : Cls K C) (hA : NoAttr K C f) (h : We X K e te) (hb : ∀ i, attributeBase e f (trF X i).env (eval e (trF X i).env) = eval e (trF X i).env := by intro _; rfl) : We X K (.Attribute e f pos) (dFld C f te) := by
  obtain ⟨v, pe, ev⟩ := h
  refine ⟨fun W => tFld K (v W) f, fun W i tk => ?_, fun W => fun {p H0 Z0 ρ n Z σ H x Q Qv} w hx h q => ev W w hx h fun v1 H1 d1 n1 w1 k1 r1 ⟨l, r, e1, e2, h1⟩ => ?_⟩
  · have := pe_fld (pos := pos) (f := f) (pe W i tk) (hb i)
    rw [en.tr.hK i] at this
    exact this
  · subst e1
    obtain ⟨a1, dx, fs, ev, ⟨z, hh⟩, rf⟩ := r1
    obtain ⟨u, lu, ru⟩ := rf.look e2
    exact ⟨a1, C, dx, fs, u, ev, hh, hC, hA, lu, q u H1 r n1 w1 k1 ru h1⟩
def dPairW (s : Str) (te : TD) : TD := fun ρ n Q x => te ρ n (fun d n1 => Q (.tup [.str s, d]) n1) x
theorem we_pair {s : Str} {j x1 : Nat} (h : We X K e te) (hs1 : ∀ i, starEach [.Constant (.str s) j p1, e] (trF X i).env = (false, eval (.Constant (.str s) j p1) (trF X i).env) :: starEach [e] (trF X i).env := by intro _; rfl) (hs2 : ∀ i, starEach [e] (trF X i).env = (false, eval e (trF X i).env) :: starEach [] (trF X i).env := by intro _; rfl) :
    We X K (.Tuple [.Constant (.str s) j p1, e] x1 pos) (dPairW s te) := by
  obtain ⟨v, pe, ev⟩ := h
  refine ⟨fun W => tTup (tCons (tC (.str s)) (tCons (v W) tNil)), fun W i tk => pe_tup (pa_cons pe_str (pa_cons (pe W i tk) pa_nil (hs2 i)) (hs1 i)), fun W => fun {p H0 Z0 ρ n Z σ H x Q Qv} w hx h q => ev W w hx h fun v1 H1 d1 n1 w1 k1 r1 h1 => ⟨by show 2 ≤ sizeLine; decide, fun a na => ?_⟩⟩
  exact q _ _ (.tup [.str s, d1]) n1 (w1.xt (Xt.new na)) (k1.trans (Xt.new na).kp) (rep_tup (w1.notin na) na (reps_two rfl r1)) h1
end
/-! ### C(k = v) -/
def MkK (P : Program) (w : World) (K : PySem.W.Frag) (mg : Str → Option Value) (base : Heap) (x : Str) (C : Addr) (k : Nat) (F : DF) (ks : List Str) : Prop :=
  ∃ f fd ps, Mk K C f ∧ FnOk P w K mg base CX0 k f fd ps (spMk K C F) ∧ mg x = some (.ref C) ∧ KBn K fd ps 1 ks (fun us ws => us ++ ws) (fun us ws => us ++ ws)
section
variable {ι : Type} {Xs : ι → Cx} {P : Program} {w : World} {K : PySem.W.Frag} {mg : Str → Option Value} {base : Heap} {N : List Str} {k kF : Nat} {E : XK} {pos q : Pos} {e : Expr} {es : List Expr} {te : TD} {t : TDA} {F : DF} {x : Str}
theorem makeK (en : En Xs P w K mg base N k) {C : Addr} {kws : List Keyword} {ks : List Str} (h : MkK P w K mg base x C kF F ks) (ha : DKw Xs K kws t) (hk : kF + 1 ≤ k := by decide) (hg : ∀ i, Gl (Xs i) x := by intro _; rfl) (hlen : ∀ ds n Q x, F ds n Q x → ds.length = ks.length)
    (hall : ∀ i, (backToKw pos (keywordEach kws (Xs i).env)).all (·.1.isSome) = true := by intro _; rfl) (hks : ∀ i, (backToKw pos (keywordEach kws (Xs i).env)).filterMap (·.1) = ks := by intro _; rfl) (hdb : (x == ("__debug__" : Str)) = false := by decide)
    (hpl : ∀ i, ((backTo pos (starEach [] (Xs i).env)).any (·.1) || (backToKw pos (keywordEach kws (Xs i).env)).any (·.1.isNone)) = false := by intro _; rfl) : DE Xs K E0 (.Call (.Name x q) [] kws pos) (dMake F t) := by
  obtain ⟨f, fd, ps, M, G, hm, hb⟩ := h
  obtain ⟨va, pa, ea⟩ := ha
  refine ⟨tMakeK C 0 ks.length (spMk K C F) (fun us ws => us ++ ws) E0 tNil va, fun i => pe_makeK0 (by rw [en.hK i]; exact M) (by rw [en.hP i, en.hw i, en.hK i, en.hm i, en.hb i]; exact G) ((en.hr i).mono hk) (hg i) (en.at hm i) (by rw [en.hK i]; exact hb) pass0 (pa i) (hall i) (hks i) hdb (hpl i), ?_⟩
  intro p H0 Z0 ρ n Z σ H xd Q Qv w hx hh q2
  refine ea w HE.zero hh fun vs H1 ds n1 w1 k1 r1 h1 => ⟨rfl, by rw [← r1.len]; exact hlen _ _ _ _ h1, fun y dx ny ndx hne => ?_⟩
  have nyp : y ≠ p := fun z => w1.pot.ne (z ▸ ny)
  have hX : Xt H1 (upd (upd H1 dx (.own y)) y (.ins C dx [])) := (Xt.new ndx).trans (Xt.new (by rw [upd_ne (Ne.symm hne)]; exact ny))
  have m : Mv Z H1 (zAdd Z y) (upd (upd H1 dx (.own y)) y (.ins C dx [])) := fun a o z h => ⟨fun g => g.elim z fun ea => (by rw [ea, ny] at h; exact nomatch h), hX a o h⟩
  refine ⟨y, dx, vs, ds, Z, p, n1, x0, Q, rfl, upd_same, w1.notin ny, hX.pot w1.pot, w1.zpp, fun a z e => ?_, r1.mv m, h1, fun l n' H' fs hp' k' hy' rf hq => ?_, rfl⟩
  · cases ha : H1 a with
    | none => exact w1.dom a z ha
    | some o => rw [hX a o ha] at e; cases e
  · have kk : Kp p H1 H' := fun a o na h => k' a o na (ne_of_none h ny) (hX a o h)
    have mE : Mv (zAdd Z y) H' Z H' := fun a o z h => ⟨fun g => z (.inl g), h⟩
    exact ⟨rfl, q2 _ H' (.ins C l) n' (w1.kp kk hp') (k1.trans kk) ⟨y, dx, fs, rfl, ⟨w1.notin ny, hy'⟩, rf.mv mE⟩ hq⟩
end
end DL
set_option Elab.async false
set_option linter.all false
set_option maxRecDepth 100000
set_option maxHeartbeats 1000000
set_option autoImplicit false
/-! a kept error: of a built-in kind, of one of several kinds. -/
namespace XI
open PySem L2
section
variable {X : Cx}
def rIsHT (K : PySem.W.Frag) : List V → Hp → VK → Prop := fun xs H Q => ∃ (a D dd tp : Addr) (fs : List (Str × V)) (cs : List V) (us : List Value) (b : Bool), xs = [.ref a, .ref tp] ∧ H a = some (exh a (.ref D) (some dd)) ∧ H dd = some (.xd fs) ∧ XhC K D ∧ SqT K H tp cs ∧ Paired ClsV cs us ∧ PySem.W.kitAny K (.ref D) us = some b ∧ Q (.bl b) H
theorem call_isHT : CallR X (.builtin "isinstance") (rIsHT X.K) := by
  rintro pins s σ H xs us Q I r ⟨a, D, dd, tp, fs, cs, ws, b, rfl, ea, ed, C, hT, kc, e, q⟩
  obtain ⟨u1, u2, rfl, r1, r2⟩ := vals2 r
  cases (show u1 = Value.ref a from r1)
  cases (show u2 = Value.ref tp from r2)
  obtain ⟨oe, od, mA, inst, _, _⟩ := inst_kept I ea ed
  obtain ⟨cd, hcd, _⟩ := PySem.W.any_some C.xf.hdC
  obtain ⟨its, rv, ⟨o, h1, h2, n, h3⟩, _⟩ := I.tuple hT
  have e3 := ClsV.all kc rv
  subst e3
  obtain ⟨oc, od', dt, sl⟩ := o
  simp only at h2 h3
  subst h2 h3
  exact PySem.W.kia_tup (PySem.W.kitx_exc (by rw [hcd]; rfl) C.xf.ga C.xf.gg C.xf.exC C.c1 C.c2 C.c3 C.c4) I.kIn inst h1 e (by rintro ⟨⟩) fun tk => ⟨.bl b, H, I.tok tk, rfl, q⟩
end
end XI
namespace DL
open PySem L2
def dIsXB (K : PySem.W.Frag) (t : TDA) : TD := fun ρ n Q x => t ρ n (fun ds n1 => ∃ C l B b f, ds = [.exc C l, .ty B] ∧ Xq K C f ∧ PySem.W.kitOne K (.ref C) (.type B) = some b ∧ Q (.bl b) n1) x
def dIsXT (K : PySem.W.Frag) (t : TDA) : TD := fun ρ n Q x => t ρ n (fun ds n1 => ∃ C l cs bs b f, ds = [.exc C l, .tup cs] ∧ Xq K C f ∧ clsOf cs = some bs ∧ PySem.W.kitAny K (.ref C) (bs.map tnV) = some b ∧ Q (.bl b) n1) x
section
variable {ι : Type} {Xs : ι → Cx} {P : Program} {w : World} {K : PySem.W.Frag} {mg : Str → Option Value} {base : Heap} {N : List Str} {k : Nat} {E : XK} {pos q : Pos} {a e : Expr} {es : List Expr} {ta : TD} {t : TDA} {f : Str}
variable (en : En Xs P w K mg base N k)
include en
theorem isXB (ha : DA Xs K E (e :: es) t) (hg : ∀ i, Gl (Xs i) "isinstance" := by intro _; rfl) (he : ∀ i, starEach (e :: es) (Xs i).env = (false, eval e (Xs i).env) :: starEach es (Xs i).env := by intro _; rfl) (hpl : ∀ i, (backTo pos (starEach es (Xs i).env)).any (·.1) = false := by intro _; rfl) :
    DE Xs K E (.Call (.Name "isinstance" q) (e :: es) [] pos) (dIsXB K t) := by
  obtain ⟨va, pa, ea⟩ := ha
  refine ⟨tCB (XI.rIsH K) va, fun i => ?_, fun {p H0 Z0 ρ n Z σ H x Q Qv} w hx h qq => ea w hx h fun vs H1 ds n1 w1 k1 r1 h1 => ?_⟩
  · have := pe_callB (x := "isinstance") (p := q) (pos := pos) (XI.call_isH (X := Xs i)) (hg i) (en.no en.bt.isi i) (by first | rfl | exact PySem.boot_isinstance) (pa i) (by decide) (by decide) (he i) (hpl i)
    rw [en.hK i] at this
    exact this
  · obtain ⟨C, l, B, b, f, e1, X, e2, h1⟩ := h1
    subst e1
    obtain ⟨v1, v2, rfl, rx, rc⟩ := reps2 r1
    obtain ⟨a1, dx, fs, ev, ⟨z, hh⟩, ⟨z2, hd⟩, rf⟩ := rx
    have rc : v2 = .ty B := rc
    subst rc ev
    exact ⟨a1, C, dx, fs, .ty B, .type B, b, rfl, hh, hd, X.xh, fun u ru => ru, e2, qq _ H1 (.bl b) n1 w1 k1 rfl h1⟩
theorem isXT (ha : DA Xs K E (e :: es) t) (hg : ∀ i, Gl (Xs i) "isinstance" := by intro _; rfl) (he : ∀ i, starEach (e :: es) (Xs i).env = (false, eval e (Xs i).env) :: starEach es (Xs i).env := by intro _; rfl) (hpl : ∀ i, (backTo pos (starEach es (Xs i).env)).any (·.1) = false := by intro _; rfl) :
    DE Xs K E (.Call (.Name "isinstance" q) (e :: es) [] pos) (dIsXT K t) := by
  obtain ⟨va, pa, ea⟩ := ha
  refine ⟨tCB (XI.rIsHT K) va, fun i => ?_, fun {p H0 Z0 ρ n Z σ H x Q Qv} w hx h qq => ea w hx h fun vs H1 ds n1 w1 k1 r1 h1 => ?_⟩
  · have := pe_callB (x := "isinstance") (p := q) (pos := pos) (XI.call_isHT (X := Xs i)) (hg i) (en.no en.bt.isi i) (by first | rfl | exact PySem.boot_isinstance) (pa i) (by decide) (by decide) (he i) (hpl i)
    rw [en.hK i] at this
    exact this
  · obtain ⟨C, l, cs, bs, b, f, e1, X, e2, e3, h1⟩ := h1
    subst e1
    obtain ⟨v1, v2, rfl, rx, rc⟩ := reps2 r1
    obtain ⟨a1, dx, fs, ev, ⟨z, hh⟩, ⟨z2, hd⟩, rf⟩ := rx
    obtain ⟨tp, us, ev2, hs, rs⟩ := rc
    subst ev ev2
    exact ⟨a1, C, dx, tp, fs, us, _, b, rfl, hh, hd, X.xh, sqT_of hs, (clss_of rs e2).1, e3, qq _ H1 (.bl b) n1 w1 k1 rfl h1⟩
/-- text == text -/
def eqS : D → D → Option D
  | .str a, .str b => some (.bl (decide (a = b)))
  | _, _ => none
end
end DL
namespace DL
open PySem L2
section
variable {ι : Type} {Xs : ι → Cx} {K : PySem.W.Frag} {E : XK} {pos : Pos} {a b : Expr} {ta tb : TD}
theorem od_eqS : OpD K rEq eqS := by
  intro Z p H d1 d2 d x y Q hz r1 r2 e q
  cases d1 with
  | str a =>
    cases d2 with
    | str b =>
      cases e; cases r1; cases r2
      refine ⟨rfl, q _ _ .refl ?_⟩
      show V.bl _ = V.bl _
      rw [Bool.eq_iff_iff.mpr (by simp : (decide (V.str a = V.str b)) = true ↔ (decide (a = b)) = true)]
    | _ => cases e
  | _ => cases d2 <;> cases e
theorem eEqT (ha : DE Xs K E a ta) (hb : DE Xs K E b tb) : DE Xs K E (.Compare a [.Eq] [b] pos) (dOp eqS ta tb) := de_cmp (r := rEq) (fun _ => op_eq) od_eqS ha hb (nomark _)
theorem tEqT (ha : DE Xs K E a ta) (hb : DE Xs K E b tb) : DT Xs K E (.Compare a [.Eq] [b] pos) (dTest (dOp eqS ta tb)) := dt_cmp (r := rEq) (fun _ => op_eq) od_eqS ha hb (nomark _)
end
end DL
set_option Elab.async false
set_option linter.all false
set_option maxRecDepth 100000
set_option maxHeartbeats 1000000
set_option autoImplicit false
/-! What the law compares, in plain Lean. -/
namespace MK
open PySem L2 DL
theorem eqB {a b : Bool} {p : Prop} (ha : a = true ↔ p) (hb : b = true ↔ p) : decide (a = b) = true := by
  apply decide_eq_true
  rw [Bool.eq_iff_iff, ha, hb]
theorem eqN {a b : Bool} {p : Prop} (ha : a = true ↔ p) (hb : b = true ↔ p) : decide ((!a) = !b) = true := by
  have := of_decide_eq_true (eqB ha hb)
  rw [this]
  exact decide_eq_true rfl
section
variable {ps qs q1 q2 : Row} {ys : List Str}
theorem Two.out (h : Two ps qs ys) {s : Str} (hs : s ∉ ys) : val ps s = 0 ∧ val qs s = 0 :=
  ⟨val_none fun m => by obtain ⟨z, hz, e⟩ := List.mem_map.mp m; exact hs (e ▸ h.sp z hz), val_none fun m => by obtain ⟨z, hz, e⟩ := List.mem_map.mp m; exact hs (e ▸ h.sq z hz)⟩
theorem Two.symm (h : Two ps qs ys) : Two qs ps ys := ⟨h.nm, h.tq, h.tp, h.sq, h.sp⟩
theorem within_iff (h : Two ps qs ys) (d1 : Due ps q1) (d2 : Due qs q2) : (ys.all fun s => decide (val ps s ≤ val qs s)) = true ↔ leP q1 q2 := by
  rw [leP_iff (d1.wf h.tp) (d2.wf h.tq), List.all_eq_true]
  constructor
  · intro hh s
    rw [d1.val h.tp, d2.val h.tq]
    by_cases e : s ∈ ys
    · exact of_decide_eq_true (hh s e)
    · rw [(h.out e).1, (h.out e).2]; exact Int.le_refl _
  · intro hh s _
    have := hh s
    rw [d1.val h.tp, d2.val h.tq] at this
    exact decide_eq_true this
theorem around_iff (h : Two ps qs ys) (d1 : Due ps q1) (d2 : Due qs q2) : (ys.all fun s => decide (val qs s ≤ val ps s)) = true ↔ leP q2 q1 := within_iff h.symm d2 d1
theorem same_iff (h : Two ps qs ys) (d1 : Due ps q1) (d2 : Due qs q2) : (ys.all fun s => decide (val ps s = val qs s)) = true ↔ q1 = q2 := by
  rw [eq_iff (d1.wf h.tp) (d2.wf h.tq), List.all_eq_true]
  constructor
  · intro hh s
    rw [d1.val h.tp, d2.val h.tq]
    by_cases e : s ∈ ys
    · exact of_decide_eq_true (hh s e)
    · rw [(h.out e).1, (h.out e).2]
  · intro hh s _
    have := hh s
    rw [d1.val h.tp, d2.val h.tq] at this
    exact decide_eq_true this
theorem made_tbl (h : Two ps qs ys) {f : Int → Int → Int} (hf : ∀ a b, 0 ≤ a → 0 ≤ b → 0 ≤ f a b) : Tbl (rowOf ys fun s => f (val ps s) (val qs s)) :=
  rowOf_tbl h.nm.nd h.nm.ok fun s _ => hf _ _ (h.tp.nonneg s) (h.tq.nonneg s)
theorem made_eq (h : Two ps qs ys) (d1 : Due ps q1) (d2 : Due qs q2) {f : Int → Int → Int} (h0 : f 0 0 = 0) (hf : ∀ a b, 0 ≤ a → 0 ≤ b → 0 ≤ f a b) {g t : Row} (dg : Due (rowOf ys fun s => f (val ps s) (val qs s)) g) (ht : Mk t) (hv : ∀ s, val t s = f (val q1 s) (val q2 s)) : t = g := by
  have tb := made_tbl h hf
  refine ht.wf.ext (dg.wf tb) fun s => ?_
  rw [hv, dg.val tb, rowOf_val h.nm.nd, d1.val h.tp, d2.val h.tq]
  by_cases e : s ∈ ys
  · rw [if_pos e]
  · rw [if_neg e, (h.out e).1, (h.out e).2, h0]
def restL (ps qs : Row) (ys : List Str) : List Str := ys.filter fun s => decide (val qs s < val ps s)
theorem rest_tbl (h : Two ps qs ys) : Tbl (rowOf (restL ps qs ys) fun s => val ps s) :=
  rowOf_tbl (List.Nodup.sublist List.filter_sublist h.nm.nd) (fun s hs => h.nm.ok s (List.mem_filter.mp hs).1) fun s _ => h.tp.nonneg s
theorem rest_eq (h : Two ps qs ys) (d1 : Due ps q1) (d2 : Due qs q2) {g t : Row} (dg : Due (rowOf (restL ps qs ys) fun s => val ps s) g) (ht : Mk t) (hv : ∀ s, val t s = subI (val q1 s) (val q2 s)) : t = g := by
  have tb := rest_tbl h
  refine ht.wf.ext (dg.wf tb) fun s => ?_
  have nd : (restL ps qs ys).Nodup := List.Nodup.sublist List.filter_sublist h.nm.nd
  rw [hv, dg.val tb, rowOf_val nd, d1.val h.tp, d2.val h.tq]
  unfold subI restL
  by_cases e : s ∈ ys
  · by_cases e2 : val qs s < val ps s
    · rw [if_pos e2, if_pos (List.mem_filter.mpr ⟨e, decide_eq_true e2⟩)]
    · have n2 : s ∉ ys.filter fun s => decide (val qs s < val ps s) := fun z => e2 (by simpa using (List.mem_filter.mp z).2)
      rw [if_neg e2, if_neg n2]
  · have n2 : s ∉ ys.filter fun s => decide (val qs s < val ps s) := fun z => e (List.mem_filter.mp z).1
    rw [if_neg n2, (h.out e).1, (h.out e).2]
    rfl
end
theorem tbl_len {ps : Row} {ys : List Str} (tp : Tbl ps) (hy : Nms ys) (sp : ∀ z ∈ ps, z.1 ∈ ys) : ps.length ≤ 6 := by
  have := len_of_sub tp.nd (m := ys) fun s hs => by obtain ⟨z, hz, rfl⟩ := List.mem_map.mp hs; exact sp z hz
  rw [List.length_map] at this
  exact Nat.le_trans this hy.le
theorem three_pl {a b c : Row} (ha : ∀ z ∈ a, NameOk z.1) (hb : ∀ z ∈ b, NameOk z.1) (hc : ∀ z ∈ c, NameOk z.1) : plB 3 (.lst [.tup (rowD a), .tup (rowD b), .tup (rowD c)]) = true := by
  show (plB 2 (.tup (rowD a)) && (plB 2 (.tup (rowD b)) && (plB 2 (.tup (rowD c)) && true))) = true
  rw [row_pl ha, row_pl hb, row_pl hc]
  rfl
theorem two_pl {a b : Row} (ha : ∀ z ∈ a, NameOk z.1) (hb : ∀ z ∈ b, NameOk z.1) : plB 3 (.lst [.tup (rowD a), .tup (rowD b)]) = true := by
  show (plB 2 (.tup (rowD a)) && (plB 2 (.tup (rowD b)) && true)) = true
  rw [row_pl ha, row_pl hb]
  rfl
end MK
set_option Elab.async false
set_option linter.all false
set_option maxRecDepth 100000
set_option maxHeartbeats 1000000
set_option autoImplicit false
/-! The five methods of marks, as promises over data; their rows in plain Lean. -/
namespace MK
open PySem L2 DL
/-- the greatest number -/
structure IsMax (l : Row) (g : Int) : Prop where
  up : ∀ z, val l z ≤ g
  at_ : g = 0 ∨ ∃ z, val l z = g
  nn : 0 ≤ g
def F_only (C : Addr) : DF := fun ds n Q _ => ∃ (qs : Row) (s : Str), ds = [markD C qs, .str s] ∧ Mk qs ∧ NameOk s ∧ ∀ ts : Row, Mk ts → (∀ z, val ts z = if z = s then val qs z else 0) → Q (markD C ts) n
def F_without (C : Addr) : DF := fun ds n Q _ => ∃ (qs : Row) (s : Str), ds = [markD C qs, .str s] ∧ Mk qs ∧ NameOk s ∧ ∀ ts : Row, Mk ts → (∀ z, val ts z = if z = s then 0 else val qs z) → Q (markD C ts) n
def F_one (C : Addr) : DF := fun ds n Q _ => ∃ (qs : Row) (ss : List Str), ds = [markD C qs, .tup (ss.map .str)] ∧ Mk qs ∧ (∀ s ∈ ss, NameOk s) ∧ ss.Nodup ∧ ss.length < 32 ∧ ∀ (g : Int) (ts : Row), IsMax qs g → Mk ts → (∀ z, val ts z = if z ∈ ss then g else 0) → Q (markD C ts) n
def F_taken (C : Addr) : DF := fun ds n Q _ => ∃ (qs : Row) (s o : Str), ds = [markD C qs, .str s, .str o] ∧ Mk qs ∧ NameOk s ∧ NameOk o ∧ ∀ ts : Row, Mk ts → (∀ z, val ts z = if z = o then val qs s else 0) → Q (markD C ts) n
def F_put (C : Addr) : DF := fun ds n Q _ => ∃ (qs : Row) (s : Str) (i : Int), ds = [markD C qs, .str s, .int i] ∧ Mk qs ∧ qs.length < 31 ∧ NameOk s ∧ 0 ≤ i ∧ ∀ ts : Row, Mk ts → (∀ z, val ts z = if z = s then i else val qs z) → Q (markD C ts) n
def F_bool (C : Addr) : DF := fun ds n Q _ => ∃ qs : Row, ds = [markD C qs] ∧ Q (.bl (!qs.isEmpty)) n
/-! rows kept by their names -/
def keepR (p : Str → Bool) (l : Row) : Row := l.filter fun z => p z.1
def keepG (p : Str → Bool) : D → Option D
  | .tup [.str s, .int i] => if p s = true then some (.tup [.str s, .int i]) else none
  | _ => none
theorem keep_row (p : Str → Bool) (l : Row) : (rowD l).filterMap (keepG p) = rowD (keepR p l) := by
  induction l with
  | nil => rfl
  | cons z l ih =>
    show (pairD z :: rowD l).filterMap (keepG p) = _
    rw [List.filterMap_cons]
    unfold keepR
    rw [List.filter_cons]
    by_cases h : p z.1 = true
    · have : keepG p (pairD z) = some (pairD z) := if_pos h
      rw [this, h]
      show pairD z :: _ = _
      rw [ih]
      rfl
    · have : keepG p (pairD z) = none := if_neg h
      rw [this, if_neg h]
      exact ih
theorem keep_len (p : Str → Bool) (l : Row) : (keepR p l).length ≤ l.length := List.length_filter_le _ _
theorem keep_tbl {qs : Row} (hq : WF qs) (p : Str → Bool) : Tbl (keepR p qs) ∧ ∀ s, val (keepR p qs) s = if p s = true then val qs s else 0 := by
  have sub : (keepR p qs).Sublist qs := List.filter_sublist
  have nd : Nds (keepR p qs) := List.Nodup.sublist (sub.map _) hq.nd
  refine ⟨⟨nd, fun z hz => Int.le_of_lt (hq.ps z (sub.subset hz)), fun z hz => hq.nm z (sub.subset hz)⟩, fun s => ?_⟩
  by_cases h : p s = true
  · rw [if_pos h]
    by_cases h0 : val qs s = 0
    · rw [h0]
      refine val_none fun hm => ?_
      obtain ⟨z, hz, e⟩ := List.mem_map.mp hm
      have e2 := val_mem hq.nd (sub.subset hz)
      have e : z.1 = s := e
      rw [e, h0] at e2
      have := hq.ps z (sub.subset hz)
      omega
    · exact val_mem nd (z := (s, val qs s)) (List.mem_filter.mpr ⟨val_ne hq.nd h0, h⟩)
  · rw [if_neg h]
    refine val_none fun hm => ?_
    obtain ⟨z, hz, e⟩ := List.mem_map.mp hm
    have e : z.1 = s := e
    have := (List.mem_filter.mp hz).2
    rw [e] at this
    exact h this
theorem put_tblR {qs : Row} (hq : WF qs) {s : Str} (hs : NameOk s) {i : Int} (hi : 0 ≤ i) : Tbl (keepR (fun z => !decide (z = s)) qs ++ [(s, i)]) ∧ ∀ z, val (keepR (fun z => !decide (z = s)) qs ++ [(s, i)]) z = if z = s then i else val qs z := by
  obtain ⟨tb, hv⟩ := keep_tbl hq fun z => !decide (z = s)
  have nm : s ∉ (keepR (fun z => !decide (z = s)) qs).map (·.1) := fun h => by
    obtain ⟨z, hz, e⟩ := List.mem_map.mp h
    have := (List.mem_filter.mp hz).2
    have e : z.1 = s := e
    simp [e] at this
  have nd : Nds (keepR (fun z => !decide (z = s)) qs ++ [(s, i)]) := by
    unfold Nds
    rw [List.map_append, List.nodup_append]
    refine ⟨tb.nd, List.nodup_cons.mpr ⟨fun z => (nomatch z), List.nodup_nil⟩, fun a ha b hb e => ?_⟩
    have hb : b = s := List.mem_singleton.mp hb
    rw [e, hb] at ha
    exact nm ha
  refine ⟨⟨nd, fun z hz => ?_, fun z hz => ?_⟩, fun z => ?_⟩
  · rcases List.mem_append.mp hz with hz | hz
    · exact tb.nn z hz
    · rw [List.mem_singleton.mp hz]; exact hi
  · rcases List.mem_append.mp hz with hz | hz
    · exact tb.nm z hz
    · rw [List.mem_singleton.mp hz]; exact hs
  · by_cases e : z = s
    · rw [if_pos e, e]
      exact val_mem nd (z := (s, i)) (List.mem_append.mpr (.inr (List.mem_singleton.mpr rfl)))
    · rw [if_neg e]
      have h1 := hv z
      rw [if_pos (by simp [e])] at h1
      rw [← h1]
      by_cases h0 : val (keepR (fun z => !decide (z = s)) qs) z = 0
      · rw [h0]
        refine val_none fun hm => ?_
        rw [List.map_append] at hm
        rcases List.mem_append.mp hm with hm | hm
        · obtain ⟨y, hy, ey⟩ := List.mem_map.mp hm
          have ey : y.1 = z := ey
          have e2 := val_mem tb.nd hy
          rw [ey, h0] at e2
          have := hq.ps y (List.filter_sublist.subset hy)
          omega
        · exact e (List.mem_singleton.mp hm)
      · exact val_mem nd (z := (z, val (keepR (fun z => !decide (z = s)) qs) z)) (List.mem_append.mpr (.inl (val_ne tb.nd h0)))
theorem one_tbl {ss : List Str} (hs : ∀ s ∈ ss, NameOk s) (nd : ss.Nodup) {g : Int} (hg : 0 ≤ g) : Tbl (rowOf ss fun _ => g) ∧ ∀ z, val (rowOf ss fun _ => g) z = if z ∈ ss then g else 0 :=
  ⟨rowOf_tbl nd hs fun _ _ => hg, rowOf_val nd⟩
theorem is_max {qs : Row} (hq : WF qs) {g : Int} (hm : g ∈ qs.map (·.2)) (hu : ∀ y ∈ qs.map (·.2), y ≤ g) : IsMax qs g := by
  obtain ⟨z, hz, e⟩ := List.mem_map.mp hm
  have e : z.2 = g := e
  have hp := hq.ps z hz
  refine ⟨fun s => ?_, .inr ⟨z.1, by rw [val_mem hq.nd hz, e]⟩, by omega⟩
  by_cases h0 : val qs s = 0
  · rw [h0]; omega
  · exact hu _ (List.mem_map.mpr ⟨_, val_ne hq.nd h0, rfl⟩)
theorem is_max0 : IsMax [] 0 := ⟨fun _ => Int.le_refl _, .inl rfl, Int.le_refl _⟩
abbrev dctR (l : Row) : List (Key × D) := l.map fun q => ((Sum.inr q.1 : Key), D.int q.2)
theorem put_row {qs : Row} {s : Str} (h : s ∉ qs.map (·.1)) (i : Int) : putD (dctR qs) (Sum.inr s) (.int i) = dctR (qs ++ [(s, i)]) := by
  unfold putD
  have : ((dctR qs).any fun kv => decide (kv.1 = (Sum.inr s : Key))) = false := by
    rw [List.any_eq_false]
    intro kv hkv
    obtain ⟨z, hz, rfl⟩ := List.mem_map.mp hkv
    simp only [decide_eq_true_eq]
    intro e
    exact h (List.mem_map.mpr ⟨z, hz, Sum.inr.inj e⟩)
  rw [this, if_neg (by decide)]
  unfold dctR
  rw [List.map_append]
  rfl
theorem ne_str {a b : Str} (ha : PyData.strOk a = true) (hb : PyData.strOk b = true) : neD (.str a) (.str b) = some (.bl (!decide (a = b))) := ne_pl (k := 0) ha hb (by simp)
theorem ne_bl (a b : Bool) : neD (.bl a) (.bl b) = some (.bl (!decide (a = b))) := by
  cases a <;> cases b <;> rfl
theorem look_row (s : Str) : ∀ ps : Row, (lookD (dctR ps) (Sum.inr s)).getD (.int 0) = .int (val ps s)
  | [] => rfl
  | z :: ps => by
    unfold lookD dctR val
    rw [List.map_cons, List.find?_cons, List.lookup_cons]
    by_cases e : z.1 = s
    · have e1 : decide ((Sum.inr z.1 : Key) = Sum.inr s) = true := by rw [e]; exact decide_eq_true rfl
      have e2 : (s == z.1) = true := by rw [e]; exact beq_self_eq_true _
      show (Option.map _ (match decide ((Sum.inr z.1 : Key) = Sum.inr s) with | true => _ | false => _)).getD _ = _
      rw [e1, e2]
      rfl
    · have e1 : decide ((Sum.inr z.1 : Key) = Sum.inr s) = false := decide_eq_false fun q => e (Sum.inr.inj q)
      have e2 : (s == z.1) = false := by simpa using fun q : s = z.1 => e q.symm
      show (Option.map _ (match decide ((Sum.inr z.1 : Key) = Sum.inr s) with | true => _ | false => _)).getD _ = _
      rw [e1, e2]
      exact look_row s ps
theorem merge_row : ∀ (ps qs : Row), Nds (qs ++ ps) → mergeD (dctR qs) (dctR ps) = dctR (qs ++ ps)
  | [], qs, _ => by rw [List.append_nil]; rfl
  | z :: ps, qs, h => by
    have hz : z.1 ∉ qs.map (·.1) := fun m => by
      unfold Nds at h
      rw [List.map_append, List.nodup_append] at h
      exact h.2.2 _ m _ (by rw [List.map_cons]; exact List.mem_cons_self ..) rfl
    show mergeD (putD (dctR qs) (Sum.inr z.1) (.int z.2)) (dctR ps) = _
    rw [put_row hz, merge_row ps (qs ++ [(z.1, z.2)]) (by rw [List.append_assoc]; exact h), List.append_assoc]
    rfl
end MK
set_option Elab.async false
set_option linter.all false
set_option maxRecDepth 100000
set_option maxHeartbeats 1000000
set_option autoImplicit false
/-! Marks over some names; expressions that give a mark, a truth, a value. -/
namespace MK
open PySem L2 DL
structure Ov (ys : List Str) (l : Row) : Prop where
  m : Mk l
  ov : ∀ s, val l s ≠ 0 → s ∈ ys
theorem Ov.len {ys : List Str} {l : Row} (h : Ov ys l) : l.length ≤ ys.length := by
  have : (l.map (·.1)).length ≤ ys.length := len_of_sub h.m.wf.nd fun x hx => by
    obtain ⟨z, hz, rfl⟩ := List.mem_map.mp hx
    have := h.m.wf.ps z hz
    exact h.ov z.1 (by rw [val_mem h.m.wf.nd hz]; omega)
  rwa [List.length_map] at this
theorem Ov.nn {ys : List Str} {l : Row} (h : Ov ys l) (s : Str) : 0 ≤ val l s := h.m.wf.tbl.nonneg s
theorem maxI_eq (a b : Int) : maxI a b = max a b := by unfold maxI; split <;> omega
theorem minI_eq (a b : Int) : minI a b = min a b := by unfold minI; split <;> omega
/-- the greatest number of a function over names -/
structure MaxF (f : Str → Int) (g : Int) : Prop where
  up : ∀ z, f z ≤ g
  at_ : g = 0 ∨ ∃ z, f z = g
  nn : 0 ≤ g
theorem MaxF.eq {f : Str → Int} {g h : Int} (a : MaxF f g) (b : MaxF f h) : g = h := by
  have a0 := a.nn
  have b0 := b.nn
  rcases a.at_ with e | ⟨z, e⟩
  · rcases b.at_ with e' | ⟨z', e'⟩
    · omega
    · have := a.up z'; omega
  · have h1 := b.up z
    rcases b.at_ with e' | ⟨z', e'⟩
    · omega
    · have := a.up z'; omega
open Classical in
noncomputable def mxF (f : Str → Int) : Int := if h : ∃ g, MaxF f g then choose h else 0
theorem MaxF.mx {f : Str → Int} {g : Int} (a : MaxF f g) : mxF f = g := by
  have h : ∃ g, MaxF f g := ⟨g, a⟩
  unfold mxF
  rw [dif_pos h]
  exact (Classical.choose_spec h).eq a
structure FinF (ys : List Str) (f : Str → Int) : Prop where
  nn : ∀ z, 0 ≤ f z
  ov : ∀ z, f z ≠ 0 → z ∈ ys
theorem FinF.max {ys : List Str} {f : Str → Int} (h : FinF ys f) : MaxF f (mxF f) := by
  suffices hh : ∃ g, MaxF f g by
    obtain ⟨g, hg⟩ := hh
    rw [hg.mx]; exact hg
  have key : ∀ l : List Str, ∃ g, 0 ≤ g ∧ (g = 0 ∨ ∃ z, f z = g) ∧ ∀ z ∈ l, f z ≤ g := by
    intro l
    induction l with
    | nil => exact ⟨0, Int.le_refl _, .inl rfl, fun z hz => nomatch hz⟩
    | cons a l ih =>
      obtain ⟨g, h0, h1, h2⟩ := ih
      by_cases e : f a ≤ g
      · refine ⟨g, h0, h1, fun z hz => ?_⟩
        rcases List.mem_cons.mp hz with rfl | hz
        · exact e
        · exact h2 z hz
      · refine ⟨f a, h.nn a, .inr ⟨a, rfl⟩, fun z hz => ?_⟩
        rcases List.mem_cons.mp hz with rfl | hz
        · exact Int.le_refl _
        · have := h2 z hz; omega
  obtain ⟨g, h0, h1, h2⟩ := key ys
  refine ⟨g, fun z => ?_, h1, h0⟩
  by_cases e : f z = 0
  · rw [e]; exact h0
  · exact h2 z (h.ov z e)
theorem Ov.fin {ys : List Str} {l : Row} (h : Ov ys l) : FinF ys (val l) := ⟨h.nn, h.ov⟩
theorem FinF.or {ys : List Str} {f g : Str → Int} (a : FinF ys f) (b : FinF ys g) : FinF ys fun s => maxI (f s) (g s) :=
  ⟨fun z => by rw [maxI_eq]; have := a.nn z; have := b.nn z; omega, fun z h => by
    by_cases e : f z = 0
    · exact b.ov z fun e' => h (by rw [e, e']; rfl)
    · exact a.ov z e⟩
theorem FinF.and {ys : List Str} {f g : Str → Int} (a : FinF ys f) (b : FinF ys g) : FinF ys fun s => minI (f s) (g s) :=
  ⟨fun z => by rw [minI_eq]; have := a.nn z; have := b.nn z; omega, fun z h => by
    by_cases e : f z = 0
    · exact b.ov z fun e' => h (by rw [e, e']; rfl)
    · exact a.ov z e⟩
theorem mx_mono {ys : List Str} {f g : Str → Int} (a : FinF ys f) (b : FinF ys g) (h : ∀ z, f z ≤ g z) : mxF f ≤ mxF g := by
  have ha := a.max
  have hb := b.max
  rcases ha.at_ with e | ⟨z, e⟩
  · rw [e]; exact hb.nn
  · have h1 := h z; have h2 := hb.up z; omega
theorem mx_or {ys : List Str} {f g : Str → Int} (a : FinF ys f) (b : FinF ys g) : mxF (fun s => maxI (f s) (g s)) = maxI (mxF f) (mxF g) := by
  have ha := a.max
  have hb := b.max
  refine MaxF.mx ⟨fun z => ?_, ?_, ?_⟩
  · have h1 := ha.up z; have h2 := hb.up z
    rw [maxI_eq, maxI_eq]; omega
  · by_cases e : mxF f ≤ mxF g
    · rcases hb.at_ with e' | ⟨z, e'⟩
      · left; have := ha.nn; rw [maxI_eq]; omega
      · right; refine ⟨z, ?_⟩
        have := ha.up z
        rw [maxI_eq, maxI_eq]; omega
    · rcases ha.at_ with e' | ⟨z, e'⟩
      · have := hb.nn; exfalso; omega
      · right; refine ⟨z, ?_⟩
        have := hb.up z
        rw [maxI_eq, maxI_eq]; omega
  · have := ha.nn; rw [maxI_eq]; omega

section
variable (C : Addr) (ys : List Str)
/-- the expression gives a mark over the names with these numbers -/
def Gv (ρ : DSt) (t : TD) (f : Str → Int) : Prop := ∀ (n : Nat) (Q : DQ), (∀ ts, Ov ys ts → (∀ s, val ts s = f s) → Q (markD C ts) n) → t ρ n Q x0
end
def Ts (ρ : DSt) (t : TD) (p : Prop) : Prop := ∀ (n : Nat) (Q : DQ), (∀ b : Bool, (b = true ↔ p) → Q (.bl b) n) → t ρ n Q x0
def Tt (ρ : DSt) (t : TDT) (b : Bool) : Prop := ∀ (n : Nat) (Q : Bool → Nat → Prop), Q b n → t ρ n Q x0
def Vl (ρ : DSt) (t : TD) (d : D) : Prop := ∀ (n : Nat) (Q : DQ), Q d n → t ρ n Q x0
def F_same (C : Addr) : DF := fun ds n Q _ => ∃ qs rs : Row, ds = [markD C qs, markD C rs] ∧ Mk qs ∧ Mk rs ∧ ∀ b : Bool, (b = true ↔ qs = rs) → Q (.bl b) n
section
variable {C : Addr} {ys : List Str} {ρ : DSt} {ta tb te to : TD} {tt uu : TDT} {f g : Str → Int} {p q : Prop} {i j : Int} {s o : Str} {d : D}
theorem vl_var {k : Nat} (h : ρ[k]? = some (some (.val d))) : Vl ρ (dVar k) d := fun n Q q => ⟨d, h, q⟩
theorem vl_c : Vl ρ (dC d) d := fun n Q q => q
theorem gv_var {k : Nat} {qs : Row} (h : ρ[k]? = some (some (.val (markD C qs)))) (o : Ov ys qs) : Gv C ys ρ (dVar k) (val qs) := fun n Q q => ⟨_, h, q qs o fun _ => rfl⟩
theorem gv_bin (hy : ys.length ≤ 6) {fn : Int → Int → Int} (h0 : fn 0 0 = 0) (ha : Gv C ys ρ ta f) (hb : Gv C ys ρ tb g) : Gv C ys ρ (dOwn2 C (F_bin C fn) ta tb) (fun s => fn (f s) (g s)) := fun n Q q =>
  ha n _ fun as oa ea => hb n _ fun bs ob eb => ⟨⟨_, rfl⟩, ⟨_, rfl⟩, as, bs, rfl, oa.m, ob.m, by have := oa.len; have := ob.len; omega, fun ts m e => q ts ⟨m, fun s hs => by
    by_cases e1 : val as s = 0
    · by_cases e2 : val bs s = 0
      · rw [e, e1, e2, h0] at hs; exact absurd rfl hs
      · exact ob.ov s e2
    · exact oa.ov s e1⟩ fun s => by rw [e, ea, eb]⟩
theorem gv_only (ha : Gv C ys ρ to f) (hs : Vl ρ te (.str s)) (hn : NameOk s) : Gv C ys ρ (dMeth C "only" (F_only C) to (dCons te dNil)) (fun z => if z = s then f z else 0) := fun n Q q =>
  ha n _ fun qs o e => ⟨_, rfl, rfl, hs n _ ⟨qs, s, rfl, o.m, hn, fun ts m e2 => q ts ⟨m, fun z hz => by
    rw [e2] at hz
    by_cases c : z = s
    · rw [if_pos c] at hz; exact o.ov z hz
    · rw [if_neg c] at hz; exact absurd rfl hz⟩ fun z => by rw [e2, e]⟩⟩
theorem gv_without (ha : Gv C ys ρ to f) (hs : Vl ρ te (.str s)) (hn : NameOk s) : Gv C ys ρ (dMeth C "without" (F_without C) to (dCons te dNil)) (fun z => if z = s then 0 else f z) := fun n Q q =>
  ha n _ fun qs o e => ⟨_, rfl, rfl, hs n _ ⟨qs, s, rfl, o.m, hn, fun ts m e2 => q ts ⟨m, fun z hz => by
    rw [e2] at hz
    by_cases c : z = s
    · rw [if_pos c] at hz; exact absurd rfl hz
    · rw [if_neg c] at hz; exact o.ov z hz⟩ fun z => by rw [e2, e]⟩⟩
theorem gv_one {ss : List Str} (ha : Gv C ys ρ to f) (hs : Vl ρ te (.tup (ss.map .str))) (hn : ∀ s ∈ ss, NameOk s) (nd : ss.Nodup) (hl : ss.length < 32) (sub : ∀ s ∈ ss, s ∈ ys) : Gv C ys ρ (dMeth C "one" (F_one C) to (dCons te dNil)) (fun z => if z ∈ ss then mxF f else 0) := fun n Q q =>
  ha n _ fun qs o e => ⟨_, rfl, rfl, hs n _ ⟨qs, ss, rfl, o.m, hn, nd, hl, fun g ts mg m e2 => q ts ⟨m, fun z hz => by
    rw [e2] at hz
    by_cases c : z ∈ ss
    · exact sub z c
    · rw [if_neg c] at hz; exact absurd rfl hz⟩ fun z => by
      have : mxF f = g := MaxF.mx ⟨fun z => by rw [← e]; exact mg.up z, mg.at_.imp id fun ⟨z, h⟩ => ⟨z, by rw [← e]; exact h⟩, mg.nn⟩
      rw [e2, this]⟩⟩
theorem gv_taken (ha : Gv C ys ρ to f) (hs : Vl ρ ta (.str s)) (ho : Vl ρ tb (.str o)) (hn : NameOk s) (hm : NameOk o) (hy : o ∈ ys) : Gv C ys ρ (dMeth C "taken" (F_taken C) to (dCons ta (dCons tb dNil))) (fun z => if z = o then f s else 0) := fun n Q q =>
  ha n _ fun qs oo e => ⟨_, rfl, rfl, hs n _ (ho n _ ⟨qs, s, o, rfl, oo.m, hn, hm, fun ts m e2 => q ts ⟨m, fun z hz => by
    rw [e2] at hz
    by_cases c : z = o
    · rw [c]; exact hy
    · rw [if_neg c] at hz; exact absurd rfl hz⟩ fun z => by rw [e2, e]⟩)⟩
theorem gv_put (hl : ys.length ≤ 6) (ha : Gv C ys ρ to f) (hs : Vl ρ ta (.str s)) (ho : Vl ρ tb (.int i)) (hn : NameOk s) (hi : 0 ≤ i) (hy : s ∈ ys) : Gv C ys ρ (dMeth C "put" (F_put C) to (dCons ta (dCons tb dNil))) (fun z => if z = s then i else f z) := fun n Q q =>
  ha n _ fun qs oo e => ⟨_, rfl, rfl, hs n _ (ho n _ ⟨qs, s, i, rfl, oo.m, by have := oo.len; omega, hn, hi, fun ts m e2 => q ts ⟨m, fun z hz => by
    rw [e2] at hz
    by_cases c : z = s
    · rw [c]; exact hy
    · rw [if_neg c] at hz; exact oo.ov z hz⟩ fun z => by rw [e2, e]⟩)⟩
theorem vl_get (ha : Gv C ys ρ ta f) (hs : Vl ρ tb (.str s)) (hn : NameOk s) : Vl ρ (dOwnIx C (F_get C) ta tb) (.int (f s)) := fun n Q q =>
  ha n _ fun qs oo e => hs n _ ⟨⟨_, rfl⟩, qs, s, rfl, oo.m, hn.ok, by rw [e]; exact q⟩
theorem ts_same (ha : Gv C ys ρ ta f) (hb : Gv C ys ρ tb g) : Ts ρ (dCall (F_same C) [] (dCons ta (dCons tb dNil))) (∀ s, f s = g s) := fun n Q q =>
  ha n _ fun as oa ea => hb n _ fun bs ob eb => ⟨as, bs, rfl, oa.m, ob.m, fun b hb => q b (hb.trans ((eq_iff oa.m.wf ob.m.wf).trans ⟨fun h s => by rw [← ea, ← eb]; exact h s, fun h s => by rw [ea, eb]; exact h s⟩))⟩
theorem ts_le (ha : Gv C ys ρ ta f) (hb : Gv C ys ρ tb g) : Ts ρ (dOwn2 C (F_cmp C leP) ta tb) (∀ s, f s ≤ g s) := fun n Q q =>
  ha n _ fun as oa ea => hb n _ fun bs ob eb => ⟨⟨_, rfl⟩, ⟨_, rfl⟩, as, bs, rfl, oa.m, ob.m, fun b hb => q b (hb.trans ((leP_iff oa.m.wf ob.m.wf).trans ⟨fun h s => by rw [← ea, ← eb]; exact h s, fun h s => by rw [ea, eb]; exact h s⟩))⟩
theorem ts_bool (ha : Gv C ys ρ ta f) : Ts ρ (dBoolOwn C (F_bool C) (dCons ta dNil)) (∃ s, f s ≠ 0) := fun n Q q =>
  ha n _ fun as oa ea => ⟨_, rfl, as, rfl, _, rfl, q _ (by
    constructor
    · intro h
      cases as with
      | nil => cases h
      | cons z l =>
        have hz : z ∈ z :: l := List.mem_cons_self ..
        have := oa.m.wf.ps z hz
        exact ⟨z.1, by rw [← ea, val_mem oa.m.wf.nd hz]; omega⟩
    · rintro ⟨s, hs⟩
      cases as with
      | nil => exact absurd ((ea s).symm) hs
      | cons z l => rfl)⟩
theorem ts_var {k : Nat} {b : Bool} (h : ρ[k]? = some (some (.val (.bl b)))) (hb : b = true ↔ p) : Ts ρ (dVar k) p := fun n Q q => ⟨_, h, q b hb⟩
theorem bl_iff {a b : Bool} (ha : a = true ↔ p) (hb : b = true ↔ q) : a = b ↔ (p ↔ q) := by
  rw [← ha, ← hb]
  cases a <;> cases b <;> simp
theorem ts_ne (ha : Ts ρ ta p) (hb : Ts ρ tb q) : Ts ρ (dOp neD ta tb) (¬ (p ↔ q)) := fun n Q qq =>
  ha n _ fun a ea => hb n _ fun b eb => ⟨_, ne_bl a b, qq _ (by rw [← bl_iff ea eb]; simp)⟩
theorem ts_eq (ha : Ts ρ ta p) (hb : Ts ρ tb q) : Ts ρ (dOp eqD ta tb) (p ↔ q) := fun n Q qq =>
  ha n _ fun a ea => hb n _ fun b eb => ⟨_, eq_bl a b, qq _ (by rw [← bl_iff ea eb]; simp)⟩
theorem ne_int (i j : Int) : neD (.int i) (.int j) = some (.bl (!decide (i = j))) := ne_pl (k := 0) rfl rfl (by simp)
theorem ts_neI (ha : Vl ρ ta (.int i)) (hb : Vl ρ tb (.int j)) : Ts ρ (dOp neD ta tb) (i ≠ j) := fun n Q qq =>
  ha n _ (hb n _ ⟨_, ne_int i j, qq _ (by simp)⟩)
theorem ts_not (ha : Ts ρ ta p) : Ts ρ (dNotV ta) (¬ p) := fun n Q qq => ha n _ fun a ea => ⟨a, rfl, qq _ (by rw [← ea]; cases a <;> simp)⟩
theorem ts_and (ha : Ts ρ ta p) (hb : Ts ρ tb q) : Ts ρ (dAndV ta tb) (p ∧ q) := fun n Q qq => ha n _ fun a ea => ⟨a, rfl, by
  cases a with
  | false => rw [if_neg (by decide)]; exact qq false (by rw [← ea]; simp)
  | true => rw [if_pos rfl]; exact hb n _ fun b eb => qq b (by rw [← ea, ← eb]; simp)⟩
theorem ts_or (ha : Ts ρ ta p) (hb : Ts ρ tb q) : Ts ρ (dOrV ta tb) (p ∨ q) := fun n Q qq => ha n _ fun a ea => ⟨a, rfl, by
  cases a with
  | true => rw [if_pos rfl]; exact qq true (by rw [← ea]; simp)
  | false => rw [if_neg (by decide)]; exact hb n _ fun b eb => qq b (by rw [← ea, ← eb]; simp)⟩
theorem tt_t (ha : Ts ρ ta p) (h : p) : Tt ρ (dTest ta) true := fun n Q qq => ha n _ fun a ea => ⟨a, rfl, by rw [ea.mpr h]; exact qq⟩
theorem tt_f (ha : Ts ρ ta p) (h : ¬ p) : Tt ρ (dTest ta) false := fun n Q qq => ha n _ fun a ea => ⟨a, rfl, by rw [show a = false from by cases a; rfl; exact absurd (ea.mp rfl) h]; exact qq⟩
theorem tt_nt (ha : Tt ρ tt true) : Tt ρ (dNot tt) false := fun n Q qq => ha n _ qq
theorem tt_or (ha : Tt ρ tt false) (hb : Tt ρ uu false) : Tt ρ (dOr tt uu) false := fun n Q qq => ha n _ (by rw [if_neg (by decide)]; exact hb n _ qq)
theorem st_skip {s1 s2 : TDS} {De : DEnds} {n : Nat} (h : Tt ρ tt false) (r : s2 De ρ n x0) : dSeq (dIfS tt s1 dNext) s2 De ρ n x0 := h n _ (by rw [if_neg (by decide)]; exact r)
theorem st_ret {De : DEnds} {n : Nat} (h : Ts ρ te p) (hp : p) (r : De.rt (.bl true) n) : dRet te De ρ n x0 := h n _ fun b hb => by rw [hb.mpr hp]; exact r
end
end MK
set_option Elab.async false
set_option linter.all false
set_option maxRecDepth 100000
set_option maxHeartbeats 1000000
set_option autoImplicit false
/-! The law of the lattice: what is asked of marks, in plain Lean. -/
namespace MK
open PySem L2 DL
theorem fa {p q : Str → Prop} (h : ∀ s, p s ↔ q s) : (∀ s, p s) ↔ ∀ s, q s := ⟨fun a s => (h s).mp (a s), fun a s => (h s).mpr (a s)⟩
theorem sub_ex {f g : Str → Int} (hf : ∀ s, 0 ≤ f s) (hg : ∀ s, 0 ≤ g s) : ¬ ((∃ s, subI (f s) (g s) ≠ 0) ↔ ∀ s, f s ≤ g s) := by
  intro h
  by_cases e : ∀ s, f s ≤ g s
  · obtain ⟨s, hs⟩ := h.mpr e
    apply hs
    have := e s
    unfold subI
    rw [if_neg (by omega)]
  · apply e
    apply h.mp
    obtain ⟨s, hs⟩ := Classical.not_forall.mp e
    refine ⟨s, ?_⟩
    have := hf s
    have := hg s
    unfold subI
    rw [if_pos (by omega)]
    omega
section
variable {C : Addr} {ys : List Str} {ρ : DSt} {ta tb te to : TD} {f g : Str → Int} {d e r : D}
theorem vl_op {fn : D → D → Option D} (ha : Vl ρ ta d) (hb : Vl ρ tb e) (h : fn d e = some r) : Vl ρ (dOp fn ta tb) r := fun n Q q => ha n _ (hb n _ ⟨r, h, q⟩)
theorem vl_cl1 {fn : List D → Option D} (ha : Vl ρ ta d) (h : fn [d] = some r) : Vl ρ (dCl fn (dCons ta dNil)) r := fun n Q q => ha n _ ⟨r, h, q⟩
theorem vl_to {j : Int} (ha : Vl ρ ta d) (hb : Vl ρ tb (.int j)) (h : sliceD d none (some j) = some r) : Vl ρ (dSlice ta ONone (OSome tb)) r := fun n Q q => ha n _ (hb n _ ⟨j, rfl, r, h, q⟩)
theorem st_par {i j : Nat} {u : TDS} {De : DEnds} {n : Nat} (ha : Vl ρ ta d) (hb : Vl ρ tb e) (h : u De ((ρ.set i (some (.val d))).set j (some (.val e))) n x0) : dSeq (dPar i j (dCons ta (dCons tb dNil))) u De ρ n x0 :=
  ha n _ (hb n _ ⟨d, e, rfl, h⟩)
theorem st_parG {i j : Nat} {u : TDS} {De : DEnds} {n : Nat} (ha : Gv C ys ρ ta f) (hb : Gv C ys ρ tb g) (h : ∀ l m, Ov ys l → Ov ys m → (∀ s, val l s = f s) → (∀ s, val m s = g s) → u De ((ρ.set i (some (.val (markD C l)))).set j (some (.val (markD C m)))) n x0) : dSeq (dPar i j (dCons ta (dCons tb dNil))) u De ρ n x0 :=
  ha n _ fun l ol el => hb n _ fun m om em => ⟨_, _, rfl, h l m ol om el em⟩
theorem st_setG {i : Nat} {u : TDS} {De : DEnds} {n : Nat} (ha : Gv C ys ρ ta f) (h : ∀ l, Ov ys l → (∀ s, val l s = f s) → u De (ρ.set i (some (.val (markD C l)))) n x0) : dSeq (dAsg ta (gN i)) u De ρ n x0 :=
  ha n _ fun l ol el => ⟨_, rfl, h l ol el⟩
theorem st_setT {i : Nat} {u : TDS} {De : DEnds} {n : Nat} {p : Prop} (ha : Ts ρ ta p) (h : ∀ b : Bool, (b = true ↔ p) → u De (ρ.set i (some (.val (.bl b)))) n x0) : dSeq (dAsg ta (gN i)) u De ρ n x0 :=
  ha n _ fun b hb => ⟨_, rfl, h b hb⟩
end
/-! the methods' facts -/
section
variable {ys ss : List Str} {a b lo hi pt : Row} {S O : Str} (oa : Ov ys a) (ob : Ov ys b) (ol : Ov ys lo) (oh : Ov ys hi) (el : ∀ s, val lo s = minI (val a s) (val b s)) (eh : ∀ s, val hi s = maxI (val a s) (val b s))
include oa ob ol oh el eh
theorem lo_hi (s : Str) : val lo s ≤ val hi s := by rw [el, eh, maxI_eq, minI_eq]; omega
theorem me_only : ∀ z, (if z = S then val lo z else 0) ≤ (if z = S then val hi z else 0) := fun z => by
  have := lo_hi oa ob ol oh el eh z
  split <;> omega
theorem me_without : ∀ z, (if z = S then 0 else val lo z) ≤ (if z = S then 0 else val hi z) := fun z => by
  have := lo_hi oa ob ol oh el eh z
  split <;> omega
theorem me_one : ∀ z, (if z ∈ ss then mxF (val lo) else 0) ≤ (if z ∈ ss then mxF (val hi) else 0) := fun z => by
  have := mx_mono ol.fin oh.fin (lo_hi oa ob ol oh el eh)
  split <;> omega
theorem me_put {i : Int} : ∀ z, (if z = S then i else val lo z) ≤ (if z = S then i else val hi z) := fun z => by
  have := lo_hi oa ob ol oh el eh z
  split <;> omega
theorem me_one_or : ∀ z, (if z ∈ ss then mxF (val hi) else 0) = maxI (if z ∈ ss then mxF (val a) else 0) (if z ∈ ss then mxF (val b) else 0) := fun z => by
  have e : val hi = fun s => maxI (val a s) (val b s) := funext eh
  have := mx_or oa.fin ob.fin
  rw [e, this]
  split <;> rfl
theorem me_one_and : ∀ z, (if z ∈ ss then mxF (val lo) else 0) ≤ minI (if z ∈ ss then mxF (val a) else 0) (if z ∈ ss then mxF (val b) else 0) := fun z => by
  have h1 := mx_mono ol.fin oa.fin fun s => by rw [el, minI_eq]; omega
  have h2 := mx_mono ol.fin ob.fin fun s => by rw [el, minI_eq]; omega
  rw [minI_eq]
  split <;> omega
theorem me_taken_or : ∀ z, (if z = O then val hi S else 0) = maxI (if z = O then val a S else 0) (if z = O then val b S else 0) := fun z => by
  rw [eh]
  split <;> rfl
theorem me_taken_and : ∀ z, (if z = O then val lo S else 0) = minI (if z = O then val a S else 0) (if z = O then val b S else 0) := fun z => by
  rw [el]
  split <;> rfl
omit ob ol oh el eh
theorem me_parts : ∀ z, maxI (if z = S then val a z else 0) (if z = S then 0 else val a z) = val a z := fun z => by
  have := oa.nn z
  rw [maxI_eq]
  split <;> omega
theorem me_apart : ¬ ∃ z, minI (if z = S then val a z else 0) (if z = S then 0 else val a z) ≠ 0 := by
  rintro ⟨z, hz⟩
  have := oa.nn z
  apply hz
  rw [minI_eq]
  split <;> omega
theorem me_back {i : Int} (ep : ∀ s, val pt s = if s = S then i else val a s) : ∀ z, (if z = S then 0 else val pt z) = if z = S then 0 else val a z := fun z => by
  rw [ep]
  split <;> rfl
theorem me_again : ∀ z, (if z = S then val a S else val a z) = val a z := fun z => by
  by_cases e : z = S
  · rw [if_pos e, e]
  · rw [if_neg e]
theorem me_self : ∀ z, (if z = S then val a S else 0) = if z = S then val a z else 0 := fun z => by
  by_cases e : z = S
  · rw [if_pos e, if_pos e, e]
  · rw [if_neg e, if_neg e]
theorem me_all : ∀ z, val a z ≤ if z ∈ ys then mxF (val a) else 0 := fun z => by
  by_cases e : z ∈ ys
  · rw [if_pos e]; exact oa.fin.max.up z
  · rw [if_neg e]
    by_cases e2 : val a z = 0
    · omega
    · exact absurd (oa.ov z e2) e
end
def F_signs (C : Addr) : DF := fun ds n Q _ => ∃ (ys : List Str) (a b c : Row), ys.length ≤ 6 ∧ ds = [markD C a, markD C b, markD C c] ∧ Ov ys a ∧ Ov ys b ∧ Ov ys c ∧ Q (.bl true) n
def F_methods (C : Addr) : DF := fun ds n Q _ => ∃ (ys : List Str) (a b : Row) (k : Nat), Nms ys ∧ k < ys.length ∧ ds = [markD C a, markD C b, .lst (ys.map .str), .int k] ∧ Ov ys a ∧ Ov ys b ∧ Q (.bl true) n
def foldM (ms : List Row) (s : Str) : Int := (ms.map fun l => val l s).foldl maxI 0
def F_joined (C : Addr) : DF := fun ds n Q _ => ∃ (ys : List Str) (ms : List Row), ys.length ≤ 6 ∧ ds = [.lst (ms.map (markD C))] ∧ (∀ l ∈ ms, Ov ys l) ∧ ∀ ts, Ov ys ts → (∀ s, val ts s = foldM ms s) → Q (markD C ts) n
end MK
set_option Elab.async false
set_option linter.all false
set_option maxRecDepth 100000
set_option maxHeartbeats 1000000
set_option autoImplicit false
/-! The greatest and the least of many marks, in plain Lean. -/
namespace MK
open PySem L2 DL
theorem max_up : ∀ (ns : List Int) (a : Int), a ≤ ns.foldl maxI a ∧ (∀ y ∈ ns, y ≤ ns.foldl maxI a) ∧ ns.foldl maxI a ∈ a :: ns
  | [], a => ⟨Int.le_refl _, fun y h => (nomatch h), List.mem_cons_self ..⟩
  | b :: ns, a => by
    obtain ⟨h1, h2, h3⟩ := max_up ns (maxI a b)
    have e := maxI_eq a b
    show a ≤ ns.foldl maxI (maxI a b) ∧ (∀ y ∈ b :: ns, y ≤ ns.foldl maxI (maxI a b)) ∧ ns.foldl maxI (maxI a b) ∈ a :: b :: ns
    refine ⟨by omega, fun y hy => ?_, ?_⟩
    · rcases List.mem_cons.mp hy with rfl | hy
      · omega
      · exact h2 y hy
    · rcases List.mem_cons.mp h3 with h | h
      · rw [h]
        by_cases c : a ≤ b
        · rw [show maxI a b = b by omega]; exact List.mem_cons_of_mem _ (List.mem_cons_self ..)
        · rw [show maxI a b = a by omega]; exact List.mem_cons_self ..
      · exact List.mem_cons_of_mem _ (List.mem_cons_of_mem _ h)
theorem min_lo : ∀ (ns : List Int) (a : Int), ns.foldl minI a ≤ a ∧ (∀ y ∈ ns, ns.foldl minI a ≤ y) ∧ ns.foldl minI a ∈ a :: ns
  | [], a => ⟨Int.le_refl _, fun y h => (nomatch h), List.mem_cons_self ..⟩
  | b :: ns, a => by
    obtain ⟨h1, h2, h3⟩ := min_lo ns (minI a b)
    have e := minI_eq a b
    show ns.foldl minI (minI a b) ≤ a ∧ (∀ y ∈ b :: ns, ns.foldl minI (minI a b) ≤ y) ∧ ns.foldl minI (minI a b) ∈ a :: b :: ns
    refine ⟨by omega, fun y hy => ?_, ?_⟩
    · rcases List.mem_cons.mp hy with rfl | hy
      · omega
      · exact h2 y hy
    · rcases List.mem_cons.mp h3 with h | h
      · rw [h]
        by_cases c : a ≤ b
        · rw [show minI a b = a by omega]; exact List.mem_cons_self ..
        · rw [show minI a b = b by omega]; exact List.mem_cons_of_mem _ (List.mem_cons_self ..)
      · exact List.mem_cons_of_mem _ (List.mem_cons_of_mem _ h)
theorem max_is {ns : List Int} {m : Int} (hm : m ∈ ns) (hu : ∀ y ∈ ns, y ≤ m) (h0 : ∀ y ∈ ns, 0 ≤ y) : m = ns.foldl maxI 0 := by
  obtain ⟨h1, h2, h3⟩ := max_up ns 0
  have a := h2 m hm
  rcases List.mem_cons.mp h3 with h | h
  · have := h0 m hm; omega
  · have := hu _ h; omega
/-- the least of each store -/
def foldN (ms : List Row) (s : Str) : Int := match ms with | [] => 0 | l :: _ => (ms.map fun l => val l s).foldl minI (val l s)
theorem min_is {l : Row} {ms : List Row} {s : Str} {m : Int} (hm : m ∈ (l :: ms).map fun l => val l s) (hu : ∀ y ∈ (l :: ms).map fun l => val l s, m ≤ y) : m = foldN (l :: ms) s := by
  show m = ((l :: ms).map fun l => val l s).foldl minI (val l s)
  obtain ⟨h1, h2, h3⟩ := min_lo ((l :: ms).map fun l => val l s) (val l s)
  have a := h2 m hm
  have b := hu (((l :: ms).map fun l => val l s).foldl minI (val l s)) (by
    rcases List.mem_cons.mp h3 with h | h
    · rw [h]; exact List.mem_cons_self ..
    · exact h)
  omega
/-- tables and their marks tell the same numbers -/
def Alike (ms ts : List Row) : Prop := ∀ s, (ms.map fun l => val l s) = ts.map fun l => val l s
theorem Alike.M {ms ts : List Row} (h : Alike ms ts) (s : Str) : foldM ms s = foldM ts s := by unfold foldM; rw [h s]
theorem Alike.len {ms ts : List Row} (h : Alike ms ts) : ms.length = ts.length := by
  have := congrArg List.length (h ⟨#[]⟩)
  rwa [List.length_map, List.length_map] at this
theorem Alike.N {ms ts : List Row} (h : Alike ms ts) (s : Str) : foldN ms s = foldN ts s := by
  have hl := h.len
  cases ms with
  | nil => cases ts with
    | nil => rfl
    | cons _ _ => cases hl
  | cons l ms => cases ts with
    | nil => cases hl
    | cons t ts =>
      show ((l :: ms).map fun l => val l s).foldl minI (val l s) = ((t :: ts).map fun l => val l s).foldl minI (val t s)
      rw [h s]
      have e : val l s = val t s := by
        have := h s
        rw [List.map_cons, List.map_cons] at this
        exact (List.cons.inj this).1
      rw [e]
theorem Alike.snoc {ms ts : List Row} (h : Alike ms ts) {l t : Row} (e : ∀ s, val l s = val t s) : Alike (ms ++ [l]) (ts ++ [t]) := fun s => by
  rw [List.map_append, List.map_append, h s]
  show _ ++ [val l s] = _ ++ [val t s]
  rw [e]
section
variable {ys : List Str} {ms : List Row} (ho : ∀ l ∈ ms, Ov ys l)
include ho
theorem foldM_fin : FinF ys (foldM ms) := by
  refine ⟨fun s => (max_up _ 0).1, fun s hs => ?_⟩
  rcases List.mem_cons.mp (max_up (ms.map fun l => val l s) 0).2.2 with h | h
  · exact absurd h hs
  · obtain ⟨l, hl, e⟩ := List.mem_map.mp h
    exact (ho l hl).ov s (by rw [show val l s = foldM ms s from e]; exact hs)
theorem foldN_fin : FinF ys (foldN ms) := by
  cases ms with
  | nil => exact ⟨fun s => Int.le_refl _, fun s hs => absurd rfl hs⟩
  | cons l r =>
    refine ⟨fun s => ?_, fun s hs => ?_⟩
    · rcases List.mem_cons.mp (min_lo ((l :: r).map fun l => val l s) (val l s)).2.2 with h | h
      · show 0 ≤ ((l :: r).map fun l => val l s).foldl minI (val l s)
        rw [h]; exact (ho l (List.mem_cons_self ..)).nn s
      · obtain ⟨k, hk, e⟩ := List.mem_map.mp h
        show 0 ≤ ((l :: r).map fun l => val l s).foldl minI (val l s)
        rw [← e]; exact (ho k hk).nn s
    · rcases List.mem_cons.mp (min_lo ((l :: r).map fun l => val l s) (val l s)).2.2 with h | h
      · exact (ho l (List.mem_cons_self ..)).ov s (by rw [← h]; exact hs)
      · obtain ⟨k, hk, e⟩ := List.mem_map.mp h
        exact (ho k hk).ov s (by rw [show val k s = foldN (l :: r) s from e]; exact hs)
omit ho
theorem le_foldM {l : Row} (hl : l ∈ ms) (s : Str) : val l s ≤ foldM ms s := (max_up _ 0).2.1 _ (List.mem_map.mpr ⟨l, hl, rfl⟩)
theorem foldN_le {l : Row} (hl : l ∈ ms) (s : Str) : foldN ms s ≤ val l s := by
  cases ms with
  | nil => cases hl
  | cons k r => exact (min_lo ((k :: r).map fun l => val l s) (val k s)).2.1 _ (List.mem_map.mpr ⟨l, hl, rfl⟩)
end
/-- the least, as it is taken up -/
theorem foldN_take (l : Row) (r : List Row) (s : Str) : ((l :: r).map fun l => val l s).foldl minI (val l s) = foldN (l :: r) s := rfl
/-- a mark is what is due -/
theorem due_is {ys : List Str} {f : Str → Int} {l qs : Row} (nd : ys.Nodup) (hn : ∀ s ∈ ys, NameOk s) (hf : FinF ys f) (o : Ov ys l) (e : ∀ s, val l s = f s) (due : Due (rowOf ys f) qs) : l = qs := by
  have tb : Tbl (rowOf ys f) := rowOf_tbl nd hn fun s _ => hf.nn s
  refine o.m.wf.ext (due.wf tb) fun s => ?_
  rw [due.val tb, rowOf_val nd, e]
  by_cases h : s ∈ ys
  · rw [if_pos h]
  · rw [if_neg h]
    exact Classical.byContradiction fun h2 => h (hf.ov s h2)
/-- a mark joined of its stores' marks -/
theorem parts_join {ys : List Str} {a : Row} (oa : Ov ys a) {ms : List Row} (h : Paired (fun (s : Str) (l : Row) => ∀ z, val l z = if z = s then val a z else 0) ys ms) (z : Str) : foldM ms z = val a z := by
  have hin : ∀ {ss : List Str} {ms : List Row}, Paired (fun (s : Str) (l : Row) => ∀ z, val l z = if z = s then val a z else 0) ss ms → (∀ l ∈ ms, val l z = 0 ∨ val l z = val a z) ∧ (z ∈ ss → ∃ l ∈ ms, val l z = val a z) := by
    intro ss ms h
    induction h with
    | nil => exact ⟨fun l h => (nomatch h), fun h => (nomatch h)⟩
    | @cons s l ss ms h r ih =>
      refine ⟨fun k hk => ?_, fun hz => ?_⟩
      · rcases List.mem_cons.mp hk with rfl | hk
        · rw [h]
          by_cases e : z = s
          · rw [if_pos e]; exact .inr rfl
          · rw [if_neg e]; exact .inl rfl
        · exact ih.1 k hk
      · rcases List.mem_cons.mp hz with e | hz
        · exact ⟨l, List.mem_cons_self .., by rw [h, if_pos e]⟩
        · obtain ⟨k, hk, e⟩ := ih.2 hz
          exact ⟨k, List.mem_cons_of_mem _ hk, e⟩
  obtain ⟨h1, h2⟩ := hin h
  obtain ⟨u1, u2, u3⟩ := max_up (ms.map fun l => val l z) 0
  show (ms.map fun l => val l z).foldl maxI 0 = _
  have na := oa.nn z
  by_cases e : val a z = 0
  · rcases List.mem_cons.mp u3 with h | h
    · omega
    · obtain ⟨l, hl, el⟩ := List.mem_map.mp h
      have el : val l z = _ := el
      rcases h1 l hl with k | k <;> omega
  · obtain ⟨k, hk, ek⟩ := h2 (oa.ov z e)
    have a1 := u2 (val k z) (List.mem_map.mpr ⟨k, hk, rfl⟩)
    rcases List.mem_cons.mp u3 with h | h
    · omega
    · obtain ⟨l, hl, el⟩ := List.mem_map.mp h
      have el : val l z = _ := el
      rcases h1 l hl with k | k <;> omega
section
variable {f : TDG} {tt : TDT} {te : TD} {vs : List Nat} {ρ : DSt} {l : List D} {n1 : Nat} {Q : DQ}
/-- each item by what P lets it become; no draws -/
theorem lc_any (P : D → Option D → Prop) (hl : l.length ≤ most)
    (h : ∀ d ∈ l, ∃ ρ', f d (wipeD ρ vs) = some ρ' ∧ ∀ (n : Nat) (Qt : DQ) (Qf : Nat → Prop), (∀ r, P d (some r) → Qt r n) → (P d none → Qf n) → tt ρ' n (fun b n2 => if b = true then te ρ' n2 Qt x0 else Qf n2) x0)
    (q : ∀ os, Paired P l os → Q (.lst (os.filterMap id)) n1) : LcB f tt te vs ρ Q l n1 := by
  refine ⟨hl, fun i acc n => n = n1 ∧ ∃ os, Paired P (l.take i) os ∧ acc = os.filterMap id, ⟨rfl, [], .nil, rfl⟩, fun i acc n d hd ⟨en, os, ho, ea⟩ => ?_, fun acc n ⟨en, os, ho, ea⟩ _ => ?_⟩
  · obtain ⟨ρ', ef, hh⟩ := h d (List.mem_of_getElem? hd)
    have hx : ∀ o, P d o → Paired P (l.take (i + 1)) (os ++ [o]) := fun o hp => by
      rw [List.take_add_one, hd]
      exact paired_snoc ho hp
    refine ⟨ρ', ef, hh n _ _ (fun r hp => ⟨en, os ++ [some r], hx _ hp, ?_⟩) fun hp => ⟨en, os ++ [none], hx _ hp, ?_⟩⟩
    · rw [ea, List.filterMap_append]; rfl
    · rw [ea, List.filterMap_append]; exact (List.append_nil _).symm
  · rw [List.take_length] at ho
    rw [en, ea]
    exact q os ho
end
end MK
set_option Elab.async false
set_option linter.all false
set_option maxRecDepth 100000
set_option maxHeartbeats 1000000
set_option autoImplicit false
/-! Any values; the five methods with any arguments. -/
namespace MK
open PySem L2 DL
/-- a value of a known kind; a text is not too long -/
def anyB (C : Addr) (d : D) : Bool := (match tnOf d with | some a => okT C a | none => false) && (match d with | .str s => decide (s.length ≤ 1000) | _ => true)
theorem anyB_tn {C : Addr} {d : D} (h : anyB C d = true) : ∃ a, tnOf d = some a ∧ okT C a = true := by
  unfold anyB at h
  rw [Bool.and_eq_true] at h
  cases e : tnOf d with
  | none => rw [e] at h; exact absurd h.1 Bool.false_ne_true
  | some a => rw [e] at h; exact ⟨a, rfl, h.1⟩
theorem anyB_str {C : Addr} {s : Str} (h : anyB C (.str s) = true) : s.length ≤ 1000 := by
  unfold anyB at h
  rw [Bool.and_eq_true] at h
  exact of_decide_eq_true h.2
def nameD : D → Bool
  | .str s => nameB s
  | _ => false
theorem nameD_str {d : D} (h : nameD d = true) : ∃ s, d = .str s ∧ NameOk s := by
  cases d with
  | str s => exact ⟨s, rfl, nameB_iff.mp h⟩
  | _ => cases h
def F_is_nameG (C : Addr) : DF := fun ds n Q _ => ∃ d, ds = [d] ∧ anyB C d = true ∧ Q (.bl (nameD d)) n
/-- by either answer -/
def Way (b : Bool) (p q : Prop) : Prop := (b = true → p) ∧ (b = false → q)
theorem way_if {b : Bool} {p q : Prop} (h : Way b p q) : if b = true then p else q := by
  cases b with
  | true => exact h.1 rfl
  | false => exact h.2 rfl
section
variable (C B G : Addr)
def X_only : DF := fun ds n Q x => ∃ (qs : Row) (d : D), ds = [markD C qs, d] ∧ Mk qs ∧ anyB C d = true ∧ (∀ s, d = .str s → NameOk s → ∀ ts : Row, Mk ts → (∀ z, val ts z = if z = s then val qs z else 0) → Q (markD C ts) n) ∧ (nameD d = false → x B [("value", d)] n)
def X_without : DF := fun ds n Q x => ∃ (qs : Row) (d : D), ds = [markD C qs, d] ∧ Mk qs ∧ anyB C d = true ∧ (∀ s, d = .str s → NameOk s → ∀ ts : Row, Mk ts → (∀ z, val ts z = if z = s then 0 else val qs z) → Q (markD C ts) n) ∧ (nameD d = false → x B [("value", d)] n)
/-- the first that is no name -/
def oddOne : List D → Option D
  | [] => none
  | d :: l => if nameD d = true then oddOne l else some d
def X_one : DF := fun ds n Q x => ∃ (qs : Row) (d : D), ds = [markD C qs, d] ∧ Mk qs ∧ anyB C d = true ∧ ((∀ l, d ≠ .tup l) → x B [("value", d)] n) ∧
  ∀ l, d = .tup l → l.length < 32 ∧ (∀ e ∈ l, anyB C e = true) ∧ (∀ e, oddOne l = some e → x B [("value", e)] n) ∧
    (∀ ss : List Str, l = ss.map .str → (∀ s ∈ ss, NameOk s) → ∀ (g : Int) (ts : Row), IsMax qs g → Mk ts → (∀ z, val ts z = if z ∈ ss then g else 0) → Q (markD C ts) n)
def X_taken : DF := fun ds n Q x => ∃ (qs : Row) (d e : D), ds = [markD C qs, d, e] ∧ Mk qs ∧ anyB C d = true ∧ anyB C e = true ∧ (∀ s o, d = .str s → e = .str o → NameOk s → NameOk o → ∀ ts : Row, Mk ts → (∀ z, val ts z = if z = o then val qs s else 0) → Q (markD C ts) n) ∧
  (∀ b, oddOne [d, e] = some b → x B [("value", b)] n)
def X_put : DF := fun ds n Q x => ∃ (qs : Row) (d e : D), ds = [markD C qs, d, e] ∧ Mk qs ∧ qs.length < 31 ∧ anyB C d = true ∧ anyB C e = true ∧ (∀ s i, d = .str s → e = .int i → NameOk s → 0 ≤ i → ∀ ts : Row, Mk ts → (∀ z, val ts z = if z = s then i else val qs z) → Q (markD C ts) n) ∧
  (nameD d = false → x B [("value", d)] n) ∧ (nameD d = true → countB e = false → x G [("value", e)] n)
end
theorem odd_none : ∀ {l : List D}, oddOne l = none → ∃ ss : List Str, l = ss.map .str ∧ ∀ s ∈ ss, NameOk s
  | [], _ => ⟨[], rfl, fun s h => (nomatch h)⟩
  | d :: l, h => by
    unfold oddOne at h
    by_cases e : nameD d = true
    · rw [if_pos e] at h
      obtain ⟨ss, rfl, hs⟩ := odd_none h
      obtain ⟨s, rfl, hn⟩ := nameD_str e
      exact ⟨s :: ss, rfl, fun z hz => by
        rcases List.mem_cons.mp hz with rfl | hz
        · exact hn
        · exact hs z hz⟩
    · rw [if_neg e] at h; cases h
/-- the names, each once, as they come -/
def dedup : List Str → List Str → List Str
  | acc, [] => acc
  | acc, s :: l => dedup (if s ∈ acc then acc else acc ++ [s]) l
theorem dedup_snoc (s : Str) : ∀ (l acc : List Str), dedup acc (l ++ [s]) = if s ∈ dedup acc l then dedup acc l else dedup acc l ++ [s]
  | [], acc => rfl
  | a :: l, acc => by
    show dedup (if a ∈ acc then acc else acc ++ [a]) (l ++ [s]) = _
    rw [dedup_snoc s l]
    rfl
theorem dedup_mem : ∀ (l acc : List Str) (z : Str), z ∈ dedup acc l ↔ z ∈ acc ∨ z ∈ l
  | [], acc, z => by simp [dedup]
  | a :: l, acc, z => by
    show z ∈ dedup (if a ∈ acc then acc else acc ++ [a]) l ↔ _
    rw [dedup_mem l]
    by_cases h : a ∈ acc
    · rw [if_pos h, List.mem_cons]
      constructor
      · rintro (h1 | h1)
        · exact .inl h1
        · exact .inr (.inr h1)
      · rintro (h1 | rfl | h1)
        · exact .inl h1
        · exact .inl h
        · exact .inr h1
    · rw [if_neg h, List.mem_append, List.mem_singleton, List.mem_cons, or_assoc]
theorem dedup_nd : ∀ (l acc : List Str), acc.Nodup → (dedup acc l).Nodup
  | [], acc, h => h
  | a :: l, acc, h => by
    show (dedup (if a ∈ acc then acc else acc ++ [a]) l).Nodup
    refine dedup_nd l _ ?_
    by_cases e : a ∈ acc
    · rw [if_pos e]; exact h
    · rw [if_neg e]
      exact List.nodup_append.mpr ⟨h, List.nodup_cons.mpr ⟨fun z => (nomatch z), List.nodup_nil⟩, fun b hb c hc ee => e (by rw [← List.mem_singleton.mp hc, ← ee]; exact hb)⟩
theorem dedup_len : ∀ (l acc : List Str), (dedup acc l).length ≤ acc.length + l.length
  | [], acc => Nat.le_refl _
  | a :: l, acc => by
    show (dedup (if a ∈ acc then acc else acc ++ [a]) l).length ≤ _
    refine Nat.le_trans (dedup_len l _) ?_
    by_cases e : a ∈ acc
    · rw [if_pos e, List.length_cons]; omega
    · rw [if_neg e, List.length_append]; show acc.length + 1 + l.length ≤ acc.length + (l.length + 1); omega
/-- a key that is there gets the number that it has -/
theorem put_same {ys : List Str} {g : Int} {s : Str} (h : s ∈ ys) : putD (dctR (rowOf ys fun _ => g)) (Sum.inr s) (.int g) = dctR (rowOf ys fun _ => g) := by
  unfold putD
  have e1 : ((dctR (rowOf ys fun _ => g)).any fun kv => decide (kv.1 = (Sum.inr s : Key))) = true := by
    rw [List.any_eq_true]
    refine ⟨(Sum.inr s, .int g), List.mem_map.mpr ⟨(s, g), List.mem_map.mpr ⟨s, h, rfl⟩, rfl⟩, by simp⟩
  rw [e1, if_pos rfl]
  refine (List.map_congr_left fun kv hkv => ?_).trans (List.map_id _)
  obtain ⟨z, hz, rfl⟩ := List.mem_map.mp hkv
  obtain ⟨y, hy, rfl⟩ := List.mem_map.mp hz
  dsimp only
  split
  · rfl
  · rfl
end MK
set_option Elab.async false
set_option linter.all false
set_option maxRecDepth 100000
set_option maxHeartbeats 1000000
set_option autoImplicit false
/-! k02: the law's own helpers as promises; what is due. -/
namespace MK
open PySem L2 DL
def F_figureB : DF := fun ds n Q _ => ds = [.pot] ∧ 3 ≤ n ∧ ∀ (i : Int) (n' : Nat), 0 ≤ i → i < 10 ^ 40 → n ≤ n' + 3 → Q (.int i) n'
def F_pairsB : DF := fun ds n Q _ => ∃ ys : List Str, ds = [.pot, .lst (ys.map .str)] ∧ Nms ys ∧ 26 ≤ n ∧ ∀ (ps : Row) (n' : Nat), Tbl ps → (∀ z ∈ ps, z.1 ∈ ys) → (∀ z ∈ ps, z.2 < 10 ^ 40) → ps.length ≤ 6 → n ≤ n' + 26 → Q (.lst (rowD ps)) n'
abbrev PairPB : D → Option D → Prop := fun d o => ∀ r, o = some r → ∃ (s : Str) (i : Int), d = .str s ∧ (0 ≤ i ∧ i < 10 ^ 40) ∧ r = pairD (s, i)
theorem rel_rowB : ∀ {ss : List Str} {os : List (Option D)}, Paired PairPB (ss.map .str) os → ∃ ps : Row, os.filterMap id = rowD ps ∧ (ps.map (·.1)).Sublist ss ∧ ∀ z ∈ ps, 0 ≤ z.2 ∧ z.2 < 10 ^ 40
  | [], _, .nil => ⟨[], rfl, List.Sublist.refl _, fun z hz => nomatch hz⟩
  | s :: ss, _, .cons (b := o) h r => by
    obtain ⟨ps, e, sub, nn⟩ := rel_rowB r
    cases o with
    | none => exact ⟨ps, by rw [List.filterMap_cons]; exact e, sub.cons _, nn⟩
    | some d =>
      obtain ⟨s', i, es, hi, ed⟩ := h d rfl
      cases es
      refine ⟨(s, i) :: ps, ?_, sub.cons₂ _, fun z hz => ?_⟩
      · rw [List.filterMap_cons]
        show d :: _ = _
        rw [e, ed]
        rfl
      · rcases List.mem_cons.mp hz with rfl | hz
        · exact hi
        · exact nn z hz
/-- a small value of a known kind -/
structure Arg (C : Addr) (d : D) : Prop where
  sm : Sm 2 d
  an : anyB C d = true
theorem NameOk.sm {s : Str} (h : NameOk s) : SmT s := ⟨Nat.le_trans h.hi (by decide), fun c hc => Nat.lt_trans (letter_lt c (h.al c hc)) (by decide)⟩
theorem NameOk.arg {C : Addr} {s : Str} (h : NameOk s) : Arg C (.str s) := ⟨h.sm, by
  unfold anyB
  rw [Bool.and_eq_true]
  exact ⟨rfl, decide_eq_true (Nat.le_trans h.hi (by decide))⟩⟩
theorem smT_of {s : Str} (h : (decide (s.cps.size ≤ 9) && s.cps.toList.all fun c => decide (c < 16 ^ 8)) = true) : SmT s := by
  rw [Bool.and_eq_true, List.all_eq_true] at h
  exact ⟨of_decide_eq_true h.1, fun c hc => of_decide_eq_true (h.2 c hc)⟩
theorem arg_int {C : Addr} {i : Int} (h : SmI i) : Arg C (.int i) := ⟨h, rfl⟩
theorem arg_str {C : Addr} {s : Str} (h : (decide (s.cps.size ≤ 9) && s.cps.toList.all fun c => decide (c < 16 ^ 8)) = true) : Arg C (.str s) :=
  ⟨smT_of h, by
    unfold anyB
    rw [Bool.and_eq_true]
    refine ⟨rfl, decide_eq_true (Nat.le_trans (smT_of h).1 (by decide))⟩⟩
def oddA : List D := [.non, .bl true, .bl false, .int 0, .int 1, .int (-1), .str "", .str "A", .str "one", .str "none", .str "only", .str "without", .str "as", .str "a b", .str "abcdefghi", .str "a1"]
def oddB : List D := [.tup [], .tup [.str "a"], .lst [], .lst [.str "a"], .dct [], .dct [(Sum.inr "a", .int 1)], .tup [.tup [.str "a", .int 1]]]
def oddC : List D := [.bl true, .bl false, .int (-1), .non, .str "1", .tup [], .lst [.int 1], .dct []]
theorem smA : SmT "a" := smT_of (by decide +kernel)
theorem sm1 : SmI 1 := .inl ⟨by decide, by decide⟩
theorem sm_one {k : Nat} {d e : D} (h : Sm k d) (m : e ∈ [d]) : Sm k e := by rw [List.mem_singleton.mp m]; exact h
theorem sm_two {k : Nat} {d d' e : D} (h : Sm k d) (h' : Sm k d') (m : e ∈ [d, d']) : Sm k e := by
  rcases List.mem_cons.mp m with rfl | m
  · exact h
  · exact sm_one h' m
theorem odd_arg {C : Addr} : ∀ d ∈ oddA ++ oddB, Arg C d := by
  intro d hd
  simp only [oddA, oddB, List.cons_append, List.nil_append, List.mem_cons, List.not_mem_nil, or_false] at hd
  rcases hd with rfl | rfl | rfl | rfl | rfl | rfl | rfl | rfl | rfl | rfl | rfl | rfl | rfl | rfl | rfl | rfl | rfl | rfl | rfl | rfl | rfl | rfl | rfl
  · exact ⟨trivial, rfl⟩
  · exact ⟨trivial, rfl⟩
  · exact ⟨trivial, rfl⟩
  · exact arg_int (.inl ⟨by decide, by decide⟩)
  · exact arg_int sm1
  · exact arg_int (.inr (.inl rfl))
  iterate 10 exact arg_str (by decide +kernel)
  · exact ⟨⟨Nat.zero_le _, fun d m => nomatch m⟩, rfl⟩
  · exact ⟨⟨by show 1 ≤ 9; decide, fun d m => sm_one (k := 1) (d := .str "a") smA m⟩, rfl⟩
  · exact ⟨⟨Nat.zero_le _, fun d m => nomatch m⟩, rfl⟩
  · exact ⟨⟨by show 1 ≤ 9; decide, fun d m => sm_one (k := 1) (d := .str "a") smA m⟩, rfl⟩
  · exact ⟨⟨Nat.zero_le _, fun d m => nomatch m⟩, rfl⟩
  · exact ⟨⟨by show 1 ≤ 9; decide, fun q m => by rw [List.mem_singleton.mp m]; exact ⟨smA, sm1⟩⟩, rfl⟩
  · exact ⟨⟨by show 1 ≤ 9; decide, fun d m => sm_one (k := 1) (d := .tup [.str "a", .int 1]) ⟨by show 2 ≤ 9; decide, fun e m => sm_two (k := 0) (d := .str "a") (d' := .int 1) smA sm1 m⟩ m⟩, rfl⟩
theorem odd_fig {C : Addr} : ∀ d ∈ oddC, Arg C d := by
  intro d hd
  simp only [oddC, List.mem_cons, List.not_mem_nil, or_false] at hd
  rcases hd with rfl | rfl | rfl | rfl | rfl | rfl | rfl | rfl
  · exact ⟨trivial, rfl⟩
  · exact ⟨trivial, rfl⟩
  · exact arg_int (.inr (.inl rfl))
  · exact ⟨trivial, rfl⟩
  · exact arg_str (by decide +kernel)
  · exact ⟨⟨Nat.zero_le _, fun d m => nomatch m⟩, rfl⟩
  · exact ⟨⟨by show 1 ≤ 9; decide, fun d m => sm_one (k := 1) (d := .int 1) sm1 m⟩, rfl⟩
  · exact ⟨⟨Nat.zero_le _, fun d m => nomatch m⟩, rfl⟩
section
variable (C : Addr)
def F_countG : DF := fun ds n Q _ => ∃ d, ds = [d] ∧ anyB C d = true ∧ Q (.bl (countB d)) n
def F_odd_thing : DF := fun ds n Q _ => ds = [.pot] ∧ 1 ≤ n ∧ ∀ d, Arg C d → Q d (n - 1)
def F_name_of : DF := fun ds n Q _ => ∃ ys : List Str, ds = [.pot, .lst (ys.map .str)] ∧ Nms ys ∧ 2 ≤ n ∧ ∀ (d : D) (n' : Nat), Arg C d → n ≤ n' + 2 → Q d n'
/-- the arguments that a method is called with -/
inductive Args : Str → List D → Prop
  | oneL (es : List D) : es.length ≤ 5 → (∀ e ∈ es, Arg C e) → Args "one" [.lst es]
  | oneT (es : List D) : es.length ≤ 5 → (∀ e ∈ es, Arg C e) → Args "one" [.tup es]
  | put (d e : D) : Arg C d → Arg C e → Args "put" [d, e]
  | taken (d e : D) : Arg C d → Arg C e → Args "taken" [d, e]
  | only (d : D) : Arg C d → Args "only" [d]
  | without (d : D) : Arg C d → Args "without" [d]
def wds : List Str := ["only", "without", "one", "taken", "put"]
def F_args : DF := fun ds n Q _ => ∃ (wd : Str) (ys : List Str), ds = [.pot, .str wd, .lst (ys.map .str)] ∧ wd ∈ wds ∧ Nms ys ∧ 13 ≤ n ∧ ∀ (l : List D) (n' : Nat), Args C wd l → n ≤ n' + 13 → Q (.lst l) n'
end
/-- what a call is to give -/
inductive Out where
  | mark (f : Str → Int) | store (d : D) | number (d : D)
inductive Res (C : Addr) (v : Str → Int) (g : Int) : Str → List D → Out → Prop
  | only (s : Str) : NameOk s → Res C v g "only" [.str s] (.mark fun z => if z = s then v z else 0)
  | onlyX (d : D) : Arg C d → nameD d = false → Res C v g "only" [d] (.store d)
  | without (s : Str) : NameOk s → Res C v g "without" [.str s] (.mark fun z => if z = s then 0 else v z)
  | withoutX (d : D) : Arg C d → nameD d = false → Res C v g "without" [d] (.store d)
  | one (ss : List Str) : ss.length ≤ 5 → (∀ s ∈ ss, NameOk s) → Res C v g "one" [.tup (ss.map .str)] (.mark fun z => if z ∈ ss then g else 0)
  | oneX (es : List D) : es.length ≤ 5 → (∀ e ∈ es, Arg C e) → Res C v g "one" [.lst es] (.store (.lst es))
  | oneY (es : List D) (e : D) : es.length ≤ 5 → (∀ e ∈ es, Arg C e) → oddOne es = some e → Res C v g "one" [.tup es] (.store e)
  | taken (s o : Str) : NameOk s → NameOk o → Res C v g "taken" [.str s, .str o] (.mark fun z => if z = o then v s else 0)
  | takenX (d e b : D) : Arg C d → Arg C e → oddOne [d, e] = some b → Res C v g "taken" [d, e] (.store b)
  | put (s : Str) (i : Int) : NameOk s → 0 ≤ i → Arg C (.int i) → Res C v g "put" [.str s, .int i] (.mark fun z => if z = s then i else v z)
  | putX (d e : D) : Arg C d → Arg C e → nameD d = false → Res C v g "put" [d, e] (.store d)
  | putN (s : Str) (e : D) : NameOk s → Arg C e → countB e = false → Res C v g "put" [.str s, e] (.number e)
theorem name_cases (d : D) : (∃ s, d = .str s ∧ NameOk s) ∨ nameD d = false := by
  cases e : nameD d with
  | true => exact .inl (nameD_str e)
  | false => exact .inr rfl
theorem count_cases (d : D) : (∃ i, d = .int i ∧ 0 ≤ i) ∨ countB d = false := by
  cases d with
  | int i =>
    by_cases h : 0 ≤ i
    · exact .inl ⟨i, rfl, h⟩
    · exact .inr (decide_eq_false h)
  | _ => exact .inr rfl
theorem nameD_ok {s : Str} (h : NameOk s) : nameD (.str s) = true := nameB_iff.mpr h
theorem res_ex {C : Addr} (v : Str → Int) (g : Int) {wd : Str} {l : List D} (h : Args C wd l) : ∃ o, Res C v g wd l o := by
  cases h with
  | oneL es hl ha => exact ⟨_, .oneX es hl ha⟩
  | oneT es hl ha =>
    cases e : oddOne es with
    | some b => exact ⟨_, .oneY es b hl ha e⟩
    | none =>
      obtain ⟨ss, rfl, hs⟩ := odd_none e
      exact ⟨_, .one ss (by rwa [List.length_map] at hl) hs⟩
  | put d e hd he =>
    rcases name_cases d with ⟨s, rfl, hs⟩ | h
    · rcases count_cases e with ⟨i, rfl, hi⟩ | h2
      · exact ⟨_, .put s i hs hi he⟩
      · exact ⟨_, .putN s e hs he h2⟩
    · exact ⟨_, .putX d e hd he h⟩
  | taken d e hd he =>
    cases ee : oddOne [d, e] with
    | some b => exact ⟨_, .takenX d e b hd he ee⟩
    | none =>
      obtain ⟨ss, h1, hs⟩ := odd_none ee
      match ss, h1, hs with
      | [s, o], h1, hs =>
        cases h1
        exact ⟨_, .taken s o (hs s (by simp)) (hs o (by simp))⟩
  | only d hd =>
    rcases name_cases d with ⟨s, rfl, hs⟩ | h
    · exact ⟨_, .only s hs⟩
    · exact ⟨_, .onlyX d hd h⟩
  | without d hd =>
    rcases name_cases d with ⟨s, rfl, hs⟩ | h
    · exact ⟨_, .without s hs⟩
    · exact ⟨_, .withoutX d hd h⟩
theorem odd_names {ss : List Str} (h : ∀ s ∈ ss, NameOk s) : oddOne (ss.map .str) = none := by
  induction ss with
  | nil => rfl
  | cons s l ih =>
    show (if nameD (.str s) = true then oddOne (l.map .str) else some (D.str s)) = none
    rw [if_pos (nameD_ok (h s List.mem_cons_self))]
    exact ih fun z m => h z (List.mem_cons_of_mem _ m)
theorem odd_two {s o : Str} (hs : NameOk s) (ho : NameOk o) : oddOne [.str s, .str o] = none := odd_names (ss := [s, o]) fun z m => by
  rcases List.mem_cons.mp m with rfl | m
  · exact hs
  · rw [List.mem_singleton.mp m]; exact ho
/-- how it is told -/
def outQ (o : Out) (Q : DQ) (n : Nat) : Prop := match o with
  | .mark f => ∀ ts : Row, Mk ts → (∀ z, val ts z = f z) → Q (.tup [.str "mark", .tup (rowD ts)]) n
  | .store d => Q (.tup [.str "store", d]) n
  | .number d => Q (.tup [.str "number", d]) n
/-- the greatest number -/
def Gm (v : Str → Int) (g : Int) : Prop := (∀ s, v s ≤ g) ∧ ∃ s, v s = g
theorem Gm.eq {v : Str → Int} {g h : Int} (a : Gm v g) (b : Gm v h) : g = h := by
  obtain ⟨a1, s, a2⟩ := a
  obtain ⟨b1, t, b2⟩ := b
  have := a1 t
  have := b1 s
  omega
def F_called (C : Addr) : DF := fun ds n Q _ => ∃ (qs : Row) (wd : Str) (l : List D) (b : Bool) (g : Int) (o : Out), ds = [markD C qs, .str wd, .lst l, .bl b] ∧ Mk qs ∧ qs.length < 31 ∧ Gm (val qs) g ∧ Res C (val qs) g wd l o ∧ outQ o Q n
def F_wanted (C : Addr) : DF := fun ds n Q _ => ∃ (ps : Row) (wd : Str) (l : List D) (g : Int) (o : Out), ds = [tblD ps, .str wd, .lst l] ∧ Tbl ps ∧ ps.length ≤ 6 ∧ Gm (val ps) g ∧ Res C (val ps) g wd l o ∧ outQ o Q n
theorem Gm.max {qs : Row} (ht : Tbl qs) {g h : Int} (a : Gm (val qs) g) (b : IsMax qs h) : h = g := by
  obtain ⟨a1, s, a2⟩ := a
  have h1 := b.up s
  have h2 := ht.nonneg s
  have h3 := b.nn
  rcases b.at_ with h4 | ⟨z, h4⟩
  · omega
  · have := a1 z
    omega
theorem plain_of {ρ : DSt} (h : ∀ s, some s ∈ ρ → s.owned = false) : plainSt ρ := fun i s e => h s (List.mem_of_getElem? e)
theorem lkn {m : Str} {d : D} (h : (m == ("numbers" : Str)) = false) : List.lookup m [(("numbers" : Str), d)] = none := by rw [List.lookup_cons, h]; rfl
end MK
set_option Elab.async false
set_option linter.all false
set_option maxRecDepth 100000
set_option maxHeartbeats 1000000
set_option autoImplicit false
/-! k02: tables that are told by hand. -/
namespace MK
open PySem L2 DL
theorem inw {a : Str} {l : List Str} {r : Bool} (h : decide (a ∈ l) = r) : inD (.str a) (.tup (l.map .str)) = some (.bl r) := by
  have fl : (flatD (.str a) && (l.map D.str).all flatD) = true := by
    rw [List.all_map]
    show (true && l.all _) = true
    rw [Bool.true_and, List.all_eq_true]
    exact fun _ _ => rfl
  have mem : ∀ m : List Str, inV (.str a) ((m.map D.str).map flatOf) = decide (a ∈ m) := by
    intro m
    induction m with
    | nil => rfl
    | cons b m ih =>
      show (eqV (.str b) (.str a) || inV (.str a) ((m.map D.str).map flatOf)) = _
      rw [ih]
      have hb : eqV (.str b) (.str a) = decide (b = a) := by by_cases q : b = a <;> simp [eqV, q]
      rw [hb]
      by_cases e : b = a
      · simp [e]
      · have e2 : ¬ a = b := fun z => e z.symm
        simp [e, e2]
  show inSeqD false (.str a) (l.map .str) = _
  unfold inSeqD
  rw [if_pos fl]
  show some (D.bl (inV (.str a) ((l.map D.str).map flatOf))) = _
  rw [mem l, h]
/-- those that are no names -/
def oddG (e : D) : Option D := if nameD e = true then none else some e
theorem odds_none : ∀ {l : List D}, oddOne l = none → l.filterMap oddG = []
  | [], _ => rfl
  | d :: l, h => by
    unfold oddOne at h
    by_cases e : nameD d = true
    · rw [if_pos e] at h
      have : oddG d = none := if_pos e
      rw [List.filterMap_cons, this]
      exact odds_none h
    · rw [if_neg e] at h; cases h
theorem odds_some : ∀ {l : List D} {b : D}, oddOne l = some b → ∃ r, l.filterMap oddG = b :: r
  | [], _, h => nomatch h
  | d :: l, b, h => by
    unfold oddOne at h
    by_cases e : nameD d = true
    · rw [if_pos e] at h
      have : oddG d = none := if_pos e
      rw [List.filterMap_cons, this]
      exact odds_some h
    · rw [if_neg e] at h
      cases h
      have : oddG d = some d := if_neg e
      rw [List.filterMap_cons, this]
      exact ⟨_, rfl⟩
theorem odd_one {d : D} (h : nameD d = false) (l : List D) : oddOne (d :: l) = some d := by
  unfold oddOne
  rw [h]; rfl
theorem odd_1 {s : Str} (h : NameOk s) : oddOne [.str s] = none := odd_names (ss := [s]) fun z m => by rw [List.mem_singleton.mp m]; exact h
theorem ix_head {e : D} {r : List D} : ixD (.lst (e :: r)) (.int 0) = some e := atI_nat (j := 0) rfl
theorem look_in {ps : Row} (h : Nds ps) {z : Str × Int} (hz : z ∈ ps) : lookD (dctR ps) (Sum.inr z.1) = some (.int z.2) := by
  unfold lookD dctR
  induction ps with
  | nil => cases hz
  | cons y ps ih =>
    have h : y.1 ∉ ps.map (·.1) ∧ Nds ps := List.nodup_cons.mp h
    rw [List.map_cons, List.find?_cons]
    rcases List.mem_cons.mp hz with rfl | hz
    · rw [show decide ((Sum.inr z.1 : Key) = Sum.inr z.1) = true from decide_eq_true rfl]
      rfl
    · have ne : ¬ (Sum.inr y.1 : Key) = Sum.inr z.1 := fun e => h.1 (by rw [Sum.inr.inj e]; exact List.mem_map.mpr ⟨z, hz, rfl⟩)
      rw [show decide ((Sum.inr y.1 : Key) = Sum.inr z.1) = false from decide_eq_false ne]
      exact ih h.2 hz
def keysD (ps : Row) : List D := (dctR ps).map fun q => keyD q.1
theorem keysD_eq (ps : Row) : keysD ps = ps.map fun z => D.str z.1 := by
  unfold keysD dctR
  rw [List.map_map]
  rfl
/-- the rows that are picked -/
def selG (p : Str → Bool) (ps : Row) : D → Option D
  | .str s => if p s = true then some (pairD (s, val ps s)) else none
  | _ => none
theorem sel_row (p : Str → Bool) (ps : Row) : ∀ l : Row, (∀ z ∈ l, val ps z.1 = z.2) → (l.map fun z => D.str z.1).filterMap (selG p ps) = rowD (keepR p l)
  | [], _ => rfl
  | z :: l, h => by
    rw [List.map_cons, List.filterMap_cons]
    unfold keepR
    rw [List.filter_cons]
    have ih := sel_row p ps l fun y m => h y (List.mem_cons_of_mem _ m)
    by_cases e : p z.1 = true
    · have : selG p ps (.str z.1) = some (pairD z) := by
        show (if p z.1 = true then some (pairD (z.1, val ps z.1)) else none) = _
        rw [if_pos e, h z List.mem_cons_self]
      rw [this, if_pos e]
      show pairD z :: _ = pairD z :: _
      rw [ih]; rfl
    · have : selG p ps (.str z.1) = none := if_neg e
      rw [this, if_neg e]
      exact ih
theorem keep_tblT {qs : Row} (hq : Tbl qs) (p : Str → Bool) : Tbl (keepR p qs) ∧ ∀ s, val (keepR p qs) s = if p s = true then val qs s else 0 := by
  have sub : (keepR p qs).Sublist qs := List.filter_sublist
  have nd : Nds (keepR p qs) := List.Nodup.sublist (sub.map _) hq.nd
  refine ⟨⟨nd, fun z hz => hq.nn z (sub.subset hz), fun z hz => hq.nm z (sub.subset hz)⟩, fun s => ?_⟩
  by_cases hm : s ∈ (keepR p qs).map (·.1)
  · obtain ⟨z, hz, e⟩ := List.mem_map.mp hm
    have e : z.1 = s := e
    subst e
    have hp := (List.mem_filter.mp hz).2
    rw [if_pos hp, val_mem nd hz, val_mem hq.nd (sub.subset hz)]
  · rw [val_none hm]
    by_cases h : p s = true
    · rw [if_pos h]
      by_cases h0 : val qs s = 0
      · rw [h0]
      · exact absurd (List.mem_map.mpr ⟨(s, val qs s), List.mem_filter.mpr ⟨val_ne hq.nd h0, h⟩, rfl⟩) hm
    · rw [if_neg h]
theorem put_tblT {qs : Row} (hq : Tbl qs) {s : Str} (hs : NameOk s) {i : Int} (hi : 0 ≤ i) : Tbl (keepR (fun z => !decide (z = s)) qs ++ [(s, i)]) ∧ ∀ z, val (keepR (fun z => !decide (z = s)) qs ++ [(s, i)]) z = if z = s then i else val qs z := by
  obtain ⟨tb, hv⟩ := keep_tblT hq fun z => !decide (z = s)
  have nm : s ∉ (keepR (fun z => !decide (z = s)) qs).map (·.1) := fun h => by
    obtain ⟨z, hz, e⟩ := List.mem_map.mp h
    have := (List.mem_filter.mp hz).2
    have e : z.1 = s := e
    simp [e] at this
  have nd : Nds (keepR (fun z => !decide (z = s)) qs ++ [(s, i)]) := by
    unfold Nds
    rw [List.map_append, List.nodup_append]
    refine ⟨tb.nd, List.nodup_cons.mpr ⟨fun z => (nomatch z), List.nodup_nil⟩, fun a ha b hb e => ?_⟩
    have hb : b = s := List.mem_singleton.mp hb
    rw [e, hb] at ha
    exact nm ha
  refine ⟨⟨nd, fun z hz => ?_, fun z hz => ?_⟩, fun z => ?_⟩
  · rcases List.mem_append.mp hz with hz | hz
    · exact tb.nn z hz
    · rw [List.mem_singleton.mp hz]; exact hi
  · rcases List.mem_append.mp hz with hz | hz
    · exact tb.nm z hz
    · rw [List.mem_singleton.mp hz]; exact hs
  · by_cases hm : z ∈ (keepR (fun z => !decide (z = s)) qs ++ [(s, i)]).map (·.1)
    · obtain ⟨y, hy, e⟩ := List.mem_map.mp hm
      have e : y.1 = z := e
      subst e
      rw [val_mem nd hy]
      rcases List.mem_append.mp hy with hy | hy
      · have hp := (List.mem_filter.mp hy).2
        have hne : ¬ y.1 = s := by simpa using hp
        rw [if_neg hne, val_mem hq.nd (List.filter_sublist.subset hy)]
      · rw [List.mem_singleton.mp hy, if_pos rfl]
    · rw [val_none hm]
      have hne : ¬ z = s := fun e => hm (by rw [e, List.map_append]; exact List.mem_append.mpr (.inr (List.mem_singleton.mpr rfl)))
      rw [if_neg hne]
      by_cases h0 : val qs z = 0
      · rw [h0]
      · exact absurd (List.mem_map.mpr ⟨(z, val qs z), List.mem_append.mpr (.inl (List.mem_filter.mpr ⟨val_ne hq.nd h0, by simp [hne]⟩)), rfl⟩) hm
theorem Due.congr {ps ps' qs : Row} (h : ∀ z, z ∈ ps' ↔ z ∈ ps) (d : Due ps qs) : Due ps' qs := ⟨d.so, fun z => by rw [d.me, h]⟩
/-- one number for the names, as often as they come -/
theorem one_due {ss : List Str} {g : Int} {qs : Row} (hs : ∀ s ∈ ss, NameOk s) (hl : ss.length ≤ 5) (hg : 0 ≤ g) (d : Due (rowOf ss fun _ => g) qs) : Mk qs ∧ ∀ z, val qs z = if z ∈ ss then g else 0 := by
  have hmem := dedup_mem ss []
  have hm : ∀ s, s ∈ dedup [] ss ↔ s ∈ ss := fun s => (hmem s).trans ⟨fun h => h.resolve_left fun z => (nomatch z), .inr⟩
  obtain ⟨tb, hv⟩ := one_tbl (ss := dedup [] ss) (fun s h => hs s ((hm s).mp h)) (dedup_nd ss [] List.nodup_nil) hg
  have d2 : Due (rowOf (dedup [] ss) fun _ => g) qs := d.congr fun z => by
    unfold rowOf
    simp only [List.mem_map, hm]
  have hlen := dedup_len ss []
  refine ⟨d2.mark tb (by unfold rowOf; rw [List.length_map]; exact Nat.lt_of_le_of_lt hlen (by show 0 + ss.length < 32; omega)), fun z => ?_⟩
  rw [d2.val tb, hv]
  by_cases e : z ∈ ss
  · rw [if_pos e, if_pos ((hm z).mpr e)]
  · rw [if_neg e, if_neg fun h => e ((hm z).mp h)]
theorem gm_of {ps : Row} (ht : Tbl ps) {g m : Int} (hg : Gm (val ps) g) (h1 : m ∈ ps.map (·.2)) (h2 : ∀ y, y ∈ ps.map (·.2) → y ≤ m) : m = g := by
  obtain ⟨a1, s, a2⟩ := hg
  obtain ⟨z, hz, e⟩ := List.mem_map.mp h1
  have e : z.2 = m := e
  have b1 := a1 z.1
  rw [val_mem ht.nd hz, e] at b1
  have nn := ht.nn z hz
  by_cases h0 : val ps s = 0
  · omega
  · have := h2 _ (List.mem_map.mpr ⟨_, val_ne ht.nd h0, rfl⟩)
    have this : val ps s ≤ m := this
    omega
theorem gm_nil {g : Int} (hg : Gm (val []) g) : g = 0 := by
  obtain ⟨_, s, a2⟩ := hg
  exact a2.symm
theorem nd_strs (ss : List Str) : ndL (ss.map D.str) = true := by
  induction ss with
  | nil => rfl
  | cons s l ih => show (true && ndL (l.map D.str)) = true; rw [ih]; rfl
theorem nd_row (ps : Row) : ndL (rowD ps) = true := by
  induction ps with
  | nil => rfl
  | cons s l ih => show ((true && (true && true)) && ndL (rowD l)) = true; rw [ih]; rfl
theorem nd_tbl (ps : Row) : ndK (dctR ps) := fun q m => by
  obtain ⟨z, _, rfl⟩ := List.mem_map.mp m
  rfl
theorem nd_ints {α : Type} (l : List α) (f : α → Int) : ndL (l.map fun a => D.int (f a)) = true := by
  induction l with
  | nil => rfl
  | cons s l ih => show (true && ndL (l.map fun a => D.int (f a))) = true; rw [ih]; rfl
theorem ints_row {ps : Row} (h : Nds ps) : (((dctR ps).map fun q => keyD q.1).map fun d => D.int (val ps (unstr d))) = (ps.map (·.2)).map .int := by
  unfold dctR
  rw [List.map_map, List.map_map, List.map_map]
  refine List.map_congr_left fun z hz => ?_
  show D.int (val ps z.1) = D.int z.2
  rw [val_mem h hz]
theorem lock0 {a : Option Sl} {ρ : DSt} (h : ∀ s, some s ∈ ρ → ∃ d, s = .val d ∧ d.nd = true) : lockOk 0 (a :: ρ) := fun j s hne e => by
  cases j with
  | zero => exact absurd rfl hne
  | succ j => exact h s (List.mem_of_getElem? e)
end MK
set_option Elab.async false
set_option linter.all false
set_option maxRecDepth 100000
set_option maxHeartbeats 1000000
set_option autoImplicit false
/-! k02: sizes of what is told. -/
namespace MK
open PySem L2 DL
theorem gm_ex {ps : Row} (ht : Tbl ps) : ∃ g, Gm (val ps) g := by
  have top : ∀ l : Row, (∀ z ∈ l, 0 ≤ z.2) → ∃ g : Int, 0 ≤ g ∧ (∀ z ∈ l, z.2 ≤ g) ∧ (g = 0 ∨ ∃ z ∈ l, z.2 = g) := by
    intro l
    induction l with
    | nil => exact fun _ => ⟨0, Int.le_refl _, fun z m => (nomatch m), .inl rfl⟩
    | cons y l ih =>
      intro h
      obtain ⟨g, h0, h1, h2⟩ := ih fun z m => h z (List.mem_cons_of_mem _ m)
      have hy := h y List.mem_cons_self
      by_cases e : g ≤ y.2
      · refine ⟨y.2, hy, fun z m => ?_, .inr ⟨y, List.mem_cons_self, rfl⟩⟩
        rcases List.mem_cons.mp m with rfl | m
        · exact Int.le_refl _
        · exact Int.le_trans (h1 z m) e
      · refine ⟨g, h0, fun z m => ?_, h2.imp id fun ⟨z, m, q⟩ => ⟨z, List.mem_cons_of_mem _ m, q⟩⟩
        rcases List.mem_cons.mp m with rfl | m
        · omega
        · exact h1 z m
  obtain ⟨g, h0, h1, h2⟩ := top ps ht.nn
  refine ⟨g, fun s => ?_, ?_⟩
  · by_cases e : val ps s = 0
    · omega
    · exact h1 _ (val_ne ht.nd e)
  · rcases h2 with rfl | ⟨z, m, rfl⟩
    · refine ⟨"", val_none fun m => ?_⟩
      obtain ⟨z, hz, e⟩ := List.mem_map.mp m
      have e : z.1 = "" := e
      have := (ht.nm z hz).lo
      rw [e] at this
      exact absurd this (by decide)
    · exact ⟨z.1, val_mem ht.nd m⟩
theorem nodup_len : ∀ {l m : List Str}, l.Nodup → (∀ z ∈ l, z ∈ m) → l.length ≤ m.length
  | [], _, _, _ => Nat.zero_le _
  | a :: l, m, nd, h => by
    obtain ⟨na, nd⟩ := List.nodup_cons.mp nd
    have ha := h a List.mem_cons_self
    have := nodup_len (l := l) (m := m.erase a) nd fun z hz => (List.mem_erase_of_ne (fun e : z = a => na (by rw [← e]; exact hz))).mpr (h z (List.mem_cons_of_mem _ hz))
    rw [List.length_erase_of_mem ha] at this
    have hp : 0 < m.length := List.length_pos_of_mem ha
    rw [List.length_cons]
    omega
theorem sm_row {ts : Row} (wf : WF ts) {L : List Str} (hL : L.length ≤ 9) (hin : ∀ z, val ts z ≠ 0 → z ∈ L) (hb : ∀ z, val ts z < 10 ^ 41) : Sm 4 (.tup (rowD ts)) := by
  have hlen : ts.length ≤ 9 := by
    have := nodup_len (l := ts.map (fun z : Str × Int => z.1)) (m := L) (show (ts.map fun z : Str × Int => z.1).Nodup from wf.nd) fun z hz => by
      obtain ⟨y, hy, rfl⟩ := List.mem_map.mp hz
      have hp := wf.ps y hy
      refine hin y.1 ?_
      rw [val_mem wf.nd hy]
      omega
    rw [List.length_map] at this
    omega
  refine ⟨by rw [row_len]; exact hlen, fun d hd => ?_⟩
  obtain ⟨y, hy, rfl⟩ := List.mem_map.mp hd
  have hp := wf.ps y hy
  have hv := hb y.1
  rw [val_mem wf.nd hy] at hv
  exact ⟨by show 2 ≤ 9; decide, fun e m => sm_two (k := 2) (d := .str y.1) (d' := .int y.2) (wf.nm y hy).sm (.inl ⟨by omega, hv⟩) m⟩
theorem sm_up : ∀ {k : Nat} {d : D}, Sm k d → Sm (k + 1) d
  | _, .non, _ => trivial
  | _, .bl _, _ => trivial
  | k, .int _, h => by cases k <;> exact h
  | k, .str _, h => by cases k <;> exact h
  | k + 1, .tup l, h => ⟨h.1, fun d m => sm_up (h.2 d m)⟩
  | k + 1, .lst l, h => ⟨h.1, fun d m => sm_up (h.2 d m)⟩
  | k + 1, .dct l, h => ⟨h.1, fun q m => ⟨(h.2 q m).1, sm_up (h.2 q m).2⟩⟩
  | 0, .tup _, h => h.elim
  | 0, .lst _, h => h.elim
  | 0, .dct _, h => h.elim
  | k, .ty _, h => by cases k <;> exact h.elim
  | k, .con _, h => by cases k <;> exact h.elim
  | k, .pot, h => by cases k <;> exact h.elim
  | k, .ins _ _, h => by cases k <;> exact h.elim
  | k, .exc _ _, h => by cases k <;> exact h.elim
  | k, .dlk _, h => by cases k <;> exact h.elim
  | 0, .odd _ _ _, h => h.elim
  | 1, .odd _ _ _, h => h.elim
  | k + 2, .odd _ ks vs, h => ⟨h.1, fun d m => sm_up (h.2.1 d m), fun d m => sm_up (h.2.2 d m)⟩
theorem Arg.s4 {C : Addr} {d : D} (h : Arg C d) : Sm 4 d := sm_up (sm_up h.sm)
theorem odd_mem : ∀ {l : List D} {e : D}, oddOne l = some e → e ∈ l
  | [], _, h => nomatch h
  | d :: l, e, h => by
    unfold oddOne at h
    by_cases q : nameD d = true
    · rw [if_pos q] at h; exact List.mem_cons_of_mem _ (odd_mem h)
    · rw [if_neg q] at h; cases h; exact List.mem_cons_self
/-- small enough for repr -/
def outSm : Out → Prop
  | .mark f => ∀ ts : Row, WF ts → (∀ z, val ts z = f z) → Sm 4 (.tup (rowD ts))
  | .store d => Sm 4 d
  | .number d => Sm 4 d
theorem res_sm {C : Addr} {ps : Row} {g : Int} {wd : Str} {l : List D} {o : Out} (ht : Tbl ps) (hl : ps.length ≤ 6) (hb : ∀ z ∈ ps, z.2 < 10 ^ 40) (hg : Gm (val ps) g) (h : Res C (val ps) g wd l o) : outSm o := by
  have vb : ∀ s, val ps s < 10 ^ 41 := fun s => by
    by_cases e : val ps s = 0
    · rw [e]; decide
    · exact Int.lt_trans (hb _ (val_ne ht.nd e)) (by decide)
  have gb : g < 10 ^ 41 := by
    obtain ⟨_, s, e⟩ := hg
    rw [← e]; exact vb s
  have vin : ∀ s, val ps s ≠ 0 → s ∈ ps.map (·.1) := fun s e => List.mem_map.mpr ⟨_, val_ne ht.nd e, rfl⟩
  have pl : (ps.map (·.1)).length ≤ 6 := by rw [List.length_map]; exact hl
  have z41 : (0 : Int) < 10 ^ 41 := by decide
  cases h with
  | only s hs =>
    refine fun ts wf hv => sm_row wf (L := ps.map (·.1)) (by omega) (fun z e => vin z ?_) fun z => ?_
    · rw [hv z] at e
      dsimp only at e
      split at e
      · exact e
      · exact absurd rfl e
    · rw [hv z]; dsimp only; split
      · exact vb z
      · exact z41
  | without s hs =>
    refine fun ts wf hv => sm_row wf (L := ps.map (·.1)) (by omega) (fun z e => vin z ?_) fun z => ?_
    · rw [hv z] at e
      dsimp only at e
      split at e
      · exact absurd rfl e
      · exact e
    · rw [hv z]; dsimp only; split
      · exact z41
      · exact vb z
  | one ss h5 hs =>
    refine fun ts wf hv => sm_row wf (L := ss) (by omega) (fun z e => ?_) fun z => ?_
    · rw [hv z] at e
      dsimp only at e
      split at e
      · assumption
      · exact absurd rfl e
    · rw [hv z]; dsimp only; split
      · exact gb
      · exact z41
  | taken s o hs ho =>
    refine fun ts wf hv => sm_row wf (L := [o]) (by show 1 ≤ 9; decide) (fun z e => ?_) fun z => ?_
    · rw [hv z] at e
      dsimp only at e
      split at e
      · exact List.mem_singleton.mpr (by assumption)
      · exact absurd rfl e
    · rw [hv z]; dsimp only; split
      · exact vb s
      · exact z41
  | put s i hs hi ha =>
    have ib : i < 10 ^ 41 := by
      rcases (show SmI i from ha.sm) with h | h
      · exact h.2
      · omega
    refine fun ts wf hv => sm_row wf (L := s :: ps.map (·.1)) (by rw [List.length_cons]; omega) (fun z e => ?_) fun z => ?_
    · rw [hv z] at e
      dsimp only at e
      split at e
      · rename_i h; rw [h]; exact List.mem_cons_self
      · exact List.mem_cons_of_mem _ (vin z e)
    · rw [hv z]; dsimp only; split
      · exact ib
      · exact vb z
  | onlyX d hd _ => exact hd.s4
  | withoutX d hd _ => exact hd.s4
  | oneX es h5 ha => exact ⟨by omega, fun d m => sm_up (ha d m).sm⟩
  | oneY es e h5 ha he => exact (ha e (odd_mem he)).s4
  | takenX d e b hd he hb => 
    rcases List.mem_cons.mp (odd_mem hb) with rfl | m
    · exact hd.s4
    · rw [List.mem_singleton.mp m]; exact he.s4
  | putX d e hd _ _ => exact hd.s4
  | putN s e _ he _ => exact he.s4
theorem neS_same (a : Str) : neS (.str a) (.str a) = some (.bl false) := by
  show some (D.bl (!decide (a = a))) = _
  rw [decide_eq_true rfl]; rfl
theorem ne_rows {qs : Row} (h : WF qs) : neD (.tup (rowD qs)) (.tup (rowD qs)) = some (.bl false) := ne_pl (k := 2) (c := true) (row_pl h.nm) (row_pl h.nm) (by simp)
end MK
set_option Elab.async false
set_option linter.all false
set_option maxRecDepth 100000
set_option maxHeartbeats 1000000
set_option autoImplicit false
/-! k00: defs that show values; the promises. -/
namespace DL
open PySem L2
section
variable {P : Program} {w : World} {K : PySem.W.Frag} {mg : Str → Option Value} {base : Heap}
def DerG (P : Program) (w : World) (K : PySem.W.Frag) (mg : Str → Option Value) (base : Heap) (N : List Str) (qual : Str) (st : Stmt) (k : Nat) (t : TDS) : Prop :=
  ∀ (f : Addr) (cdv : Value) (A : Around) (outer : List Env) (s : Shared) (H : Hp) (E : XK), En (fam P w K mg base N qual (defScope st) f cdv A outer s H E) P w K mg base N k → (∀ i, (fam P w K mg base N qual (defScope st) f cdv A outer s H E i).A.guards = some []) → DSs (fam P w K mg base N qual (defScope st) f cdv A outer s H E) K E0 (defBody st) t
theorem DefAt.fng {x : Str} {st : Stmt} {N ps : List Str} {k : Nat} {F : DF} {t : TDS} (h : DefAt K mg x st ps) (S : FnScope N ps (defScope st)) (bt : Bt mg) (d : DerG P w K mg base N x st k t) (len : ∀ ds n Q x, F ds n Q x → ds.length = ps.length)
    (ht : ∀ ds n Q x, F ds n Q x → t { nx := fun _ n' => Q .non n', rt := Q } (startD N ds) n x0) : Fn1G P w K mg base x (k + 1) F := by
  obtain ⟨f, fd, G, hm, hk, hb⟩ := h
  refine ⟨f, fd, ps, fnG_of G S (fun vs H Q E h => ?_) (fun cdv A outer s H vs Q E hr gd h => ?_), hm, hk, hb⟩
  · obtain ⟨ds, Z, p, n, x, Qd, hp, zp, hd, r, hF, _⟩ := h
    rw [← r.len]
    exact len ds n Qd x hF
  · obtain ⟨ds, Z, p, n, x, Qd, hp, zp, hd, r, hF, hQ, hx⟩ := h
    obtain ⟨ts, pt, et⟩ := d f cdv A outer s H E ⟨fun _ => rfl, fun _ => rfl, fun _ => rfl, fun _ => rfl, fun _ => rfl, fun _ => rfl, fun _ => rfl, fun _ => hr, S.nd, bt⟩ (fun _ => gd)
    refine ⟨ts, PSs.nox (pt ()), et (start_wd hp zp hd r) HE.zero (ht ds n Qd x hF) (fun ρ' n' Z' σ' H' w' _ h' => ?_) (fun v H' d n' hp' k' r' h' => hQ d n' v H' hp' k' r' h') (fun _ _ _ _ _ _ _ h => h.elim) fun _ _ _ _ _ _ _ h => h.elim⟩
    exact hQ .non n' .non H' w'.pot w'.keep rfl h'
end
end DL
namespace MK
open PySem L2 DL
/-! ### what is asked of a mark -/
structure OddT (C : Addr) (d : D) : Prop where
  ar : Arg C d
  pl : plB 3 d = true ∨ (d = .non ∨ ∃ b, d = .bl b) ∨ ∃ l, d = .dct l
inductive Thing (C : Addr) : D → Prop
  | odd (d : D) : OddT C d → Thing C d
  | mark : Thing C (markD C [])
def F_oddT (C : Addr) : DF := fun ds n Q _ => ds = [.pot] ∧ 1 ≤ n ∧ ∀ d, OddT C d → Q d (n - 1)
theorem odd_T {C : Addr} : ∀ d ∈ oddA ++ oddB, OddT C d := fun d hd => ⟨odd_arg d hd, by
  simp only [oddA, oddB, List.cons_append, List.nil_append, List.mem_cons, List.not_mem_nil, or_false] at hd
  rcases hd with rfl | rfl | rfl | rfl | rfl | rfl | rfl | rfl | rfl | rfl | rfl | rfl | rfl | rfl | rfl | rfl | rfl | rfl | rfl | rfl | rfl | rfl | rfl
  · exact .inr (.inl (.inl rfl))
  · exact .inr (.inl (.inr ⟨_, rfl⟩))
  · exact .inr (.inl (.inr ⟨_, rfl⟩))
  iterate 13 exact .inl (by decide +kernel)
  · exact .inl (by decide +kernel)
  · exact .inl (by decide +kernel)
  · exact .inl (by decide +kernel)
  · exact .inl (by decide +kernel)
  · exact .inr (.inr ⟨_, rfl⟩)
  · exact .inr (.inr ⟨_, rfl⟩)
  · exact .inl (by decide +kernel)⟩
theorem NameOk.oddT {C : Addr} {s : Str} (h : NameOk s) : OddT C (.str s) := ⟨h.arg, .inl (by show PyData.strOk s = true; exact h.ok)⟩
theorem Thing.tn {C : Addr} {d : D} (h : Thing C d) : ∃ a, tnOf d = some a ∧ okT C a = true := by
  cases h with
  | odd d h => exact anyB_tn h.ar.an
  | mark => exact ⟨.own C, rfl, decide_eq_true rfl⟩
/-- a mark's number at any value -/
def valT (qs : Row) : D → Int
  | .str s => val qs s
  | _ => 0
/-- is it this text -/
def isTx (s : Str) : D → Bool
  | .str t => decide (s = t)
  | _ => false
theorem isTx_iff {s : Str} {d : D} : isTx s d = true ↔ D.str s = d := by
  cases d with
  | str t => simp [isTx]
  | _ => simp [isTx]
/-- mark == any -/
def F_eqA (C : Addr) : DF := fun ds n Q _ => ∃ (qs : Row) (d : D) (a : Tn), ds = [markD C qs, d] ∧ Mk qs ∧ tnOf d = some a ∧ okT C a = true ∧ ((∀ l, d ≠ .ins C l) → Q (.bl false) n) ∧ ∀ l, d = .ins C l → ∃ rs, d = markD C rs ∧ Mk rs ∧ ∀ b : Bool, (b = true ↔ qs = rs) → Q (.bl b) n
def F_getG (C : Addr) : DF := fun ds n Q _ => ∃ (qs : Row) (d : D), ds = [markD C qs, d] ∧ Mk qs ∧ Thing C d ∧ Q (.int (valT qs d)) n
def F_has (C : Addr) : DF := fun ds n Q _ => ∃ (qs : Row) (d : D), ds = [markD C qs, d] ∧ Mk qs ∧ Thing C d ∧ Q (.bl (decide (0 < valT qs d))) n
def F_lenM (C : Addr) : DF := fun ds n Q _ => ∃ qs : Row, ds = [markD C qs] ∧ Mk qs ∧ Q (.int qs.length) n
def F_boolM (C : Addr) : DF := fun ds n Q _ => ∃ qs : Row, ds = [markD C qs] ∧ Mk qs ∧ Q (.bl (!qs.isEmpty)) n
/-- text == thing -/
theorem eqS_thing {C : Addr} {s : Str} {d : D} {n : Nat} {Q : DQ} (hs : NameOk s) (h : Thing C d) (q : Q (.bl (isTx s d)) n) :
    eqSA C (F_eqA C) (.str s) d n Q x0 := by
  cases h with
  | odd d h =>
    rcases h.pl with h1 | (rfl | ⟨b, rfl⟩) | ⟨l, rfl⟩
    · exact .inl ⟨_, eq_pl (k := 3) (show plB 3 (.str s) = true from hs.ok) h1 isTx_iff, q⟩
    · exact .inl ⟨.bl false, by unfold eqD; rw [if_pos (by show (PyData.strOk s && decide (0 ≤ 64) && _) = true; rw [hs.ok]; rfl)]; rfl, q⟩
    · exact .inl ⟨.bl false, by unfold eqD; rw [if_pos (by show (PyData.strOk s && decide (0 ≤ 64) && _) = true; rw [hs.ok]; rfl)]; rfl, q⟩
    · exact .inr (.inl ⟨s, l, rfl, rfl, q⟩)
  | mark =>
    refine .inr (.inr ⟨s, _, rfl, rfl, [], .str s, .str, rfl, ⟨⟨.nil, List.nodup_nil, fun z h => (nomatch h), fun z h => (nomatch h)⟩, by decide⟩, rfl, rfl, fun _ => q, fun l e => nomatch e⟩)
/-! ### what may be given as numbers -/
def RowOk (C : Addr) (e : D) : Prop := anyB C e = true ∧ ∀ a b, e = .tup [a, b] → anyB C a = true ∧ anyB C b = true
structure OddOk (C : Addr) (ks vs : List D) : Prop where
  le : ks.length ≤ 9
  eq : ks.length = vs.length
  nk : ∃ nks, nkL ks = some nks ∧ nks.Nodup
  ak : ∀ k ∈ ks, anyB C k = true
  av : ∀ v ∈ vs, anyB C v = true
inductive Vnum (C : Addr) (w : World) : D → Prop
  | tup (es : List D) : es.length ≤ 9 → (∀ e ∈ es, RowOk C e) → Vnum C w (.tup es)
  | odd (ks vs : List D) : OddOk C ks vs → Vnum C w (.odd w ks vs)
  | other (d : D) : anyB C d = true → tnOf d ≠ some .tup → tnOf d ≠ some .dct → Vnum C w d
def rowsD : D → Option (List D)
  | .tup es => some es
  | .odd _ ks vs => some (pairsOf ks vs)
  | _ => none
/-- it is numbers, these -/
structure Nums (d : D) (ps : Row) : Prop where
  ro : rowsD d = some (rowD ps)
  tb : Tbl ps
  le : ps.length ≤ 9
def NoNums (d : D) : Prop := ∀ ps, rowsD d = some (rowD ps) → ¬ Tbl ps
theorem rowD_inj' {a b : Row} (h : rowD a = rowD b) : a = b := rowD_inj.mp (congrArg D.tup h)
theorem Nums.eq {d : D} {ps qs : Row} (a : Nums d ps) (b : Nums d qs) : ps = qs := rowD_inj' (Option.some.inj (a.ro.symm.trans b.ro))
def okPair : D → Bool
  | .tup [a, b] => nameD a && countB b
  | _ => false
theorem okPair_row {e : D} (h : okPair e = true) : ∃ z : Str × Int, e = pairD z ∧ NameOk z.1 ∧ 0 ≤ z.2 := by
  unfold okPair at h
  split at h
  · rename_i a b
    rw [Bool.and_eq_true] at h
    obtain ⟨s, rfl, hs⟩ := nameD_str h.1
    rcases count_cases b with ⟨i, rfl, hi⟩ | h2
    · exact ⟨(s, i), rfl, hs, hi⟩
    · rw [h2] at h; cases h.2
  · cases h
theorem okPairs_row : ∀ {l : List D}, (∀ e ∈ l, okPair e = true) → ∃ ps : Row, l = rowD ps ∧ (∀ z ∈ ps, NameOk z.1) ∧ ∀ z ∈ ps, 0 ≤ z.2
  | [], _ => ⟨[], rfl, fun z h => (nomatch h), fun z h => (nomatch h)⟩
  | e :: l, h => by
    obtain ⟨ps, rfl, h1, h2⟩ := okPairs_row fun z hz => h z (List.mem_cons_of_mem _ hz)
    obtain ⟨z, rfl, h3, h4⟩ := okPair_row (h e List.mem_cons_self)
    exact ⟨z :: ps, rfl, fun y hy => (List.mem_cons.mp hy).elim (fun e => by rw [e]; exact h3) (h1 y), fun y hy => (List.mem_cons.mp hy).elim (fun e => by rw [e]; exact h4) (h2 y)⟩
theorem okPair_of {z : Str × Int} (h : NameOk z.1) (h2 : 0 ≤ z.2) : okPair (pairD z) = true := by
  show (nameB z.1 && decide (0 ≤ z.2)) = true
  rw [nameB_iff.mpr h, decide_eq_true h2]
  rfl
theorem no_bad {d e : D} {l : List D} (hr : rowsD d = some l) (m : e ∈ l) (h : okPair e = false) : NoNums d := fun ps h1 ht => by
  rw [hr] at h1
  cases h1
  obtain ⟨z, hz, rfl⟩ := List.mem_map.mp m
  rw [okPair_of (ht.nm z hz) (ht.nn z hz)] at h
  cases h
theorem no_rows {d : D} (h : rowsD d = none) : NoNums d := fun ps h1 _ => by rw [h] at h1; cases h1
theorem no_twice {d : D} {ps : Row} (hr : rowsD d = some (rowD ps)) (h : ¬ Nds ps) : NoNums d := fun qs h1 ht => by
  rw [hr] at h1
  have := rowD_inj' (Option.some.inj h1)
  subst this
  exact h ht.nd
/-- the two ends of a question -/
def Ends2 (d : D) (yes : Row → Prop) (no : Prop) : Prop := (∀ ps, Nums d ps → yes ps) ∧ (NoNums d → no)
def F_pairs_inG (C : Addr) (w : World) : DF := fun ds n Q _ => ∃ d, ds = [d] ∧ Vnum C w d ∧ Ends2 d (fun ps => Q (.tup (rowD ps)) n) (Q .non n)
def F_MarkX (C B : Addr) (w : World) : DF := fun ds n Q x => ∃ d, ds = [d] ∧ Vnum C w d ∧ Ends2 d (fun ps => ∀ qs, Due ps qs → Q (markD C qs) n) (x B [("value", d)] n)
def F_is_numbers (C : Addr) (w : World) : DF := fun ds n Q _ => ∃ d, ds = [d] ∧ Vnum C w d ∧ Ends2 d (fun _ => Q (.bl true) n) (Q (.bl false) n)
def F_heard (C : Addr) (w : World) : DF := fun ds n Q _ => ∃ d, ds = [d] ∧ Vnum C w d ∧ Ends2 d (fun ps => ∀ qs, Due ps qs → Q (.tup [.str "mark", .tup (rowD qs)]) n) (Q (.tup [.str "bad", d]) n)
def F_judged (C : Addr) (w : World) : DF := fun ds n Q _ => ∃ d, ds = [d] ∧ Vnum C w d ∧ Sm 4 d ∧ Q (.bl true) n
def F_spoilt (C : Addr) (w : World) : DF := fun ds n Q _ => ds = [.pot] ∧ 100 ≤ n ∧ ∀ (d : D) (n' : Nat), Vnum C w d → Sm 4 d → n ≤ n' + 100 → Q d n'
theorem vl_tn {C : Addr} {w : World} {d : D} (h : Vnum C w d) : ∃ a, tnOf d = some a ∧ okT C a = true := by
  cases h with
  | tup es _ _ => exact ⟨.tup, rfl, rfl⟩
  | odd ks vs _ => exact ⟨.dct, rfl, rfl⟩
  | other d h _ _ => exact anyB_tn h
end MK
set_option Elab.async false
set_option linter.all false
set_option maxRecDepth 100000
set_option maxHeartbeats 1000000
set_option autoImplicit false
namespace K0
open PySem L2 DL MK
section
variable {P : Program} {w : World} {K : PySem.W.Frag} {mg : Str → Option Value} {base : Heap} {C B G : Addr} {f : Addr}
abbrev s_Mark___contains__ : Stmt := inClass (top 15) 3
abbrev N_Mark___contains__ : List Str := ["self", "x", "store", "number"]
theorem sc_Mark___contains__ : FnScope N_Mark___contains__ ["self", "x"] (defScope s_Mark___contains__) := ⟨rfl, rfl, rfl, by decide +kernel, rfl, by decide +kernel, by decide +kernel⟩
abbrev s_Mark___len__ : Stmt := inClass (top 15) 4
abbrev N_Mark___len__ : List Str := ["self"]
theorem sc_Mark___len__ : FnScope N_Mark___len__ ["self"] (defScope s_Mark___len__) := ⟨rfl, rfl, rfl, by decide +kernel, rfl, by decide +kernel, by decide +kernel⟩
abbrev s_Mark___bool__ : Stmt := inClass (top 15) 5
abbrev N_Mark___bool__ : List Str := ["self"]
theorem sc_Mark___bool__ : FnScope N_Mark___bool__ ["self"] (defScope s_Mark___bool__) := ⟨rfl, rfl, rfl, by decide +kernel, rfl, by decide +kernel, by decide +kernel⟩
theorem ok_is_nameG (h : DefAt K mg "is_name" s_is_name ["value"]) (T : Tx K mg C) : Fn1 P w K mg base K "is_name" 1 (F_is_nameG C) := by
  refine h.fn sc_is_name T.bt (k := 0) (fun f cdv A outer s H E en => (dss_cons (ds_if (DW.dt (dw_or (dt_not (dt_val (eIsi en T.isi (da_cons (v en 0) (da_cons (ty_str en) da_nil))))) (dw_or (dt_not (tLeLe de_int (eLen en (da_cons (v en 0) da_nil)) (gl en (d := .int 8) T.longest fun _ _ _ => rfl))) (dw_or1 (tIn en (v en 0) (T.wordsE en))))))
    (dss_one (ds_ret de_bl))
    dss_nil)
    (dss_one (ds_ret (eAll en (da_cons (lc en (defScope s_is_name) [("sign", 1)] (inS (v en 0)) (nm en.blk 1) dts_nil (eIn en.blk (v en.blk 1) (gl en.blk (d := .str MK.lettersS) T.letters fun _ _ _ => rfl))) da_nil)))))) ?_ ?_
  · rintro ds n Q x ⟨d, rfl, _⟩; rfl
  · rintro ds n Q x ⟨d, rfl, ha, q⟩
    obtain ⟨a, ht, ho⟩ := anyB_tn ha
    refine ⟨d, rfl, _, isi_eq ht ho (b := .str) rfl rfl, _, rfl, ?_⟩
    by_cases hstr : ∃ s, d = .str s
    · obtain ⟨s, rfl⟩ := hstr
      cases ht
      have hs : s.length ≤ most := Nat.le_trans (anyB_str ha) (by decide)
      refine iteF ?_
      have hlen : lenD [.str s] = some (.int s.length) := if_pos hs
      have q : Q (.bl (nameB s)) n := q
      refine ⟨.str s, rfl, _, hlen, decide ((1 : Int) ≤ s.length), rfl, ite2 (fun e1 => ⟨_, rfl, decide ((s.length : Int) ≤ 8), rfl, ite2 (fun e2 => ?_) (fun e2 => ?_)⟩) (fun e1 => ⟨false, rfl, iteT (iteT ?_)⟩)⟩
      · have e2 : ¬ (s.length : Int) ≤ 8 := by simpa using e2
        refine iteT ?_
        have : nameB s = false := by unfold nameB; rw [decide_eq_false (show ¬ s.length ≤ 8 by omega)]; simp
        rw [this] at q
        exact q
      · have e2 : (s.length : Int) ≤ 8 := by simpa using e2
        have e1 : (1 : Int) ≤ s.length := of_decide_eq_true e1
        refine ⟨.str s, rfl, _, in_words s, _, rfl, ite2 (fun e3 => ?_) (fun e3 => ?_)⟩
        · have : nameB s = false := by unfold nameB; rw [decide_eq_true (of_decide_eq_true e3)]; simp
          rw [this] at q
          exact q
        · have e3 : s ∉ wordsL := by simpa using e3
          refine ⟨.str s, rfl, s, rfl, lc_each (fun d => (inD d (.str lettersS)).getD .non) ?_ (fun d hd => ?_) ?_⟩
          · unfold signs
            rw [List.length_map, Array.length_toList]
            exact hs
          · obtain ⟨c, hc, rfl⟩ := List.mem_map.mp hd
            exact ⟨_, rfl, fun n Qt hq => ⟨_, rfl, _, rfl, hq⟩⟩
          · refine ⟨_, ?_, q⟩
            have e4 : nameB s = s.cps.toList.all fun c => decide (c ∈ lettersS.cps.toList) := by
              unfold nameB
              rw [decide_eq_true (show 1 ≤ s.length by omega), decide_eq_true (show s.length ≤ 8 by omega), decide_eq_false e3]
              rfl
            rw [e4, ← all_eq]
            unfold signs
            rw [List.map_map]
            rfl
      · have e1 : ¬ (1 : Int) ≤ s.length := fun z => e1 (decide_eq_true z)
        have : nameB s = false := by unfold nameB; rw [decide_eq_false (show ¬ 1 ≤ s.length by omega)]; simp
        rw [this] at q
        exact q
    · have hn : nameD d = false := by
        cases d with
        | str s => exact absurd ⟨s, rfl⟩ hstr
        | _ => rfl
      rw [hn] at q
      have hi : isiT a .str = false := by
        cases d with
        | str s => exact absurd ⟨s, rfl⟩ hstr
        | _ => cases ht <;> rfl
      rw [hi]
      exact iteT (iteT q)
theorem ok_eqA (h : MethAt K C "__eq__" "Mark.__eq__" s_Mark___eq__ ["self", "other"] f) (T : Tx K mg C) : ∃ fd, OwnM P w K mg base K C "__eq__" 1 (F_eqA C) f fd ["self", "other"] := by
  refine h.ow sc_Mark___eq__ T.bt (k := 0) (fun f cdv A outer s H E en => (dss_one (ds_ret (de_and (eIsi en T.isi (da_cons (v en 1) (da_cons (gl en (d := .con C) T.markV fun _ _ _ => rfl) da_nil))) (de_one (eEq en (fld en T.cl T.nN (v en 0)) (fld en T.cl T.nN (v en 1)))))))) ?_ ?_
  · rintro ds n Q x ⟨qs, d, a, rfl, _⟩; rfl
  · rintro ds n Q x ⟨qs, d, a, rfl, hM, ht, ho, q0, q1⟩
    refine ⟨d, rfl, _, isi_eq ht ho (b := .own C) rfl (decide_eq_true rfl), _, rfl, ?_⟩
    by_cases hi : ∃ l, d = .ins C l
    · obtain ⟨l, rfl⟩ := hi
      obtain ⟨rs, e, hR, q1⟩ := q1 l rfl
      rw [e] at ht ⊢
      cases ht
      have : isiT (.own C) (.own C) = true := by simp [isiT]
      rw [this]
      refine iteT ⟨_, rfl, _, _, rfl, rfl, _, rfl, _, _, rfl, rfl, ?_⟩
      refine ⟨_, eq_pl (c := decide (qs = rs)) (row_pl hM.wf.nm) (row_pl hR.wf.nm) (by rw [decide_eq_true_eq, rowD_inj]), q1 _ (by rw [decide_eq_true_eq])⟩
    · have : isiT a (.own C) = false := by
        cases d with
        | ins E l =>
          cases ht
          have e : E = C := of_decide_eq_true ho
          subst e
          exact absurd ⟨l, rfl⟩ hi
        | _ => cases ht <;> rfl
      rw [this]
      exact iteF (q0 fun l e => hi ⟨l, e⟩)
theorem ok_getG (h : MethAt K C "__getitem__" "Mark.__getitem__" s_Mark___getitem__ ["self", "at"] f) (T : Tx K mg C) (S : Sb K C) (h_eq : Ow1 P w K mg base C "__eq__" 1 (F_eqA C)) : ∃ fd, OwnM P w K mg base K C "__getitem__" 2 (F_getG C) f fd ["self", "at"] := by
  refine h.ow sc_Mark___getitem__ T.bt (k := 1) (fun f cdv A outer s H E en => (dss_cons (forIn en (inT en (fld en T.cl T.nN (v en 0))) (nms en 2 (dgs_cons (nm en 2) (dgs_cons (nm en 3) dgs_nil)))
    (dss_one (ds_if (tEqS en S h_eq (v en 2) (v en 1))
    (dss_one (ds_ret (v en 3)))
    dss_nil)))
    (dss_one (ds_ret de_int)))) ?_ ?_
  · rintro ds n Q x ⟨qs, d, rfl, _⟩; rfl
  · rintro ds n Q x ⟨qs, d0, rfl, hM, hT, q⟩
    refine ⟨_, rfl, _, _, rfl, rfl, rowD qs, rfl, fun i ρ n' => n' = n ∧ (∃ y z, ρ = [some (.val (markD C qs)), some (.val d0), y, z]) ∧ ∀ z ∈ qs.take i, isTx z.1 d0 = false, ⟨rfl, ⟨none, none, rfl⟩, fun z hz => nomatch hz⟩, ?_, ?_⟩
    · rintro i ρ n' d hd ⟨rfl, ⟨y, z, rfl⟩, hn⟩
      have hd2 := hd
      unfold rowD at hd2
      rw [List.getElem?_map] at hd2
      cases e : qs[i]? with
      | none => rw [e] at hd2; cases hd2
      | some z =>
        rw [e] at hd2
        cases hd2
        have hz := List.mem_of_getElem? e
        refine ⟨_, rfl, _, rfl, _, rfl, ?_⟩
        refine eqS_thing (hM.wf.nm z hz) hT ?_
        refine ⟨_, rfl, ite2 (fun e2 => ?_) (fun e2 => ?_)⟩
        · have e2 : D.str z.1 = d0 := isTx_iff.mp e2
          refine ⟨_, rfl, ?_⟩
          have := val_mem hM.wf.nd hz
          subst e2
          have q : Q (.int (val qs z.1)) n' := q
          rw [this] at q
          exact q
        · have e2 : isTx z.1 d0 = false := by simpa using e2
          refine ⟨rfl, ⟨_, _, rfl⟩, fun y hy => ?_⟩
          rw [List.take_add_one, e] at hy
          rcases List.mem_append.mp hy with hy | hy
          · exact hn y hy
          · rw [List.mem_singleton.mp hy]; exact e2
    · rintro ρ n' ⟨rfl, ⟨y, z, rfl⟩, hn⟩
      have hv : valT qs d0 = 0 := by
        cases d0 with
        | str s =>
          refine val_none fun hm => ?_
          obtain ⟨z, hz, rfl⟩ := List.mem_map.mp hm
          have := hn z (by rw [List.take_of_length_le (by rw [row_len]; exact Nat.le_refl _)]; exact hz)
          simp [isTx] at this
        | _ => rfl
      rw [hv] at q
      exact q
theorem any_eq {α : Type} (l : List α) (f : α → Bool) : anyD [.lst (l.map fun a => .bl (f a))] = some (.bl (l.any f)) := by
  have h : boolsOf (l.map fun a => D.bl (f a)) = some (l.map f) := by
    induction l with
    | nil => rfl
    | cons a l ih =>
      show (boolsOf (l.map fun a => D.bl (f a))).map (f a :: ·) = _
      rw [ih]
      rfl
  show (boolsOf _).map _ = _
  rw [h]
  show some (D.bl ((l.map f).any id)) = _
  rw [List.any_map]
  rfl
theorem ok_has (h : MethAt K C "__contains__" "Mark.__contains__" s_Mark___contains__ ["self", "x"] f) (T : Tx K mg C) (S : Sb K C) (h_eq : Ow1 P w K mg base C "__eq__" 1 (F_eqA C)) : ∃ fd, OwnM P w K mg base K C "__contains__" 2 (F_has C) f fd ["self", "x"] := by
  refine h.ow sc_Mark___contains__ T.bt (k := 1) (fun f cdv A outer s H E en => (dss_one (ds_ret (eAny en (da_cons (lc en (defScope s_Mark___contains__) [("store", 2), ("number", 3)] (inT en (fld en T.cl T.nN (v en 0))) (nms en.blk 2 (dgs_cons (nm en.blk 2) (dgs_cons (nm en.blk 3) dgs_nil))) dts_nil (eEqS en.blk S h_eq (v en.blk 2) (v en.blk 1))) da_nil))))) ?_ ?_
  · rintro ds n Q x ⟨qs, d, rfl, _⟩; rfl
  · rintro ds n Q x ⟨qs, d0, rfl, hM, hT, q⟩
    refine ⟨_, rfl, _, _, rfl, rfl, rowD qs, rfl, lc_each (fun d => match d with | .tup [.str s, _] => .bl (isTx s d0) | _ => .non) (by rw [row_len]; exact Nat.le_trans (Nat.le_of_lt hM.le) (by decide)) (fun d hd => ?_) ?_⟩
    · obtain ⟨z, hz, rfl⟩ := List.mem_map.mp hd
      exact ⟨_, rfl, fun n Qt hq => ⟨_, rfl, _, rfl, eqS_thing (hM.wf.nm z hz) hT hq⟩⟩
    · unfold rowD
      rw [List.map_map]
      refine ⟨_, any_eq qs fun z => isTx z.1 d0, ?_⟩
      have e : (qs.any fun z => isTx z.1 d0) = decide (0 < valT qs d0) := by
        rw [Bool.eq_iff_iff, List.any_eq_true, decide_eq_true_eq]
        constructor
        · rintro ⟨z, hz, e⟩
          rw [← isTx_iff.mp e]
          show 0 < val qs z.1
          rw [val_mem hM.wf.nd hz]
          exact hM.wf.ps z hz
        · intro hp
          cases d0 with
          | str s =>
            have hp : 0 < val qs s := hp
            exact ⟨(s, val qs s), val_ne hM.wf.nd (by omega), by simp [isTx]⟩
          | _ => exact absurd hp (by show ¬ (0 : Int) < 0; omega)
      rw [e]
      exact q
theorem ok_lenM (h : MethAt K C "__len__" "Mark.__len__" s_Mark___len__ ["self"] f) (T : Tx K mg C) : ∃ fd, OwnM P w K mg base K C "__len__" 1 (F_lenM C) f fd ["self"] := by
  refine h.ow sc_Mark___len__ T.bt (k := 0) (fun f cdv A outer s H E en => (dss_one (ds_ret (eLen en (da_cons (fld en T.cl T.nN (v en 0)) da_nil))))) ?_ ?_
  · rintro ds n Q x ⟨qs, rfl, _⟩; rfl
  · rintro ds n Q x ⟨qs, rfl, hM, q⟩
    refine ⟨_, rfl, _, _, rfl, rfl, _, rfl, ?_⟩
    rw [row_len]
    exact q
theorem ok_boolM (h : MethAt K C "__bool__" "Mark.__bool__" s_Mark___bool__ ["self"] f) (T : Tx K mg C) : ∃ fd, OwnM P w K mg base K C "__bool__" 1 (F_boolM C) f fd ["self"] := by
  refine h.ow sc_Mark___bool__ T.bt (k := 0) (fun f cdv A outer s H E en => (dss_one (ds_ret (boolT en (da_cons (fld en T.cl T.nN (v en 0)) da_nil))))) ?_ ?_
  · rintro ds n Q x ⟨qs, rfl, _⟩; rfl
  · rintro ds n Q x ⟨qs, rfl, hM, q⟩
    refine ⟨_, rfl, _, _, rfl, rfl, _, rfl, ?_⟩
    have : (rowD qs).isEmpty = qs.isEmpty := by cases qs <;> rfl
    rw [this]
    exact q
end
end K0
set_option Elab.async false
set_option linter.all false
set_option maxRecDepth 100000
set_option maxHeartbeats 1000000
set_option autoImplicit false
namespace K0
open PySem L2 DL MK
section
variable {P : Program} {w : World} {K : PySem.W.Frag} {mg : Str → Option Value} {base : Heap} {C B G : Addr} {f : Addr}
abbrev s__law_is_count : Stmt := top 24
abbrev N__law_is_count : List Str := ["_law_value"]
theorem sc__law_is_count : FnScope N__law_is_count ["_law_value"] (defScope s__law_is_count) := ⟨rfl, rfl, rfl, by decide +kernel, rfl, by decide +kernel, by decide +kernel⟩
abbrev s__law_is_name : Stmt := top 25
abbrev N__law_is_name : List Str := ["_law_value", "_law_sign"]
theorem sc__law_is_name : FnScope N__law_is_name ["_law_value"] (defScope s__law_is_name) := ⟨rfl, rfl, rfl, by decide +kernel, rfl, by decide +kernel, by decide +kernel⟩
abbrev s__law_odd_thing : Stmt := top 30
abbrev N__law_odd_thing : List Str := ["_law_pot_here", "_law_some"]
theorem sc__law_odd_thing : FnScope N__law_odd_thing ["_law_pot_here"] (defScope s__law_odd_thing) := ⟨rfl, rfl, rfl, by decide +kernel, rfl, by decide +kernel, by decide +kernel⟩
theorem eqw {a b : Str} {r : Bool} (h : (PyData.strOk a && PyData.strOk b && (decide (a = b) == r)) = true) : eqD (.str a) (.str b) = some (.bl r) := by
  rw [Bool.and_eq_true, Bool.and_eq_true] at h
  rw [eq_str h.1.1 h.1.2, beq_iff_eq.mp h.2]
theorem pick {l : List D} {r : Int} (h0 : 0 ≤ r) (h1 : r < l.length) : ∃ d, ixD (.lst l) (.int r) = some d ∧ d ∈ l := by
  obtain ⟨k, rfl⟩ : ∃ k : Nat, r = (k : Int) := ⟨r.toNat, by omega⟩
  have hk : k < l.length := by omega
  exact ⟨l[k], atI_nat (List.getElem?_eq_getElem hk), List.getElem_mem hk⟩
theorem ok_figureB (h : DefAt K mg "_law_figure" s__law_figure ["_law_pot_here"]) (bt : Bt mg) (h__law_take : Fn1 P w K mg base K "_law_take" 1 F_take) (h__law_of : Fn1 P w K mg base K "_law_of" 2 F_of) : Fn1 P w K mg base K "_law_figure" 3 F_figureB := by
  refine h.fn sc__law_figure bt (k := 2) (fun f cdv A outer s H E en => (dss_cons (set en 1 (call en h__law_take (da_cons (v en 0) (da_cons de_int da_nil))))
    (dss_cons (ds_if (tLt (v en 1) de_int)
    (dss_one (ds_ret (eIx en (de_lst (da_cons de_int (da_cons de_int (da_cons de_int (da_cons de_int (da_cons de_int da_nil)))))) (v en 1))))
    dss_nil)
    (dss_cons (ds_if (tLt (v en 1) de_int)
    (dss_one (ds_ret (call en h__law_take (da_cons (v en 0) (da_cons de_int da_nil)))))
    dss_nil)
    (dss_one (ds_ret (eAdd en (call en h__law_of (da_cons (v en 0) (da_cons (de_lst (da_cons (ePow de_int de_int) (da_cons (ePow de_int de_int) (da_cons (ePow de_int de_int) da_nil)))) da_nil))) (call en h__law_take (da_cons (v en 0) (da_cons de_int da_nil)))))))))) ?_ ?_
  · rintro ds n Q x ⟨rfl, _⟩; rfl
  · rintro ds n Q x ⟨rfl, hn, q⟩
    refine ⟨.pot, rfl, 8, rfl, by decide, by decide, by omega, fun r h0 h1 => ⟨_, rfl, _, rfl, _, rfl, _, rfl, ite2 (fun e => ?_) (fun e => ?_)⟩⟩
    · have e : r < 5 := of_decide_eq_true e
      refine ⟨by show 5 ≤ most; decide, _, rfl, ?_⟩
      have h5 : r = 0 ∨ r = 1 ∨ r = 2 ∨ r = 3 ∨ r = 4 := by omega
      rcases h5 with rfl | rfl | rfl | rfl | rfl
      · exact ⟨_, rfl, q _ _ (by decide) (by decide) (by omega)⟩
      · exact ⟨_, rfl, q _ _ (by decide) (by decide) (by omega)⟩
      · exact ⟨_, rfl, q _ _ (by decide) (by decide) (by omega)⟩
      · exact ⟨_, rfl, q _ _ (by decide) (by decide) (by omega)⟩
      · exact ⟨_, rfl, q _ _ (by decide) (by decide) (by omega)⟩
    · refine ⟨_, rfl, _, rfl, _, rfl, ite2 (fun e => ?_) (fun e => ?_)⟩
      · exact ⟨.pot, rfl, 12, rfl, by decide, by decide, by omega, fun r2 h2 h3 => q _ _ h2 (Int.lt_trans h3 (by decide)) (by omega)⟩
      · refine ⟨.pot, rfl, _, rfl, _, rfl, _, rfl, by show 3 ≤ most; decide, .lst [.int (10 ^ 9), .int (10 ^ 18), .int (10 ^ 39)], 3, rfl, rfl, by decide, by decide, by omega, fun r2 h2 h3 => ?_⟩
        have h5 : r2 = 0 ∨ r2 = 1 ∨ r2 = 2 := by omega
        rcases h5 with rfl | rfl | rfl
        · exact ⟨.int (10 ^ 9), rfl, .pot, rfl, 1000, rfl, by decide, by decide, by omega, fun r3 h4 h5 => ⟨_, rfl, q _ _ (by omega) (by omega) (by omega)⟩⟩
        · exact ⟨.int (10 ^ 18), rfl, .pot, rfl, 1000, rfl, by decide, by decide, by omega, fun r3 h4 h5 => ⟨_, rfl, q _ _ (by omega) (by omega) (by omega)⟩⟩
        · exact ⟨.int (10 ^ 39), rfl, .pot, rfl, 1000, rfl, by decide, by decide, by omega, fun r3 h4 h5 => ⟨_, rfl, q _ _ (by omega) (by omega) (by omega)⟩⟩
theorem ok_pairsB (h : DefAt K mg "_law_pairs" s__law_pairs ["_law_pot_here", "_law_names_here"]) (bt : Bt mg) (h__law_take : Fn1 P w K mg base K "_law_take" 1 F_take) (h__law_turned : Fn1 P w K mg base K "_law_turned" 2 F_turned) (h__law_figure : Fn1 P w K mg base K "_law_figure" 3 F_figureB) : Fn1 P w K mg base K "_law_pairs" 4 F_pairsB := by
  refine h.fn sc__law_pairs bt (k := 3) (fun f cdv A outer s H E en => (dss_one (ds_ret (lc en (defScope s__law_pairs) [("_law_name", 2)] (inL en (call en h__law_turned (da_cons (v en 0) (da_cons (v en 1) da_nil)))) (nm en.blk 2) (dts_one (tGt (call en.blk h__law_take (da_cons (v en.blk 0) (da_cons de_int da_nil))) de_int)) (de_tup (da_cons (v en.blk 2) (da_cons (call en.blk h__law_figure (da_cons (v en.blk 0) da_nil)) da_nil))))))) ?_ ?_
  · rintro ds n Q x ⟨ys, rfl, _⟩; rfl
  · rintro ds n Q x ⟨ys, rfl, hy, hn, q⟩
    have hle := hy.le
    refine ⟨.pot, rfl, _, rfl, ys.map .str, rfl, fun e => hy.ne (List.map_eq_nil_iff.mp e), by rw [List.length_map]; omega, by omega, fun l' pm => ⟨l', rfl, ?_⟩⟩
    have hl' : l'.length = ys.length := by rw [pm.length_eq, List.length_map]
    refine lc_rel PairPB 4 (by rw [hl']; exact Nat.le_trans hle (by decide)) (by rw [hl']; omega) (fun d hd => ?_) (fun os n' hp hn' => ?_)
    · obtain ⟨s, hs, rfl⟩ := List.mem_map.mp (pm.subset hd)
      refine ⟨_, rfl, fun n Qt Qf hc ht hf => ⟨.pot, rfl, 4, rfl, by decide, by decide, by omega, fun r h0 h1 => ⟨_, rfl, _, rfl, ite2 (fun e => ?_) (fun e => ?_)⟩⟩⟩
      · refine ⟨_, rfl, .pot, rfl, rfl, by omega, fun i n2 hi hi2 hn2 => ⟨by show 2 ≤ most; decide, ht _ _ (fun r e => ?_) (by omega)⟩⟩
        cases e
        exact ⟨s, i, rfl, ⟨hi, hi2⟩, rfl⟩
      · exact hf _ (fun r e => nomatch e) (by omega)
    · obtain ⟨ss, rfl, pm2⟩ := perm_strs pm
      obtain ⟨ps, e, sub, nn⟩ := rel_rowB hp
      have nd : Nds ps := List.Nodup.sublist sub (pm2.nodup_iff.mpr hy.nd)
      have hin : ∀ z ∈ ps, z.1 ∈ ys := fun z hz => pm2.subset (sub.subset (List.mem_map.mpr ⟨z, hz, rfl⟩))
      rw [e]
      have hlp := sub.length_le
      rw [List.length_map, pm2.length_eq] at hlp
      rw [hl'] at hn'
      exact q ps n' ⟨nd, fun z hz => (nn z hz).1, fun z hz => hy.ok _ (hin z hz)⟩ hin (fun z hz => (nn z hz).2) (by omega) (by omega)
theorem ok_lis_name (h : DefAt K mg "_law_is_name" s__law_is_name ["_law_value"]) (T : Tx K mg C) : Fn1 P w K mg base K "_law_is_name" 1 (F_is_nameG C) := by
  refine h.fn sc__law_is_name T.bt (k := 0) (fun f cdv A outer s H E en => (dss_cons (ds_if (DW.dt (dw_or (dt_not (dt_val (eIsi en T.isi (da_cons (v en 0) (da_cons (ty_str en) da_nil))))) (dw_or (dt_not (tLeLe de_int (eLen en (da_cons (v en 0) da_nil)) de_int)) (dw_or1 (tIn en (v en 0) (de_tup (da_cons de_str (da_cons de_str (da_cons de_str (da_cons de_str (da_cons de_str da_nil)))))))))))
    (dss_one (ds_ret de_bl))
    dss_nil)
    (dss_one (ds_ret (eAll en (da_cons (lc en (defScope s__law_is_name) [("_law_sign", 1)] (inS (v en 0)) (nm en.blk 1) dts_nil (eIn en.blk (v en.blk 1) de_str)) da_nil)))))) ?_ ?_
  · rintro ds n Q x ⟨d, rfl, _⟩; rfl
  · rintro ds n Q x ⟨d, rfl, ha, q⟩
    obtain ⟨a, ht, ho⟩ := anyB_tn ha
    refine ⟨d, rfl, _, isi_eq ht ho (b := .str) rfl rfl, _, rfl, ?_⟩
    by_cases hstr : ∃ s, d = .str s
    · obtain ⟨s, rfl⟩ := hstr
      cases ht
      have hs : s.length ≤ most := Nat.le_trans (anyB_str ha) (by decide)
      refine iteF ?_
      have hlen : lenD [.str s] = some (.int s.length) := if_pos hs
      have q : Q (.bl (nameB s)) n := q
      refine ⟨.str s, rfl, _, hlen, decide ((1 : Int) ≤ s.length), rfl, ite2 (fun e1 => ⟨_, rfl, decide ((s.length : Int) ≤ 8), rfl, ite2 (fun e2 => ?_) (fun e2 => ?_)⟩) (fun e1 => ⟨false, rfl, iteT (iteT ?_)⟩)⟩
      · have e2 : ¬ (s.length : Int) ≤ 8 := by simpa using e2
        refine iteT ?_
        have : nameB s = false := by unfold nameB; rw [decide_eq_false (show ¬ s.length ≤ 8 by omega)]; simp
        rw [this] at q
        exact q
      · have e2 : (s.length : Int) ≤ 8 := by simpa using e2
        have e1 : (1 : Int) ≤ s.length := of_decide_eq_true e1
        refine ⟨.str s, rfl, by show 5 ≤ most; decide, _, in_words s, _, rfl, ite2 (fun e3 => ?_) (fun e3 => ?_)⟩
        · have : nameB s = false := by unfold nameB; rw [decide_eq_true (of_decide_eq_true e3)]; simp
          rw [this] at q
          exact q
        · have e3 : s ∉ wordsL := by simpa using e3
          refine ⟨.str s, rfl, s, rfl, lc_each (fun d => (inD d (.str lettersS)).getD .non) ?_ (fun d hd => ?_) ?_⟩
          · unfold signs
            rw [List.length_map, Array.length_toList]
            exact hs
          · obtain ⟨c, hc, rfl⟩ := List.mem_map.mp hd
            exact ⟨_, rfl, fun n Qt hq => ⟨_, rfl, _, rfl, hq⟩⟩
          · refine ⟨_, ?_, q⟩
            have e4 : nameB s = s.cps.toList.all fun c => decide (c ∈ lettersS.cps.toList) := by
              unfold nameB
              rw [decide_eq_true (show 1 ≤ s.length by omega), decide_eq_true (show s.length ≤ 8 by omega), decide_eq_false e3]
              rfl
            rw [e4, ← all_eq]
            unfold signs
            rw [List.map_map]
            rfl
      · have e1 : ¬ (1 : Int) ≤ s.length := fun z => e1 (decide_eq_true z)
        have : nameB s = false := by unfold nameB; rw [decide_eq_false (show ¬ 1 ≤ s.length by omega)]; simp
        rw [this] at q
        exact q
    · have hn : nameD d = false := by
        cases d with
        | str s => exact absurd ⟨s, rfl⟩ hstr
        | _ => rfl
      rw [hn] at q
      have hi : isiT a .str = false := by
        cases d with
        | str s => exact absurd ⟨s, rfl⟩ hstr
        | _ => cases ht <;> rfl
      rw [hi]
      exact iteT (iteT q)
theorem ok_lis_count (h : DefAt K mg "_law_is_count" s__law_is_count ["_law_value"]) (T : Tx K mg C) : Fn1 P w K mg base K "_law_is_count" 1 (F_countG C) := by
  refine h.fn sc__law_is_count T.bt (k := 0) (fun f cdv A outer s H E en => (dss_one (ds_ret (de_and (eIsi en T.isi (da_cons (v en 0) (da_cons (ty_int en) da_nil))) (de_and (de_not (eIsi en T.isi (da_cons (v en 0) (da_cons (ty_bool en) da_nil)))) (de_one (eGe (v en 0) de_int))))))) ?_ ?_
  · rintro ds n Q x ⟨d, rfl, _⟩; rfl
  · rintro ds n Q x ⟨d, rfl, ha, q⟩
    obtain ⟨a, ht, ho⟩ := anyB_tn ha
    refine ⟨d, rfl, _, isi_eq ht ho (b := .int) rfl rfl, _, rfl, ?_⟩
    by_cases hi : ∃ i, d = .int i
    · obtain ⟨i, rfl⟩ := hi
      cases ht
      exact iteT ⟨_, rfl, _, isi_eq (a := .int) rfl rfl (b := .bool) rfl rfl, false, rfl, true, rfl, iteT ⟨_, rfl, _, rfl, q⟩⟩
    · have hc : countB d = false := by
        cases d with
        | int i => exact absurd ⟨i, rfl⟩ hi
        | _ => rfl
      rw [hc] at q
      by_cases hb : ∃ b, d = .bl b
      · obtain ⟨b, rfl⟩ := hb
        cases ht
        exact iteT ⟨_, rfl, _, isi_eq (a := .bool) rfl rfl (b := .bool) rfl rfl, true, rfl, false, rfl, iteF q⟩
      · have hh : isiT a .int = false := by
          cases d with
          | int i => exact absurd ⟨i, rfl⟩ hi
          | bl b => exact absurd ⟨b, rfl⟩ hb
          | _ => cases ht <;> rfl
        rw [hh]
        exact iteF q
theorem ok_oddT (h : DefAt K mg "_law_odd_thing" s__law_odd_thing ["_law_pot_here"]) (T : Tx K mg C) (h__law_of : Fn1 P w K mg base K "_law_of" 2 F_of) : Fn1 P w K mg base K "_law_odd_thing" 3 (F_oddT C) := by
  refine h.fn sc__law_odd_thing T.bt (k := 2) (fun f cdv A outer s H E en => (dss_cons (set en 1 (de_lst (da_cons de_non (da_cons de_bl (da_cons de_bl (da_cons de_int (da_cons de_int (da_cons (eNeg de_int) (da_cons de_str (da_cons de_str (da_cons de_str (da_cons de_str (da_cons de_str (da_cons de_str (da_cons de_str (da_cons de_str (da_cons de_str (da_cons de_str da_nil))))))))))))))))))
    (dss_one (ds_ret (call en h__law_of (da_cons (v en 0) (da_cons (eAdd en (v en 1) (de_lst (da_cons (de_tup da_nil) (da_cons (de_tup (da_cons de_str da_nil)) (da_cons (de_lst da_nil) (da_cons (de_lst (da_cons de_str da_nil)) (da_cons dct0 (da_cons dct1 (da_cons (de_tup (da_cons (de_tup (da_cons de_str (da_cons de_int da_nil))) da_nil)) da_nil))))))))) da_nil))))))) ?_ ?_
  · rintro ds n Q x ⟨rfl, _⟩; rfl
  · rintro ds n Q x ⟨rfl, hn, q⟩
    have bm : ∀ {j : Nat}, j ≤ 100 → j ≤ most := fun h => Nat.le_trans h (by decide)
    have hadd : addD (.lst oddA) (.lst oddB) = some (.lst (oddA ++ oddB)) := rfl
    refine ⟨.int (-1), rfl, bm (j := 16) (by decide), _, rfl, .pot, rfl, .lst oddA, rfl, bm (Nat.zero_le _), bm (j := 1) (by decide), bm (Nat.zero_le _), bm (j := 1) (by decide), bm (j := 2) (by decide), bm (j := 1) (by decide), bm (j := 7) (by decide), _, hadd, .lst (oddA ++ oddB), 23, rfl, rfl, by decide, by decide, hn, fun r h0 h1 => ?_⟩
    obtain ⟨d, hd, m⟩ := pick (l := oddA ++ oddB) h0 (by show r < 23; exact h1)
    exact ⟨d, hd, q d (odd_T d m)⟩
end
end K0
set_option Elab.async false
set_option linter.all false
set_option maxRecDepth 100000
set_option maxHeartbeats 1000000
set_option autoImplicit false
namespace K0
open PySem L2 DL MK
section
variable {P : Program} {w : World} {K : PySem.W.Frag} {mg : Str → Option Value} {base : Heap} {C B G : Addr} {f : Addr}
theorem dup_lt {α : Type} [DecidableEq α] : ∀ {l ys : List α}, ¬ l.Nodup → ys.Nodup → (∀ z ∈ ys, z ∈ l) → ys.length < l.length
  | [], ys, h, _, _ => absurd List.nodup_nil h
  | a :: l, ys, h, nd, s => by
    by_cases ha : a ∈ l
    · have : ys.length ≤ l.length := len_of_sub nd fun z hz => (List.mem_cons.mp (s z hz)).elim (fun e => by rw [e]; exact ha) id
      rw [List.length_cons]; omega
    · have h2 : ¬ l.Nodup := fun z => h (List.nodup_cons.mpr ⟨ha, z⟩)
      have := dup_lt (ys := ys.erase a) h2 (nd.erase a) fun z hz => ((List.mem_cons.mp (s z (List.mem_of_mem_erase hz))).elim (fun e => by
        subst e
        exact absurd hz (nd.not_mem_erase)) id)
      have h3 := List.length_erase_le (a := a) (l := ys)
      have h4 : ys.length ≤ (ys.erase a).length + 1 := by
        by_cases hm : a ∈ ys
        · rw [List.length_erase_of_mem hm]; omega
        · rw [List.erase_of_not_mem hm]; omega
      rw [List.length_cons]; omega
theorem nums_or {d : D} (h : Vnum C w d) : (∃ ps, Nums d ps) ∨ NoNums d := by
  by_cases e : ∃ ps, Nums d ps
  · exact .inl e
  · refine .inr fun ps hr ht => e ⟨ps, hr, ht, ?_⟩
    cases h with
    | tup es hl _ =>
      cases hr
      rw [row_len] at hl
      exact hl
    | odd ks vs ho =>
      have hr := Option.some.inj hr
      have := congrArg List.length hr
      rw [row_len] at this
      unfold pairsOf at this
      rw [List.length_map, List.length_zip] at this
      have := ho.le
      omega
    | other d h1 h2 h3 =>
      cases d with
      | tup l => exact absurd rfl h2
      | odd _ _ _ => exact absurd rfl h3
      | _ => cases hr
theorem pairs_mem {ks vs : List D} {e : D} (m : e ∈ pairsOf ks vs) : ∃ a b, e = .tup [a, b] ∧ a ∈ ks ∧ b ∈ vs := by
  obtain ⟨q, hq, rfl⟩ := List.mem_map.mp m
  exact ⟨q.1, q.2, rfl, (List.of_mem_zip hq).1, (List.of_mem_zip hq).2⟩
theorem pairs_ok {ks vs : List D} (h : OddOk C ks vs) : (pairsOf ks vs).length ≤ 9 ∧ ∀ e ∈ pairsOf ks vs, RowOk C e := by
  refine ⟨?_, fun e m => ?_⟩
  · unfold pairsOf
    rw [List.length_map, List.length_zip]
    have := h.le
    omega
  · obtain ⟨a, b, rfl, ha, hb⟩ := pairs_mem m
    exact ⟨rfl, fun a' b' e => by cases e; exact ⟨h.ak a ha, h.av b hb⟩⟩
theorem tup2 {d : D} (h : tupB d 2 = true) : ∃ a b, d = .tup [a, b] := by
  cases d with
  | tup l =>
    have h : (l.length : Int) = 2 := of_decide_eq_true h
    match l, h with
    | [a, b], _ => exact ⟨a, b, rfl⟩
    | [], h => simp at h
    | [a], h => simp at h
    | a :: b :: c :: l, h => simp at h; omega
  | _ => cases h
theorem ok_pairs_inG (h : DefAt K mg "pairs_in" s_pairs_in ["value"]) (T : Tx K mg C) (h_is_tuple_of : Fn1 P w K mg base K "is_tuple_of" 1 (F_is_tuple_of C)) (h_is_name : Fn1 P w K mg base K "is_name" 1 (F_is_nameG C)) (h_is_count : Fn1 P w K mg base K "is_count" 2 (F_is_count C)) : Fn1 P w K mg base K "pairs_in" 3 (F_pairs_inG C w) := by
  refine h.fn sc_pairs_in T.bt (k := 2) (fun f cdv A outer s H E en => (dss_cons (set en 1 (v en 0))
    (dss_cons (ds_if (dt_val (eIsi en T.isi (da_cons (v en 0) (da_cons (ty_dict en) da_nil))))
    (dss_one (set en 1 (eTuple en (da_cons (lc en (defScope s_pairs_in) [("store", 3), ("number", 4)] (inIO en (v en 0)) (nms en.blk 2 (dgs_cons (nm en.blk 3) (dgs_cons (nm en.blk 4) dgs_nil))) dts_nil (de_tup (da_cons (v en.blk 3) (da_cons (v en.blk 4) da_nil)))) da_nil))))
    dss_nil)
    (dss_cons (ds_if (dt_not (dt_val (eIsi en T.isi (da_cons (v en 1) (da_cons (ty_tuple en) da_nil)))))
    (dss_one (ds_ret de_non))
    dss_nil)
    (dss_cons (forIn en (inT en (v en 1)) (nm en 2)
    (dss_one (ds_if (DW.dt (dw_or (dt_not (dt_val (call en h_is_tuple_of (da_cons (v en 2) (da_cons de_int da_nil))))) (dw_or (dt_not (dt_val (call en h_is_name (da_cons (eIx en (v en 2) de_int) da_nil)))) (dw_or1 (dt_not (dt_val (call en h_is_count (da_cons (eIx en (v en 2) de_int) da_nil))))))))
    (dss_one (ds_ret de_non))
    dss_nil)))
    (dss_one (ds_ret (de_if (tEq en (lenS en (lc en (defScope s_pairs_in) [("pair", 2)] (inT en (v en 1)) (nm en.blk 2) dts_nil (eIx en.blk (v en.blk 2) de_int))) (eLen en (da_cons (v en 1) da_nil))) (v en 1) de_non)))))))) ?_ ?_
  · rintro ds n Q x ⟨d, rfl, _⟩; rfl
  · rintro ds n Q x ⟨d, rfl, hV, qy, qn⟩
    -- from the second test on
    have rest : ∀ (v0 : D) (es : List D), es.length ≤ 9 → (∀ e ∈ es, RowOk C e) → rowsD d = some es → dSeq (dIfS (dNot (dTest (dCl (isiD C) (dCons (dVar 1) (dCons (dC (.ty "tuple")) dNil))))) (dRet (dC .non)) dNext) (dSeq (dFor (dSeqT (dVar 1)) (gN 2) (dIfS (dOr (dNot (dTest (dCall (F_is_tuple_of C) [] (dCons (dVar 2) (dCons (dC (.int 2)) dNil))))) (dOr (dNot (dTest (dCall (F_is_nameG C) [] (dCons (dOp ixD (dVar 2) (dC (.int 0))) dNil)))) (dNot (dTest (dCall (F_is_count C) [] (dCons (dOp ixD (dVar 2) (dC (.int 1))) dNil)))))) (dRet (dC .non)) dNext))
        (dRet (dIf (dTest (dOp eqD (dLenS (dLc (dSeqT (dVar 1)) (gN 2) dYes (dOp ixD (dVar 2) (dC (.int 0))) [2])) (dCl lenD (dCons (dVar 1) dNil)))) (dVar 1) (dC .non)))) { nx := fun _ n' => Q .non n', rt := Q } [some (.val v0), some (.val (.tup es)), none, none, none] n x0 := by
      intro v0 es hl hrow hro
      refine ⟨_, rfl, .bl true, rfl, true, rfl, iteF ?_⟩
      refine ⟨_, rfl, es, rfl, fun i ρ n' => n' = n ∧ (∃ y, ρ = [some (.val v0), some (.val (.tup es)), y, none, none]) ∧ ∀ e ∈ es.take i, okPair e = true, ⟨rfl, ⟨none, rfl⟩, fun e m => nomatch m⟩, ?_, ?_⟩
      · rintro i ρ n' e he ⟨rfl, ⟨y, rfl⟩, hok⟩
        have hm := List.mem_of_getElem? he
        obtain ⟨ha, hab⟩ := hrow e hm
        obtain ⟨a, ht, ho⟩ := anyB_tn ha
        have bad : okPair e = false → Q .non n' := fun z => qn (no_bad hro hm z)
        refine ⟨_, rfl, _, rfl, e, a, 2, rfl, ht, ho, tupB e 2, rfl, ?_⟩
        cases h2 : tupB e 2 with
        | false =>
          refine iteT (iteT (bad ?_))
          cases e with
          | tup l =>
            unfold okPair
            split
            · rename_i heq
              cases heq
              cases h2
            · rfl
          | _ => rfl
        | true =>
          obtain ⟨a1, b1, rfl⟩ := tup2 h2
          obtain ⟨aa, ab⟩ := hab a1 b1 rfl
          refine iteF ⟨_, rfl, a1, rfl, a1, rfl, aa, nameD a1, rfl, ?_⟩
          cases h3 : nameD a1 with
          | false =>
            refine iteT (iteT (bad ?_))
            show (nameD a1 && countB b1) = false
            rw [h3]; rfl
          | true =>
            obtain ⟨tb, htb, hob⟩ := anyB_tn ab
            refine iteF ⟨_, rfl, b1, rfl, b1, tb, rfl, htb, hob, countB b1, rfl, ?_⟩
            cases h4 : countB b1 with
            | false =>
              refine iteT (bad ?_)
              show (nameD a1 && countB b1) = false
              rw [h3, h4]; rfl
            | true =>
              refine iteF ⟨rfl, ⟨_, rfl⟩, fun z hz => ?_⟩
              rw [List.take_add_one, he] at hz
              rcases List.mem_append.mp hz with hz | hz
              · exact hok z hz
              · rw [List.mem_singleton.mp hz]
                show (nameD a1 && countB b1) = true
                rw [h3, h4]; rfl
      · rintro ρ n' ⟨rfl, ⟨y, rfl⟩, hok⟩
        rw [List.take_length] at hok
        obtain ⟨ps, rfl, hnm, hnn⟩ := okPairs_row hok
        have hl2 := row_len ps
        refine ⟨_, rfl, rowD ps, rfl, lc_each (fun d => (ixD d (.int 0)).getD .non) (Nat.le_trans hl (by decide)) (fun d hd => ?_) ?_⟩
        · obtain ⟨z, hz, rfl⟩ := List.mem_map.mp hd
          exact ⟨_, rfl, fun n Qt hq => ⟨_, rfl, _, rfl, hq⟩⟩
        · refine ⟨ps.map (·.1), by rw [names_of], by rw [List.length_map]; omega, fun ys nd hm => ?_⟩
          refine ⟨_, rfl, _, rfl, _, eq_int _ _, decide ((ys.length : Int) = (rowD ps).length), rfl, ite2 (fun e => ?_) (fun e => ?_)⟩
          · have e : (ys.length : Int) = (rowD ps).length := of_decide_eq_true e
            have nd' : Nds ps := by
              by_cases z : Nds ps
              · exact z
              · have := dup_lt z nd fun y hy => (hm y).mp hy
                rw [List.length_map] at this
                rw [hl2] at e
                omega
            exact ⟨_, rfl, qy ps ⟨hro, ⟨nd', hnn, hnm⟩, by omega⟩⟩
          · refine qn (no_twice hro fun z => e (decide_eq_true ?_))
            rw [names_len z nd hm, hl2]
    cases hV with
    | tup es hl hr => exact ⟨_, rfl, _, rfl, _, rfl, .bl false, rfl, false, rfl, iteF (rest _ es hl hr rfl)⟩
    | odd ks vs ho =>
      obtain ⟨hl, hr⟩ := pairs_ok ho
      refine ⟨_, rfl, _, rfl, _, rfl, .bl true, rfl, true, rfl, iteT ?_⟩
      refine ⟨_, rfl, ks, vs, rfl, lc_each id (Nat.le_trans hl (by decide)) (fun e m => ?_) ?_⟩
      · obtain ⟨a, b, rfl, _, _⟩ := pairs_mem m
        exact ⟨_, rfl, fun n Qt hq => ⟨_, rfl, _, rfl, by show 2 ≤ most; decide, hq⟩⟩
      · rw [List.map_id]
        exact ⟨_, rfl, _, rfl, rest _ _ hl hr rfl⟩
    | other d h1 h2 h3 =>
      obtain ⟨a, ht, ho⟩ := anyB_tn h1
      have e1 : isiT a .dct = false := by cases a <;> first | rfl | exact absurd ht h3
      have e2 : isiT a .tup = false := by cases a <;> first | rfl | exact absurd ht h2
      refine ⟨_, rfl, _, rfl, d, rfl, _, isi_eq ht ho (b := .dct) rfl rfl, false, by rw [e1], iteF ?_⟩
      refine ⟨d, rfl, _, isi_eq ht ho (b := .tup) rfl rfl, false, by rw [e2], iteT (qn (no_rows ?_))⟩
      cases d with
      | tup l => exact absurd rfl h2
      | odd _ _ _ => exact absurd rfl h3
      | _ => rfl
end
end K0
set_option Elab.async false
set_option linter.all false
set_option maxRecDepth 100000
set_option maxHeartbeats 1000000
set_option autoImplicit false
namespace K0
open PySem L2 DL MK
section
variable {P : Program} {w : World} {K : PySem.W.Frag} {mg : Str → Option Value} {base : Heap} {C B G : Addr} {f : Addr}
theorem ok_initX {f : Addr} {dV kV doc pm cdv ct oc : Value} {an od : Option Addr} {osl : Array (Option Value)} (lk : K.lookup f = some ⟨oc, od, .func (PySem.W.fnOf "__init__" "Mark.__init__" (defArgs s_Mark___init__) (defBody s_Mark___init__) (defScope s_Mark___init__) dV kV doc pm an cdv ct), osl⟩) (hcd : PySem.W.codeIn K cdv "Mark.__init__" = true)
    (T : Tx K mg C) (h_pairs_in : Fn1 P w K mg base K "pairs_in" 3 (F_pairs_inG C w)) (h_BadMark : Xc P w K mg base "BadMark" B "value") : FnOk P w K mg base (L2.CX P w) 4 f (PySem.W.fnOf "__init__" "Mark.__init__" (defArgs s_Mark___init__) (defBody s_Mark___init__) (defScope s_Mark___init__) dV kV doc pm an cdv ct) ["self", "numbers"] (spMkX K C (F_MarkX C B w)) := by
  refine fn_of (k := 3) lk hcd sc_Mark___init__ (fun vs H Q E h => ?_) (fun A outer s H vs Q E hr h => ?_)
  · obtain ⟨y, dx, us, ds, Z, p, n, x, Qd, rfl, hy, zy, hp, zp, hd, rs, ⟨d, rfl, _⟩, hQ, _⟩ := h
    show us.length + 1 = 2
    rw [← rs.len]
    rfl
  · obtain ⟨y, dx, us, ds, Z, p, n, x, Qd, rfl, hy, zy, hp, zp, hd, rs, ⟨dn, rfl, hV, qy, qn⟩, hQ, hx⟩ := h
    obtain ⟨un, rfl, rn⟩ := reps1 rs
    have hyp : y ≠ p := fun e => zy (e ▸ zp)
    have en : En (famX P w K mg base N_Mark___init__ "Mark.__init__" (defScope s_Mark___init__) f cdv A outer s H E) P w K mg base N_Mark___init__ 3 := ⟨fun _ => rfl, fun _ => rfl, fun _ => rfl, fun _ => rfl, fun _ => rfl, fun _ => rfl, fun _ => rfl, fun _ => hr, sc_Mark___init__.nd, T.bt⟩
    have tk : ∀ i, Takes (famX P w K mg base N_Mark___init__ "Mark.__init__" (defScope s_Mark___init__) f cdv A outer s H E i) (fun cls d _ H => E cls d H) := fun _ => takes_of rfl rfl rfl rfl
    have w0 : Wd K p H (zAdd Z y) (startD N_Mark___init__ [.con y, dn]) n (zAdd Z y) (L2.start N_Mark___init__ [.ref y, un]) H := start_wd hp (.inl zp) (fun a z e => z.elim (fun z => hd a z e) fun z => by rw [z, hy] at e; cases e) (reps_two rfl rn)
    have d1 : DS (famX P w K mg base N_Mark___init__ "Mark.__init__" (defScope s_Mark___init__) f cdv A outer s H E) K E0 ((defBody s_Mark___init__).getD 0 (.Pass ⟨0, 0, 0, 0⟩)) _ := (set en 2 (call en h_pairs_in (da_cons (v en 1) da_nil)))
    have d2 : DS (famX P w K mg base N_Mark___init__ "Mark.__init__" (defScope s_Mark___init__) f cdv A outer s H E) K E ((defBody s_Mark___init__).getD 1 (.Pass ⟨0, 0, 0, 0⟩)) _ := (ds_if (DT.up (tIs (v en 2) de_non))
    (dss_one (raiseX en h_BadMark tk (DE.up (v en 1))))
    dss_nil)
    obtain ⟨t1, p1, e1⟩ := d1
    obtain ⟨t2, p2, e2⟩ := d2
    have d3 : DE (famX P w K mg base N_Mark___init__ "Mark.__init__" (defScope s_Mark___init__) f cdv A outer s H E) K E0 (asgVal ((defBody s_Mark___init__).getD 2 (.Pass ⟨0, 0, 0, 0⟩))) _ := (eTuple en (da_cons (sortP en (lc en (defScope s_Mark___init__) [("store", 3), ("number", 4)] (inT en (v en 2)) (nms en.blk 2 (dgs_cons (nm en.blk 3) (dgs_cons (nm en.blk 4) dgs_nil))) (dts_one (tGt (v en.blk 4) de_int)) (de_tup (da_cons (v en.blk 3) (da_cons (v en.blk 4) da_nil))))) da_nil))
    obtain ⟨t3, p3, e3⟩ := d3
    refine ⟨_, pss_cons (p1 ()) (pss_cons (p2 ()) (pss_one (ps_fld (pv 0) (p3 ()) rfl))), ?_⟩
    rcases nums_or hV with ⟨ps, hN⟩ | hN
    · have hl2 : (rowD ps).length = ps.length := row_len ps
      have hl := hN.le
      refine e1 (De := { nx := fun ρ n' => ρ = [some (.val (.con y)), some (.val dn), some (.val (.tup (rowD ps))), none, none] ∧ n' = n, rt := fun _ _ => False }) w0 HE.zero ⟨dn, rfl, dn, rfl, hV, fun qs hq => ⟨_, rfl, by rw [hq.eq hN]; exact ⟨rfl, rfl⟩⟩, fun z => absurd hN.tb (z ps hN.ro)⟩ (fun ρ1 n1 Z1 σ1 H1 w1 m1 h1 => ?_) (fun _ _ _ _ _ _ _ h => h.elim) (fun _ _ _ _ _ _ _ h => h.elim) (fun _ _ _ _ _ _ _ h => h.elim)
      obtain ⟨rfl, rfl⟩ := h1
      refine e2 (De := { nx := fun ρ n' => ρ = [some (.val (.con y)), some (.val dn), some (.val (.tup (rowD ps))), none, none] ∧ n' = n1, rt := fun _ _ => False }) w1 hx ⟨_, rfl, _, rfl, false, rfl, iteF ⟨rfl, rfl⟩⟩ (fun ρ2 n2 Z2 σ2 H2 w2 m2 h2 => ?_) (fun _ _ _ _ _ _ _ h => h.elim) (fun _ _ _ _ _ _ _ h => h.elim) (fun _ _ _ _ _ _ _ h => h.elim)
      obtain ⟨rfl, rfl⟩ := h2
      refine e3 (Q := fun d n' => n' = n2 ∧ ∃ qs, Due ps qs ∧ d = .tup (rowD qs)) w2 HE.zero ?_ fun v H3 d n3 w3 k3 r3 h3 => ?_
      · refine ⟨_, rfl, rowD ps, rfl, lc_some posG (by rw [hl2]; exact Nat.le_trans hl (by decide)) (fun d hd => ?_) ?_⟩
        · obtain ⟨z, hz, rfl⟩ := List.mem_map.mp hd
          refine ⟨_, rfl, fun n Qt Qf ht hf => ⟨_, rfl, _, rfl, _, rfl, ite2 (fun e => ?_) (fun e => ?_)⟩⟩
          · exact ⟨_, rfl, _, rfl, (by show 2 ≤ most; decide), ht _ (if_pos (of_decide_eq_true e))⟩
          · exact hf (if_neg fun q => e (decide_eq_true q))
        · rw [pos_row]
          exact ⟨posR ps, rfl, Nat.lt_of_le_of_lt (posR_len _) (by omega), fun ys so hm => ⟨_, rfl, rfl, ys, pos_due so hm, rfl⟩⟩
      · obtain ⟨rfl, qs, due, rfl⟩ := h3
        obtain ⟨v0, ev0, r0⟩ := w3.val (i := 0) (d := .con y) rfl
        have r0 : v0 = .ref y := r0
        subst r0
        have hy3 : H3 y = some (.ins C dx []) := w3.keep y _ hyp hy
        refine ⟨_, ev0, y, C, dx, [], rfl, hy3, T.cl, T.nN, (by show 0 < 1000; decide), ?_⟩
        have zy3 : Z2 y := w3.sub y (.inr rfl)
        have mv : Mv Z2 H3 (zAdd Z y) (upd H3 y (.ins C dx (putF "numbers" v []))) := fun a o z h => ⟨fun g => z (w3.sub a g), by rw [upd_ne fun e => z (by rw [e]; exact zy3)]; exact h⟩
        refine hQ [("numbers", .tup (rowD qs))] n3 _ _ ?_ (fun a o na ny h => ?_) upd_same ⟨v, [], rfl, r3.mv mv, rfl⟩ (qy ps hN qs due)
        · obtain ⟨oo, ss, cc, hpp, r⟩ := w3.pot
          exact ⟨oo, ss, cc, by rw [upd_ne (Ne.symm hyp)]; exact hpp, r⟩
        · rw [upd_ne ny]
          exact w3.keep a o na h
    · refine e1 (De := { nx := fun ρ n' => ρ = [some (.val (.con y)), some (.val dn), some (.val .non), none, none] ∧ n' = n, rt := fun _ _ => False }) w0 HE.zero ⟨dn, rfl, dn, rfl, hV, fun qs hq => absurd hq.tb (hN qs hq.ro), fun _ => ⟨_, rfl, rfl, rfl⟩⟩ (fun ρ1 n1 Z1 σ1 H1 w1 m1 h1 => ?_) (fun _ _ _ _ _ _ _ h => h.elim) (fun _ _ _ _ _ _ _ h => h.elim) (fun _ _ _ _ _ _ _ h => h.elim)
      obtain ⟨rfl, rfl⟩ := h1
      exact e2 (De := { nx := fun _ _ => False, rt := fun _ _ => False }) w1 hx ⟨_, rfl, _, rfl, true, rfl, iteT ⟨_, rfl, qn hN⟩⟩ (fun _ _ _ _ _ _ _ h => h.elim) (fun _ _ _ _ _ _ _ h => h.elim) (fun _ _ _ _ _ _ _ h => h.elim) (fun _ _ _ _ _ _ _ h => h.elim)
end
end K0
set_option Elab.async false
set_option linter.all false
set_option maxRecDepth 100000
set_option maxHeartbeats 1000000
set_option autoImplicit false
namespace K0
open PySem L2 DL MK
/-- the errors -/
structure Xx (K : PySem.W.Frag) (mg : Str → Option Value) (B G J M : Addr) : Prop where
  mE : mg "MarkError" = some (.ref M)
  vE : mg "ValueError" = none
  mV : GlV mg "BadMark" (.ref B)
  sV : GlV mg "BadStore" (.ref G)
  nV : GlV mg "BadNumber" (.ref J)
  qM : Xq K B "value"
  mM : PySem.W.exmOne K (.ref B) (.ref M) = some true
  bb : PySem.W.kitOne K (.ref B) (.ref B) = some true
  bv : PySem.W.kitOne K (.ref B) (.type "ValueError") = some true
  bg : PySem.W.kitOne K (.ref B) (.ref G) = some false
  bj : PySem.W.kitOne K (.ref B) (.ref J) = some false
section
variable {X : Cx} {P : Program} {w : World} {K : PySem.W.Frag} {mg : Str → Option Value} {base : Heap} {N : List Str} {k : Nat} {pos pos' p1 : Pos} {y z : Str}
theorem suSet (en : En (fun _ : Unit => X) P w K mg base N k) (i j : Nat) (hi : N[i]? = some y := by rfl) (hj : N[j]? = some z := by rfl) (hx : ∀ q, Loc (suF X q).env.scope y := by intro _; first | exact Or.inl rfl | exact Or.inr rfl) (hf : ∀ q, (suF X q).fn y = true ∨ (suF X q).env.scope.names.lookup y = some .local := by intro _; first | exact Or.inr rfl | exact Or.inl rfl)
    (hv : ∀ q, Vis (suF X q).env.scope z := by intro _; first | exact Or.inl rfl | exact Or.inr (Or.inl rfl) | exact Or.inr (Or.inr rfl)) (hd : (z == ("__debug__" : Str)) = false := by decide) (hcd : (z == ("__classdict__" : Str)) = false := by decide) (hs : ∀ q, swapsWith (.Name z p1) (some (.Name y pos')) pos.line (suF X q).env = pure false := by intro _; rfl) :
    DS (suF X) K E0 (.Assign [.Name y pos'] (.Name z p1) pos) (dAsg (dVar j) (gN i)) :=
  ds_set (fun _ => en.nd' ()) (fun _ => by show X.N[i]? = _; rw [en.hN ()]; exact hi) hx hf (de_var j (fun _ => by show X.N[j]? = _; rw [en.hN ()]; exact hj) hv hd hcd) hs
end
section
variable {P : Program} {w : World} {K : PySem.W.Frag} {mg : Str → Option Value} {base : Heap} {C B G J M : Addr} {f : Addr}
abbrev s__law_is_numbers : Stmt := top 33
abbrev N__law_is_numbers : List Str := ["_law_value", "_law_rows", "_law_key", "_law_row"]
theorem sc__law_is_numbers : FnScope N__law_is_numbers ["_law_value"] (defScope s__law_is_numbers) := ⟨rfl, rfl, rfl, by decide +kernel, rfl, by decide +kernel, by decide +kernel⟩
abbrev s__law_heard : Stmt := top 35
abbrev N__law_heard : List Str := ["_law_value", "_law_caught", "error"]
theorem sc__law_heard : FnScope N__law_heard ["_law_value"] (defScope s__law_heard) := ⟨rfl, rfl, rfl, by decide +kernel, rfl, by decide +kernel, by decide +kernel⟩
abbrev s__law_judged : Stmt := top 36
abbrev N__law_judged : List Str := ["_law_value", "_law_word", "_law_told", "_law_rows", "_law_key"]
theorem sc__law_judged : FnScope N__law_judged ["_law_value"] (defScope s__law_judged) := ⟨rfl, rfl, rfl, by decide +kernel, rfl, by decide +kernel, by decide +kernel⟩
theorem nkL_get : ∀ {ks : List D} {nks : List NestedKey} {i : Nat} {k : D}, nkL ks = some nks → ks[i]? = some k → ∃ c, nks[i]? = some c ∧ nkD k = some c
  | [], _, i, k, e, h => by simp at h
  | d :: l, nks, i, k, e, h => by
    have e : (nkD d).bind (fun k => (nkL l).map (k :: ·)) = some nks := e
    cases h1 : nkD d with
    | none => rw [h1] at e; cases e
    | some c =>
      rw [h1] at e
      cases h2 : nkL l with
      | none => rw [h2] at e; cases e
      | some cs =>
        rw [h2] at e
        cases e
        cases i with
        | zero => cases h; exact ⟨c, rfl, h1⟩
        | succ i => exact nkL_get (i := i) h2 h
def lookO (nks : List NestedKey) (vs : List D) (k : D) : D := match nkD k with
  | some c => (vs[nks.idxOf c]?).getD .non
  | none => .non
theorem idx_nd {nks : List NestedKey} {i : Nat} {c : NestedKey} (nd : nks.Nodup) (h : nks[i]? = some c) : nks.idxOf c = i := by
  have hm := List.mem_of_getElem? h
  have h1 : nks.idxOf c < nks.length := List.idxOf_lt_length_iff.mpr hm
  have h2 : nks[nks.idxOf c]? = some c := by
    rw [List.getElem?_eq_getElem h1]
    exact congrArg some (List.getElem_idxOf h1)
  exact OddD.nd_eq nd h2 h
theorem look_at {ks vs : List D} {nks : List NestedKey} (e : nkL ks = some nks) (nd : nks.Nodup) (hl : ks.length = vs.length) {i : Nat} {k : D} (h : ks[i]? = some k) : ∃ c r, nkD k = some c ∧ nks[i]? = some c ∧ vs[i]? = some r ∧ lookO nks vs k = r := by
  obtain ⟨c, h1, h2⟩ := nkL_get e h
  have hi := (List.getElem?_eq_some_iff.mp h).1
  have hv : vs[i]? = some vs[i] := List.getElem?_eq_getElem (by omega)
  refine ⟨c, _, h2, h1, hv, ?_⟩
  unfold lookO
  rw [h2]
  show (vs[nks.idxOf c]?).getD .non = _
  rw [idx_nd nd h1, hv]
  rfl
theorem look_pairs {ks vs : List D} {nks : List NestedKey} (e : nkL ks = some nks) (nd : nks.Nodup) (hl : ks.length = vs.length) : ks.map (fun k => D.tup [k, lookO nks vs k]) = pairsOf ks vs := by
  refine List.ext_getElem? fun i => ?_
  unfold pairsOf
  rw [List.getElem?_map, List.getElem?_map]
  cases h : ks[i]? with
  | none =>
    have hi : ks.length ≤ i := List.getElem?_eq_none_iff.mp h
    rw [List.getElem?_eq_none (by rw [List.length_zip]; omega)]
    rfl
  | some k =>
    obtain ⟨c, r, _, _, h3, h4⟩ := look_at e nd hl h
    rw [show (ks.zip vs)[i]? = some (k, r) from List.getElem?_zip_eq_some.mpr ⟨h, h3⟩]
    show some (D.tup [k, lookO nks vs k]) = _
    rw [h4]
    rfl
theorem all_bl {l : List D} {g : D → Bool} {h : D → D} (e : ∀ d ∈ l, h d = .bl (g d)) : allD [.lst (l.map h)] = some (.bl (l.all g)) := by
  rw [List.map_congr_left e]
  exact all_eq l g
theorem tupB_ok {e : D} (h : tupB e 2 = false) : okPair e = false := by
  cases e with
  | tup l =>
    unfold okPair
    split
    · rename_i heq
      cases heq
      cases h
    · rfl
  | _ => rfl
theorem ok_is_numbers (h : DefAt K mg "_law_is_numbers" s__law_is_numbers ["_law_value"]) (T : Tx K mg C) (h__law_is_name : Fn1 P w K mg base K "_law_is_name" 1 (F_is_nameG C)) (h__law_is_count : Fn1 P w K mg base K "_law_is_count" 1 (F_countG C)) : Fn1 P w K mg base K "_law_is_numbers" 2 (F_is_numbers C w) := by
  refine h.fn sc__law_is_numbers T.bt (k := 1) (fun f cdv A outer s H E en => (dss_cons (ds_if (dt_not (dt_val (eIsiZ en T.isi (da_cons (v en 0) (da_cons (de_tup (da_cons (ty_tuple en) (da_cons (ty_dict en) da_nil))) da_nil)))))
    (dss_one (ds_ret de_bl))
    dss_nil)
    (dss_cons (set en 1 (de_if (dt_val (eIsi en T.isi (da_cons (v en 0) (da_cons (ty_dict en) da_nil)))) (lc en (defScope s__law_is_numbers) [("_law_key", 2)] (inKO en (v en 0)) (nm en.blk 2) dts_nil (de_tup (da_cons (v en.blk 2) (da_cons (ixO en.blk (v en.blk 0) (v en.blk 2)) da_nil)))) (eList en (da_cons (v en 0) da_nil))))
    (dss_cons (ds_if (dt_not (dt_val (eAll en (da_cons (lc en (defScope s__law_is_numbers) [("_law_row", 3)] (inL en (v en 1)) (nm en.blk 3) dts_nil (de_and (eIsi en.blk T.isi (da_cons (v en.blk 3) (da_cons (ty_tuple en.blk) da_nil))) (de_one (eEq en.blk (eLen en.blk (da_cons (v en.blk 3) da_nil)) de_int)))) da_nil))))
    (dss_one (ds_ret de_bl))
    dss_nil)
    (dss_cons (ds_if (dt_not (dt_val (eAll en (da_cons (lc en (defScope s__law_is_numbers) [("_law_row", 3)] (inL en (v en 1)) (nm en.blk 3) dts_nil (de_and (call en.blk h__law_is_name (da_cons (eIx en.blk (v en.blk 3) de_int) da_nil)) (de_one (call en.blk h__law_is_count (da_cons (eIx en.blk (v en.blk 3) de_int) da_nil))))) da_nil))))
    (dss_one (ds_ret de_bl))
    dss_nil)
    (dss_one (ds_ret (eEq en (lenS en (lc en (defScope s__law_is_numbers) [("_law_row", 3)] (inL en (v en 1)) (nm en.blk 3) dts_nil (eIx en.blk (v en.blk 3) de_int))) (eLen en (da_cons (v en 1) da_nil)))))))))) ?_ ?_
  · rintro ds n Q x ⟨d, rfl, _⟩; rfl
  · rintro ds n Q x ⟨d, rfl, hV, qy, qn⟩
    obtain ⟨a, ht, ho⟩ := vl_tn hV
    have hz : isiZ C [d, .tup [.ty "tuple", .ty "dict"]] = some (.bl (isiT a .tup || (isiT a .dct || false))) := by
      show (match tnOf d, clsOf [.ty "tuple", .ty "dict"] with | some a, some bs => if (okT C a && bs.all (okT C)) = true then some (D.bl (bs.any (isiT a))) else none | _, _ => none) = _
      rw [ht]
      show (if (okT C a && true) = true then _ else _) = _
      rw [ho]
      rfl
    have rest : ∀ es : List D, es.length ≤ 9 → (∀ e ∈ es, RowOk C e) → rowsD d = some es → dSeq (dIfS (dNot (dTest (dCl allD (dCons (dLc (dSeqL (dVar 1)) (gN 3) dYes (dAndV (dCl (isiD C) (dCons (dVar 3) (dCons (dC (.ty "tuple")) dNil))) (dOp eqD (dCl lenD (dCons (dVar 3) dNil)) (dC (.int 2)))) [3]) dNil)))) (dRet (dC (.bl false))) dNext)
        (dSeq (dIfS (dNot (dTest (dCl allD (dCons (dLc (dSeqL (dVar 1)) (gN 3) dYes (dAndV (dCall (F_is_nameG C) [] (dCons (dOp ixD (dVar 3) (dC (.int 0))) dNil)) (dCall (F_countG C) [] (dCons (dOp ixD (dVar 3) (dC (.int 1))) dNil))) [3]) dNil)))) (dRet (dC (.bl false))) dNext)
        (dRet (dOp eqD (dLenS (dLc (dSeqL (dVar 1)) (gN 3) dYes (dOp ixD (dVar 3) (dC (.int 0))) [3])) (dCl lenD (dCons (dVar 1) dNil))))) { nx := fun _ n' => Q .non n', rt := Q } [some (.val d), some (.val (.lst es)), none, none] n x0 := by
      intro es hl hrow hro
      refine ⟨_, rfl, es, rfl, lc_each (fun e => .bl (tupB e 2)) (Nat.le_trans hl (by decide)) (fun e he => ?_) ⟨_, all_eq es fun e => tupB e 2, _, rfl, ?_⟩⟩
      · obtain ⟨t, ht, ho⟩ := anyB_tn (hrow e he).1
        refine ⟨_, rfl, fun n Qt hq => ⟨_, rfl, _, isi_eq ht ho (b := .tup) rfl rfl, _, rfl, ?_⟩⟩
        cases e with
        | tup l => cases ht; exact iteT ⟨_, rfl, _, rfl, _, eq_int _ _, hq⟩
        | _ => cases ht <;> exact iteF hq
      cases h2 : es.all fun e => tupB e 2 with
      | false =>
        refine iteT (qn ?_)
        obtain ⟨e, he, h3⟩ := List.all_eq_false.mp h2
        exact no_bad hro he (tupB_ok (by simpa using h3))
      | true =>
        rw [List.all_eq_true] at h2
        refine iteF ⟨_, rfl, es, rfl, lc_each (fun e => .bl (okPair e)) (Nat.le_trans hl (by decide)) (fun e he => ?_) ⟨_, all_eq es okPair, _, rfl, ?_⟩⟩
        · obtain ⟨a1, b1, rfl⟩ := tup2 (h2 e he)
          obtain ⟨aa, ab⟩ := (hrow _ he).2 a1 b1 rfl
          refine ⟨_, rfl, fun n Qt hq => ⟨_, rfl, a1, rfl, a1, rfl, aa, nameD a1, rfl, ?_⟩⟩
          have hq : Qt (.bl (nameD a1 && countB b1)) n := hq
          cases h3 : nameD a1 with
          | false => rw [h3] at hq; exact iteF hq
          | true => rw [h3] at hq; exact iteT ⟨_, rfl, b1, rfl, b1, rfl, ab, hq⟩
        cases h3 : es.all okPair with
        | false =>
          refine iteT (qn ?_)
          obtain ⟨e, he, h4⟩ := List.all_eq_false.mp h3
          exact no_bad hro he (by simpa using h4)
        | true =>
          rw [List.all_eq_true] at h3
          obtain ⟨ps, rfl, hnm, hnn⟩ := okPairs_row h3
          have hl2 := row_len ps
          refine iteF ⟨_, rfl, rowD ps, rfl, lc_each (fun d => (ixD d (.int 0)).getD .non) (Nat.le_trans hl (by decide)) (fun d hd => ?_) ?_⟩
          · obtain ⟨z, hz, rfl⟩ := List.mem_map.mp hd
            exact ⟨_, rfl, fun n Qt hq => ⟨_, rfl, _, rfl, hq⟩⟩
          · refine ⟨ps.map (·.1), by rw [names_of], by rw [List.length_map]; omega, fun ys nd hm => ?_⟩
            refine ⟨_, rfl, _, rfl, _, eq_int _ _, ?_⟩
            by_cases e : (ys.length : Int) = (rowD ps).length
            · have nd' : Nds ps := by
                by_cases z : Nds ps
                · exact z
                · have := dup_lt z nd fun y hy => (hm y).mp hy
                  rw [List.length_map] at this
                  rw [hl2] at e
                  omega
              rw [decide_eq_true e]
              exact qy ps ⟨hro, ⟨nd', hnn, hnm⟩, by omega⟩
            · rw [decide_eq_false e]
              refine qn (no_twice hro fun z => e ?_)
              rw [names_len z nd hm, hl2]
    cases hV with
    | tup es hl hr => cases ht; exact ⟨_, rfl, by show 2 ≤ most; decide, _, hz, true, rfl, iteF ⟨_, rfl, .bl false, rfl, false, rfl, iteF ⟨_, rfl, _, rfl, _, rfl, rest es hl hr rfl⟩⟩⟩
    | odd ks vs hO =>
      cases ht
      obtain ⟨hl, hr⟩ := pairs_ok hO
      obtain ⟨nks, hk, hnd⟩ := hO.nk
      refine ⟨_, rfl, by show 2 ≤ most; decide, _, hz, true, rfl, iteF ⟨_, rfl, .bl true, rfl, true, rfl, iteT ?_⟩⟩
      refine ⟨_, rfl, ks, vs, rfl, lc_each (fun k => .tup [k, lookO nks vs k]) (Nat.le_trans hO.le (by decide)) (fun k hm => ?_) ?_⟩
      · obtain ⟨i, hi⟩ := List.mem_iff_getElem?.mp hm
        obtain ⟨c, r, h1, h2, h3, h4⟩ := look_at hk hnd hO.eq hi
        exact ⟨_, rfl, fun n Qt hq => ⟨_, rfl, _, rfl, ks, vs, rfl, _, rfl, i, c, nks, r, h1, hk, h2, h3, by show 2 ≤ most; decide, by rw [← h4]; exact hq⟩⟩
      · rw [look_pairs hk hnd hO.eq]
        exact ⟨_, rfl, rest _ hl hr rfl⟩
    | other d h1 h2 h3 =>
      have e1 : isiT a .dct = false := by cases a <;> first | rfl | exact absurd ht h3
      have e2 : isiT a .tup = false := by cases a <;> first | rfl | exact absurd ht h2
      rw [e1, e2] at hz
      refine ⟨_, rfl, by show 2 ≤ most; decide, _, hz, false, rfl, iteT (qn (no_rows ?_))⟩
      cases d with
      | tup l => exact absurd rfl h2
      | odd _ _ _ => exact absurd rfl h3
      | _ => rfl
theorem ok_heard (h : DefAt K mg "_law_heard" s__law_heard ["_law_value"]) (T : Tx K mg C) (X : Xx K mg B G J M) (h_MarkX : MkX P w K mg base "Mark" C 4 (F_MarkX C B w)) : Fn1 P w K mg base K "_law_heard" 6 (F_heard C w) := by
  refine h.fn sc__law_heard T.bt (k := 5) (fun f cdv A outer s H E en => (dss_cons (set en 1 de_non)
    (dss_cons (try_ds en 2 (wss_one (ws_ret (we_pair (we_fld en T.cl T.nN (we_make en h_MarkX (da_cons (v en.tr 0) da_nil))))))
    (dss_one (suSet en 1 2)) X.mE)
    (dss_cons (ds_if (DW.dt (dw_or (dt_not (dt_val (isX en (da_cons (v en 1) (da_cons (gl en (d := .con B) X.mV fun _ _ _ => rfl) da_nil))))) (dw_or1 (dt_not (dt_val (isXB en (da_cons (v en 1) (da_cons (dty (T := "ValueError") (en.no X.vE) (by decide +kernel)) da_nil))))))))
    (dss_one (ds_ret (de_tup (da_cons de_str (da_cons de_non da_nil)))))
    dss_nil)
    (dss_one (ds_ret (de_if (dt_val (isXT en (da_cons (v en 1) (da_cons (de_tup (da_cons (gl en (d := .con G) X.sV fun _ _ _ => rfl) (da_cons (gl en (d := .con J) X.nV fun _ _ _ => rfl) da_nil))) da_nil)))) (de_tup (da_cons de_str (da_cons de_non da_nil))) (de_tup (da_cons de_str (da_cons (fldX en (v en 1)) da_nil)))))))))) ?_ ?_
  · rintro ds n Q x ⟨d, rfl, _⟩; rfl
  · rintro ds n Q x ⟨d, rfl, hV, qy, qn⟩
    refine ⟨_, rfl, ?_, _, rfl, d, rfl, hV, fun ps hN qs due => ⟨_, _, rfl, rfl, qy ps hN qs due⟩, fun hN => ⟨X.mM, _, rfl, _, rfl, ?_⟩⟩
    · refine plain_of fun s m => ?_
      simp only [startD, List.map_cons, List.map_nil, List.length_cons, List.length_nil, List.cons_append, List.nil_append, List.set_cons_succ, List.set_cons_zero, List.replicate, List.mem_cons, List.not_mem_nil, or_false, Option.some.injEq, reduceCtorEq, false_or, or_false] at m
      rcases m with rfl | rfl <;> rfl
    · refine ⟨_, rfl, B, _, B, true, "value", rfl, X.qM, X.bb, true, rfl, iteF ?_⟩
      have hk : PySem.W.kitAny K (.ref B) ([Tn.own G, Tn.own J].map tnV) = some false := kitAny_cons X.bg (fun _ => kitAny_cons X.bj (fun _ => kitAny_nil) fun z => nomatch z) fun z => nomatch z
      refine ⟨_, rfl, B, _, "ValueError", true, "value", rfl, X.qM, X.bv, true, rfl, iteF ?_⟩
      exact ⟨_, rfl, by show 2 ≤ most; decide, B, _, [.con G, .con J], [.own G, .own J], false, "value", rfl, X.qM, rfl, hk, false, rfl, iteF ⟨_, rfl, B, _, _, rfl, X.qM, rfl, by show 2 ≤ most; decide, qn hN⟩⟩
theorem eqS_same (s : Str) : eqS (.str s) (.str s) = some (.bl true) := by simp [eqS]
theorem ok_judged (h : DefAt K mg "_law_judged" s__law_judged ["_law_value"]) (T : Tx K mg C) (hS : base.get? sysModules ≠ none) (hmr : mg "repr" = none) (h__law_heard : Fn1 P w K mg base K "_law_heard" 6 (F_heard C w)) (h__law_is_numbers : Fn1 P w K mg base K "_law_is_numbers" 2 (F_is_numbers C w)) (h__law_due : Fn1 P w K mg base K "_law_due" 1 F_due) : Fn1G P w K mg base "_law_judged" 7 (F_judged C w) := by
  refine h.fng sc__law_judged T.bt (k := 6) (fun f cdv A outer s H E en gd => (dss_cons (ds_asg (call en h__law_heard (da_cons (v en 0) da_nil)) (nms en 2 (dgs_cons (nm en 1) (dgs_cons (nm en 2) dgs_nil))))
    (dss_cons (ds_if (dt_not (dt_val (call en h__law_is_numbers (da_cons (v en 0) da_nil))))
    (dss_one (ds_ret (de_and (eEqT (v en 1) de_str) (de_one (eEqT (eRepr en hS gd hmr (da_cons (v en 2) da_nil)) (eRepr en hS gd hmr (da_cons (v en 0) da_nil)))))))
    dss_nil)
    (dss_cons (set en 3 (de_if (dt_val (eIsi en T.isi (da_cons (v en 0) (da_cons (ty_dict en) da_nil)))) (lc en (defScope s__law_judged) [("_law_key", 4)] (inKO en (v en 0)) (nm en.blk 4) dts_nil (de_tup (da_cons (v en.blk 4) (da_cons (ixO en.blk (v en.blk 0) (v en.blk 4)) da_nil)))) (eList en (da_cons (v en 0) da_nil))))
    (dss_one (ds_ret (de_and (eEqT (v en 1) de_str) (de_one (eEq en (v en 2) (call en h__law_due (da_cons (v en 3) da_nil))))))))))) ?_ ?_
  · rintro ds n Q x ⟨d, rfl, _⟩; rfl
  · rintro ds n Q x ⟨d, rfl, hV, hsm, q⟩
    refine ⟨_, rfl, d, rfl, hV, fun ps hN qs due => ⟨_, rfl, ?_⟩, fun hN => ⟨_, rfl, ?_⟩⟩
    · refine ⟨_, rfl, d, rfl, hV, fun ps' _ => ⟨true, rfl, iteF ?_⟩, fun z => absurd hN.tb (z ps hN.ro)⟩
      have hl := hN.le
      have fin : ∀ es, rowsD d = some es → [D.lst es] = [D.lst (rowD ps)] := fun es he => by
        rw [hN.ro] at he
        cases he
        rfl
      have eqq : ∀ qs', Due ps qs' → eqD (.tup (rowD qs)) (.tup (rowD qs')) = some (.bl true) := fun qs' due' => by
        rw [due'.eq due]
        exact eq_pl (row_pl (due.wf hN.tb).nm) (row_pl (due.wf hN.tb).nm) (by simp)
      cases hV with
      | tup es h1 h2 => exact ⟨_, rfl, .bl false, rfl, false, rfl, iteF ⟨_, rfl, _, rfl, _, rfl, _, rfl, _, eqS_same _, true, rfl, iteT ⟨_, rfl, _, rfl, ps, fin _ rfl, by omega, fun qs' due' => ⟨_, eqq qs' due', q⟩⟩⟩⟩
      | odd ks vs hO =>
        obtain ⟨nks, hk, hnd⟩ := hO.nk
        refine ⟨_, rfl, .bl true, rfl, true, rfl, iteT ?_⟩
        refine ⟨_, rfl, ks, vs, rfl, lc_each (fun k => .tup [k, lookO nks vs k]) (Nat.le_trans hO.le (by decide)) (fun k hm => ?_) ?_⟩
        · obtain ⟨i, hi⟩ := List.mem_iff_getElem?.mp hm
          obtain ⟨c, r, h1, h2, h3, h4⟩ := look_at hk hnd hO.eq hi
          exact ⟨_, rfl, fun n Qt hq => ⟨_, rfl, _, rfl, ks, vs, rfl, _, rfl, i, c, nks, r, h1, hk, h2, h3, by show 2 ≤ most; decide, by rw [← h4]; exact hq⟩⟩
        · rw [look_pairs hk hnd hO.eq]
          exact ⟨_, rfl, _, rfl, _, eqS_same _, true, rfl, iteT ⟨_, rfl, _, rfl, ps, fin _ rfl, by omega, fun qs' due' => ⟨_, eqq qs' due', q⟩⟩⟩
      | other d h1 h2 h3 =>
        have hr := hN.ro
        cases d with
        | tup l => exact absurd rfl h2
        | odd _ _ _ => exact absurd rfl h3
        | _ => cases hr
    · refine ⟨_, rfl, d, rfl, hV, fun ps hN' => absurd hN'.tb (hN ps hN'.ro), fun _ => ⟨false, rfl, iteT ?_⟩⟩
      exact ⟨_, rfl, _, eqS_same _, true, rfl, iteT ⟨_, rfl, _, reprD_of hsm, _, rfl, _, reprD_of hsm, _, eqS_same _, q⟩⟩
end
end K0
set_option Elab.async false
set_option linter.all false
set_option maxRecDepth 100000
set_option maxHeartbeats 1000000
set_option autoImplicit false
namespace K0
open PySem L2 DL MK
section
variable {P : Program} {w : World} {K : PySem.W.Frag} {mg : Str → Option Value} {base : Heap} {C B G J M : Addr} {f : Addr}
abbrev s__law_fits : Stmt := top 31
abbrev N__law_fits : List Str := ["_law_mark", "_law_due_here", "_law_things", "_law_known", "_law_told", "_law_thing", "_law_number", "_law_pair"]
theorem sc__law_fits : FnScope N__law_fits ["_law_mark", "_law_due_here", "_law_things"] (defScope s__law_fits) := ⟨rfl, rfl, rfl, by decide +kernel, rfl, by decide +kernel, by decide +kernel⟩
abbrev s__law_fine : Stmt := top 32
abbrev N__law_fine : List Str := ["_law_pot_here", "_law_names_here", "_law_pairs_here", "_law_due_here", "_law_table", "_law_things", "_law_rows", "_law_first", "_law_second", "_law_third", "_law_more", "_law_name", "_law_other", "_law_thing"]
theorem sc__law_fine : FnScope N__law_fine ["_law_pot_here"] (defScope s__law_fine) := ⟨rfl, rfl, rfl, by decide +kernel, rfl, by decide +kernel, by decide +kernel⟩
abbrev s__law_spoilt_numbers : Stmt := top 34
abbrev N__law_spoilt_numbers : List Str := ["_law_pot_here", "_law_names_here", "_law_pairs_here", "_law_way", "_law_at", "_law_name", "_law_number", "_law_word", "_law_told", "_law_other", "_law_put", "_law_rows"]
theorem sc__law_spoilt_numbers : FnScope N__law_spoilt_numbers ["_law_pot_here"] (defScope s__law_spoilt_numbers) := ⟨rfl, rfl, rfl, by decide +kernel, rfl, by decide +kernel, by decide +kernel⟩
def F_fits (C : Addr) : DF := fun ds n Q _ => ∃ (qs : Row) (ts : List D), ds = [markD C qs, .tup (rowD qs), .lst ts] ∧ Mk qs ∧ (∀ t ∈ ts, Thing C t) ∧ Q (.bl true) n
theorem ok_fits (h : DefAt K mg "_law_fits" s__law_fits ["_law_mark", "_law_due_here", "_law_things"]) (T : Tx K mg C) (h_get : Ow1 P w K mg base C "__getitem__" 2 (F_getG C)) (h_has : Ow1 P w K mg base C "__contains__" 2 (F_has C)) (h_len : Ow1 P w K mg base C "__len__" 1 (F_lenM C)) (h_bool : Ow1 P w K mg base C "__bool__" 1 (F_boolM C)) (h__law_is_count : Fn1 P w K mg base K "_law_is_count" 1 (F_countG C)) : Fn1 P w K mg base K "_law_fits" 4 (F_fits C) := by
  refine h.fn sc__law_fits T.bt (k := 3) (fun f cdv A outer s H E en => (dss_cons (par en 3 4 (da_cons (mkDict en (da_cons (eList en (da_cons (v en 1) da_nil)) da_nil)) (da_cons (fld en T.cl T.nN (v en 0)) da_nil)))
    (dss_cons (ds_if (DW.dt (dw_or (dt_not (dt_val (eIsi en T.isi (da_cons (v en 4) (da_cons (ty_tuple en) da_nil))))) (dw_or (tNe en (v en 4) (v en 1)) (dw_or1 (dt_not (dt_val (eAll en (da_cons (lc en (defScope s__law_fits) [("_law_pair", 7)] (inT en (v en 4)) (nm en.blk 7) dts_nil (eIsi en.blk T.isi (da_cons (v en.blk 7) (da_cons (ty_tuple en.blk) da_nil)))) da_nil))))))))
    (dss_one (ds_ret de_bl))
    dss_nil)
    (dss_cons (ds_if (dt_not (dt_val (eAll en (da_cons (lc en (defScope s__law_fits) [("_law_pair", 7)] (inT en (v en 4)) (nm en.blk 7) dts_nil (call en.blk h__law_is_count (da_cons (eIx en.blk (v en.blk 7) de_int) da_nil))) da_nil))))
    (dss_one (ds_ret de_bl))
    dss_nil)
    (dss_cons (forIn en (inL en (v en 2)) (nm en 5)
    (dss_cons (set en 6 (de_if (dt_val (eIsi en T.isi (da_cons (v en 5) (da_cons (ty_str en) da_nil)))) (get2 en (v en 3) (v en 5) de_int) de_int))
    (dss_one (ds_if (DW.dt (dw_or (dt_not (dt_val (call en h__law_is_count (da_cons (ownIx en h_get (v en 0) (v en 5)) da_nil)))) (dw_or (tNe en (ownIx en h_get (v en 0) (v en 5)) (v en 6)) (dw_or1 (tNe en (ownIn en h_has (v en 5) (v en 0)) (eGt (v en 6) de_int))))))
    (dss_one (ds_ret de_bl))
    dss_nil))))
    (dss_one (ds_ret (de_and (eEq en (lenOwn en h_len (da_cons (v en 0) da_nil)) (eLen en (da_cons (v en 1) da_nil))) (de_one (eEq en (boolOwn en h_bool (da_cons (v en 0) da_nil)) (eNe en (v en 1) (de_tup da_nil)))))))))))) ?_ ?_
  · rintro ds n Q x ⟨qs, ts, rfl, _⟩; rfl
  · rintro ds n Q x ⟨qs, ts, rfl, hM, hT, q⟩
    have em : mergeD [] (dctR qs) = dctR qs := merge_row qs [] hM.wf.nd
    have hlr : (rowD qs).length ≤ most := by rw [row_len]; exact Nat.le_trans (Nat.le_of_lt hM.le) (by decide)
    refine ⟨_, rfl, _, rfl, dctR qs, by rw [items_eq], _, rfl, _, _, rfl, rfl, _, _, rfl, ?_⟩
    rw [em]
    refine ⟨_, rfl, .bl true, rfl, true, rfl, iteF ⟨_, rfl, _, rfl, _, ne_rows hM.wf, false, rfl, iteF ⟨_, rfl, rowD qs, rfl, lc_each (fun _ => .bl true) hlr (fun d hd => ?_) ⟨_, all_eq (rowD qs) fun _ => true, true, by simp, iteF ?_⟩⟩⟩⟩
    · obtain ⟨z, hz, rfl⟩ := List.mem_map.mp hd
      exact ⟨_, rfl, fun n Qt hq => ⟨_, rfl, _, rfl, hq⟩⟩
    refine ⟨_, rfl, rowD qs, rfl, lc_each (fun _ => .bl true) hlr (fun d hd => ?_) ⟨_, all_eq (rowD qs) fun _ => true, true, by simp, iteF ?_⟩⟩
    · obtain ⟨z, hz, rfl⟩ := List.mem_map.mp hd
      refine ⟨_, rfl, fun n Qt hq => ⟨_, rfl, .int z.2, rfl, .int z.2, rfl, rfl, ?_⟩⟩
      show Qt (.bl (decide (0 ≤ z.2))) n
      rw [decide_eq_true (Int.le_of_lt (hM.wf.ps z hz))]
      exact hq
    refine ⟨_, rfl, ts, rfl, fun i ρ n' => n' = n ∧ ∃ y yz, ρ = [some (.val (markD C qs)), some (.val (.tup (rowD qs))), some (.val (.lst ts)), some (.val (.dct (dctR qs))), some (.val (.tup (rowD qs))), y, yz, none], ⟨rfl, none, none, rfl⟩, ?_, ?_⟩
    · rintro i ρ n' d hd ⟨rfl, y, z, rfl⟩
      have ht := hT d (List.mem_of_getElem? hd)
      obtain ⟨a, hta, hoa⟩ := ht.tn
      have hv : 0 ≤ valT qs d := by
        cases d with
        | str s => exact hM.wf.tbl.nonneg s
        | _ => exact Int.le_refl _
      have after : ∀ n', dIfS (dOr (dNot (dTest (dCall (F_countG C) [] (dCons (dOwnIx C (F_getG C) (dVar 0) (dVar 5)) dNil)))) (dOr (dTest (dOp neD (dOwnIx C (F_getG C) (dVar 0) (dVar 5)) (dVar 6))) (dTest (dOp neD (dOwnIn C (F_has C) (dVar 5) (dVar 0)) (dOp gtD (dVar 6) (dC (.int 0))))))) (dRet (dC (.bl false))) dNext { nx := fun ρ n'' => n'' = n' ∧ ∃ y yz, ρ = [some (.val (markD C qs)), some (.val (.tup (rowD qs))), some (.val (.lst ts)), some (.val (.dct (dctR qs))), some (.val (.tup (rowD qs))), y, yz, none], rt := Q, bk := fun _ _ => False, ct := fun _ _ => False } [some (.val (markD C qs)), some (.val (.tup (rowD qs))), some (.val (.lst ts)), some (.val (.dct (dctR qs))), some (.val (.tup (rowD qs))), some (.val d), some (.val (.int (valT qs d))), none] n' x0 := by
        intro n'
        refine ⟨_, rfl, _, rfl, ⟨_, rfl⟩, qs, d, rfl, hM, ht, .int (valT qs d), rfl, rfl, true, ?_, iteF ?_⟩
        · show D.bl (decide (0 ≤ valT qs d)) = _
          rw [decide_eq_true hv]
        refine ⟨_, rfl, _, rfl, ⟨_, rfl⟩, qs, d, rfl, hM, ht, _, rfl, _, ne_pl (k := 0) (c := true) rfl rfl (by simp), false, rfl, iteF ?_⟩
        refine ⟨_, rfl, _, rfl, ⟨_, rfl⟩, qs, d, rfl, hM, ht, _, rfl, _, rfl, _, rfl, .bl false, ?_, false, rfl, iteF ⟨rfl, _, _, rfl⟩⟩
        show neD (.bl (decide (0 < valT qs d))) (.bl (decide (0 < valT qs d))) = _
        cases decide (0 < valT qs d) <;> rfl
      refine ⟨_, rfl, ?_⟩
      refine ⟨d, rfl, _, isi_eq hta hoa (b := .str) rfl rfl, _, rfl, ?_⟩
      by_cases hs : ∃ s, d = .str s
      · obtain ⟨s, rfl⟩ := hs
        cases hta
        refine iteT ⟨_, rfl, dctR qs, rfl, _, rfl, Sum.inr s, rfl, _, rfl, ?_⟩
        rw [look_row]
        exact after _
      · have e1 : isiT a .str = false := by
          cases d with
          | str s => exact absurd ⟨s, rfl⟩ hs
          | _ => cases hta <;> rfl
        have e2 : valT qs d = 0 := by
          cases d with
          | str s => exact absurd ⟨s, rfl⟩ hs
          | _ => rfl
        have := after n'
        rw [e2] at this
        rw [e1]
        exact iteF ⟨_, rfl, this⟩
    · rintro ρ n' ⟨rfl, y, z, rfl⟩
      refine ⟨_, rfl, _, rfl, qs, rfl, hM, _, rfl, ⟨by omega, by have := hM.le; omega⟩, _, rfl, _, rfl, _, eq_int _ _, true, by rw [row_len]; simp, iteT ?_⟩
      refine ⟨_, rfl, _, rfl, qs, rfl, hM, _, rfl, _, rfl, by show 0 ≤ most; decide, _, ne_pl (k := 2) (c := qs.isEmpty) (row_pl hM.wf.nm) (show plB 2 (.tup []) = true from rfl) ?_, _, eq_bl _ _, ?_⟩
      · cases qs with
        | nil => simp [rowD]
        | cons z l => simp [rowD]
      · simpa using q
end
end K0
set_option Elab.async false
set_option linter.all false
set_option maxRecDepth 100000
set_option maxHeartbeats 1000000
set_option autoImplicit false
/-! k00, plain: rows turned, rows of nothing, one number more. -/
namespace MK
open PySem L2 DL
theorem nd_rows : ∀ l : Row, ndL (rowD l) = true
  | [] => rfl
  | z :: l => by
    show ((pairD z).nd && ndL (rowD l)) = true
    rw [nd_rows l]
    rfl
theorem nd_mark (C : Addr) (l : Row) : (markD C l).nd = true := by
  show (ndL (rowD l) && true) = true
  rw [nd_rows]
  rfl
theorem inV_strs (s : Str) : ∀ l : List Str, inV (.str s) ((l.map D.str).map flatOf) = decide (s ∈ l)
  | [] => rfl
  | a :: l => by
    show (eqV (.str a) (.str s) || inV (.str s) ((l.map D.str).map flatOf)) = _
    rw [inV_strs s l]
    have : eqV (.str a) (.str s) = decide (s = a) := by
      by_cases e : s = a
      · subst e; simp [eqV]
      · have : ¬ a = s := fun z => e z.symm
        simp [eqV, e, this]
    rw [this]
    simp [List.mem_cons, Bool.decide_or]
theorem notin_strs (s : Str) (ys : List Str) : notInD (.str s) (.lst (ys.map .str)) = some (.bl (!decide (s ∈ ys))) := by
  show inSeqD true (.str s) (ys.map .str) = _
  unfold inSeqD
  have h1 : (flatD (.str s) && (ys.map D.str).all flatD) = true := by
    rw [List.all_map]
    show (true && ys.all fun _ => true) = true
    simp
  rw [if_pos h1]
  show some (D.bl (!inV (.str s) ((ys.map D.str).map flatOf))) = _
  rw [inV_strs]
theorem perm_rows {l : List D} {r : Row} (h : l.Perm (rowD r)) : ∃ r' : Row, l = rowD r' ∧ r'.Perm r := DSet.perm_lift pairD l r h
/-- rows with nothing in them, of further names -/
def exR (ys : List Str) : Row := ([("yy", 0), ("zzz", 0)] : Row).filter fun z => !decide (z.1 ∈ ys)
theorem exR_zero {ys : List Str} {z : Str × Int} (h : z ∈ exR ys) : z.2 = 0 ∧ z.1 ∉ ys ∧ NameOk z.1 := by
  obtain ⟨h1, h2⟩ := List.mem_filter.mp h
  have h2 : z.1 ∉ ys := by simpa using h2
  simp only [List.mem_cons, List.not_mem_nil, or_false] at h1
  rcases h1 with rfl | rfl
  · exact ⟨rfl, h2, nameB_iff.mp (by decide +kernel)⟩
  · exact ⟨rfl, h2, nameB_iff.mp (by decide +kernel)⟩
theorem exR_nd (ys : List Str) : Nds (exR ys) := by
  refine List.Nodup.sublist ((List.filter_sublist (l := ([("yy", 0), ("zzz", 0)] : Row)) (p := fun z => !decide (z.1 ∈ ys))).map (·.1)) ?_
  decide +kernel
theorem exR_ne {ys : List Str} (h : ¬ (("yy" : Str) ∈ ys ∧ ("zzz" : Str) ∈ ys)) : exR ys ≠ [] := fun e => by
  have hf := List.filter_eq_nil_iff.mp e
  refine h ⟨?_, ?_⟩
  · have := hf ("yy", 0) (by simp); simpa using this
  · have := hf ("zzz", 0) (by simp); simpa using this
theorem exR_len (ys : List Str) : (exR ys).length ≤ 2 := List.length_filter_le _ _
theorem more_tbl {ps : Row} {ys : List Str} (h : Tbl ps) (s : ∀ z ∈ ps, z.1 ∈ ys) : Tbl (ps ++ exR ys) := by
  refine ⟨?_, fun z m => ?_, fun z m => ?_⟩
  · unfold Nds
    rw [List.map_append]
    refine List.nodup_append.mpr ⟨h.nd, exR_nd ys, fun a ha b hb e => ?_⟩
    obtain ⟨z, hz, rfl⟩ := List.mem_map.mp ha
    obtain ⟨y, hy, rfl⟩ := List.mem_map.mp hb
    exact (exR_zero hy).2.1 (by rw [← e]; exact s z hz)
  · rcases List.mem_append.mp m with m | m
    · exact h.nn z m
    · rw [(exR_zero m).1]; exact Int.le_refl _
  · rcases List.mem_append.mp m with m | m
    · exact h.nm z m
    · exact (exR_zero m).2.2
theorem Tbl.perm {r r' : Row} (h : Tbl r) (p : r'.Perm r) : Tbl r' := ⟨(List.Perm.map (fun z : Str × Int => z.1) p).nodup_iff.mpr h.nd, fun z m => h.nn z (p.subset m), fun z m => h.nm z (p.subset m)⟩
theorem Due.less {ps r' q : Row} {ys : List Str} (p : r'.Perm (ps ++ exR ys)) (d : Due r' q) : Due ps q := by
  refine ⟨d.so, fun z => ?_⟩
  rw [d.me, p.mem_iff, List.mem_append]
  constructor
  · rintro ⟨h1 | h1, h2⟩
    · exact ⟨h1, h2⟩
    · rw [(exR_zero h1).1] at h2; exact absurd h2 (Int.lt_irrefl _)
  · exact fun h => ⟨.inl h.1, h.2⟩
/-- one number set -/
def setR (qs : Row) (s : Str) (i : Int) : Row := if s ∈ qs.map (·.1) then qs.map (fun z => if z.1 = s then (z.1, i) else z) else qs ++ [(s, i)]
theorem put_setR (qs : Row) (s : Str) (i : Int) : putD (dctR qs) (Sum.inr s) (.int i) = dctR (setR qs s i) := by
  by_cases h : s ∈ qs.map (·.1)
  · unfold putD setR
    have e1 : ((dctR qs).any fun kv => decide (kv.1 = (Sum.inr s : Key))) = true := by
      rw [List.any_eq_true]
      obtain ⟨z, hz, rfl⟩ := List.mem_map.mp h
      exact ⟨(Sum.inr z.1, .int z.2), List.mem_map.mpr ⟨z, hz, rfl⟩, by simp⟩
    rw [e1, if_pos rfl, if_pos h]
    unfold dctR
    rw [List.map_map, List.map_map]
    refine List.map_congr_left fun z hz => ?_
    show (if (Sum.inr z.1 : Key) = Sum.inr s then _ else _) = _
    by_cases e : z.1 = s
    · subst e; simp
    · have : ¬ (Sum.inr z.1 : Key) = Sum.inr s := fun q => e (Sum.inr.inj q)
      rw [if_neg this]
      simp [e]
  · rw [put_row h]
    unfold setR
    rw [if_neg h]
theorem setR_names (qs : Row) (s : Str) (i : Int) : (qs.map (fun z => if z.1 = s then (z.1, i) else z)).map (·.1) = qs.map (·.1) := by
  rw [List.map_map]
  refine List.map_congr_left fun z _ => ?_
  show (if z.1 = s then (z.1, i) else z).1 = z.1
  split <;> rfl
theorem setR_tbl {qs : Row} {s : Str} {i : Int} (h : Tbl qs) (hs : NameOk s) (hi : 0 ≤ i) : Tbl (setR qs s i) := by
  unfold setR
  split
  · refine ⟨by unfold Nds; rw [setR_names]; exact h.nd, fun z m => ?_, fun z m => ?_⟩
    · obtain ⟨y, hy, rfl⟩ := List.mem_map.mp m
      split
      · exact hi
      · exact h.nn y hy
    · obtain ⟨y, hy, rfl⟩ := List.mem_map.mp m
      split
      · exact h.nm y hy
      · exact h.nm y hy
  · rename_i hn
    refine ⟨?_, fun z m => ?_, fun z m => ?_⟩
    · unfold Nds
      rw [List.map_append]
      exact List.nodup_append.mpr ⟨h.nd, List.nodup_cons.mpr ⟨List.not_mem_nil, List.nodup_nil⟩, fun a ha b hb e => hn (by have e2 : a = s := e.trans (List.mem_singleton.mp hb); rw [← e2]; exact ha)⟩
    · rcases List.mem_append.mp m with m | m
      · exact h.nn z m
      · rw [List.mem_singleton.mp m]; exact hi
    · rcases List.mem_append.mp m with m | m
      · exact h.nm z m
      · rw [List.mem_singleton.mp m]; exact hs
theorem setR_mem (qs : Row) (s : Str) (i : Int) : (s, i) ∈ setR qs s i := by
  unfold setR
  split
  · rename_i h
    obtain ⟨z, hz, e⟩ := List.mem_map.mp h
    exact List.mem_map.mpr ⟨z, hz, by rw [if_pos e]; exact Prod.ext e rfl⟩
  · exact List.mem_append.mpr (.inr (List.mem_singleton.mpr rfl))
theorem setR_len (qs : Row) (s : Str) (i : Int) : (setR qs s i).length ≤ qs.length + 1 := by
  unfold setR
  split
  · rw [List.length_map]; omega
  · rw [List.length_append]; exact Nat.le_refl _
theorem setR_ne {qs q4 : Row} {s : Str} (h : WF qs) (hs : NameOk s) (d : Due (setR qs s (val qs s + 1)) q4) : qs ≠ q4 := fun e => by
  have h0 := h.tbl.nonneg s
  have t := setR_tbl (i := val qs s + 1) h.tbl hs (by omega)
  have h1 := d.val t s
  rw [val_mem t.nd (setR_mem qs s (val qs s + 1)), ← e] at h1
  have h1 : val qs s = val qs s + 1 := h1
  omega
end MK
set_option Elab.async false
set_option linter.all false
set_option maxRecDepth 100000
set_option maxHeartbeats 1000000
set_option autoImplicit false
namespace K0
open PySem L2 DL MK
section
variable {P : Program} {w : World} {K : PySem.W.Frag} {mg : Str → Option Value} {base : Heap} {C B G J M : Addr} {f : Addr}
theorem slots_to {f : DSt → Nat → Prop} {ρ l : DSt} {n : Nat} (h : ρ = l) (q : f l n) : f ρ n := by rw [h]; exact q
def F_fine : DF := fun ds n Q _ => ds = [.pot] ∧ 60 ≤ n ∧ ∀ n', n ≤ n' + 60 → Q (.bl true) n'
theorem hlenK {C : Addr} : ∀ ds n Q x, F_Mark C ds n Q x → ds.length = (["numbers"] : List Str).length := by
  rintro ds n Q x ⟨ps, _, _, rfl | rfl, _⟩ <;> rfl
theorem ok_fine (h : DefAt K mg "_law_fine" s__law_fine ["_law_pot_here"]) (T : Tx K mg C) (S : Sb K C) (h__law_take : Fn1 P w K mg base K "_law_take" 1 F_take) (h__law_of : Fn1 P w K mg base K "_law_of" 2 F_of) (h__law_turned : Fn1 P w K mg base K "_law_turned" 2 F_turned) (h__law_names : Fn1 P w K mg base K "_law_names" 3 F_namesB) (h__law_pairs : Fn1 P w K mg base K "_law_pairs" 4 F_pairsB) (h__law_due : Fn1 P w K mg base K "_law_due" 1 F_due) (h__law_odd_thing : Fn1 P w K mg base K "_law_odd_thing" 3 (F_oddT C)) (h_Mark : Mk1 P w K mg base "Mark" C 4 (F_Mark C)) (h_Mark0 : Mk0 P w K mg base "Mark" C 4 (F_Mark C) [.tup []]) (h_MarkK : MkK P w K mg base "Mark" C 4 (F_Mark C) ["numbers"]) (h__law_fits : Fn1 P w K mg base K "_law_fits" 4 (F_fits C)) (h_eq : Ow1 P w K mg base C "__eq__" 1 (F_eqA C)) (h_eqM : Ow1 P w K mg base C "__eq__" 1 (F_eq C)) (h_ne : OwNe P w K mg base C 1 (F_eq C)) : Fn1 P w K mg base K "_law_fine" 6 F_fine := by
  refine h.fn sc__law_fine T.bt (k := 5) (fun f cdv A outer s H E en => (dss_cons (set en 1 (call en h__law_names (da_cons (v en 0) (da_cons (eAdd en de_int (call en h__law_take (da_cons (v en 0) (da_cons de_int da_nil)))) da_nil))))
    (dss_cons (set en 2 (call en h__law_pairs (da_cons (v en 0) (da_cons (v en 1) da_nil))))
    (dss_cons (parK en 3 4 (call en h__law_due (da_cons (v en 2) da_nil)) (da_cons (v en 2) da_nil))
    (dss_cons (set en 5 (eAdd en (v en 1) (de_lst (da_cons (call en h__law_odd_thing (da_cons (v en 0) da_nil)) (da_cons (call en h__law_odd_thing (da_cons (v en 0) da_nil)) (da_cons de_str (da_cons (make0 en h_Mark0) da_nil)))))))
    (dss_cons (set en 6 (eAdd en (v en 2) (lc en (defScope s__law_fine) [("_law_name", 11)] (inL en (de_lst (da_cons de_str (da_cons de_str da_nil)))) (nm en.blk 11) (dts_one (tNotIn en.blk (v en.blk 11) (v en.blk 1))) (de_tup (da_cons (v en.blk 11) (da_cons de_int da_nil))))))
    (dss_cons (ds_asg (de_tup (da_cons (make en h_Mark (da_cons (eTuple en (da_cons (v en 2) da_nil)) da_nil)) (da_cons (frzE 4 (makeK en h_MarkK (dk_cons (v en 4) dk_nil) (hlen := hlenK))) da_nil))) (nms en 2 (dgs_cons (nm en 7) (dgs_cons (nm en 8) dgs_nil))))
    (dss_cons (set en 9 (make en h_Mark (da_cons (eTuple en (da_cons (call en h__law_turned (da_cons (v en 0) (da_cons (v en 6) da_nil))) da_nil)) da_nil)))
    (dss_cons (put en 4 de_str de_int)
    (dss_cons (ds_if (DW.dt (dw_or (dt_not (dt_val (call en h__law_fits (da_cons (v en 7) (da_cons (v en 3) (da_cons (v en 5) da_nil)))))) (dw_or (dt_not (dt_val (call en h__law_fits (da_cons (v en 8) (da_cons (v en 3) (da_cons (v en 5) da_nil)))))) (dw_or1 (dt_not (dt_val (call en h__law_fits (da_cons (v en 9) (da_cons (v en 3) (da_cons (v en 5) da_nil))))))))))
    (dss_one (ds_ret de_bl))
    dss_nil)
    (dss_cons (ds_if (dt_not (dt_val (call en h__law_fits (da_cons (make0 en h_Mark0) (da_cons (de_tup da_nil) (da_cons (v en 5) da_nil))))))
    (dss_one (ds_ret de_bl))
    dss_nil)
    (dss_cons (parL en 10 11 (da_cons (eList en (da_cons (v en 3) da_nil)) da_nil) (call en h__law_of (da_cons (v en 0) (da_cons (v en 1) da_nil))))
    (dss_cons (put en 10 (v en 11) (eAdd en (frzE 10 (get2 en (v en 10) (v en 11) de_int)) de_int))
    (dss_cons (set en 12 (frzE 10 (make en h_Mark (da_cons (v en 10) da_nil))))
    (dss_cons (ds_if (DW.dt (dw_or (dt_not (ownCmpT en h_eqM (v en 7) (v en 8))) (dw_or (ownNeT en h_ne (v en 7) (v en 9)) (dw_or (ownCmpT en h_eqM (v en 7) (v en 12)) (dw_or1 (dt_not (ownNeT en h_ne (v en 7) (v en 12))))))))
    (dss_one (ds_ret de_bl))
    dss_nil)
    (dss_one (ds_ret (de_not (eAny en (da_cons (lc en (defScope s__law_fine) [("_law_thing", 13)] (inL en (de_lst (da_cons (v en 3) (da_cons (mkDict en (da_cons (eList en (da_cons (v en 3) da_nil)) da_nil)) (da_cons de_non (da_cons de_int (da_cons de_bl (da_cons de_bl (da_cons (call en h__law_odd_thing (da_cons (v en 0) da_nil)) da_nil))))))))) (nm en.blk 13) dts_nil (ownEqA en.blk T.isi S h_eq (v en.blk 7) (v en.blk 13))) da_nil)))))))))))))))))))) ?_ ?_
  · rintro ds n Q x ⟨rfl, _⟩; rfl
  · rintro ds n Q x ⟨rfl, hn, q⟩
    refine ⟨.pot, rfl, .pot, rfl, 6, rfl, by decide, by decide, by omega, fun r h0 h1 => ⟨_, rfl, 1 + r, rfl, by omega, by omega, by omega, fun ys n2 hy hnb hn2 => ⟨_, rfl, ?_⟩⟩⟩
    refine ⟨.pot, rfl, _, rfl, ys, rfl, hy, by omega, fun ps n3 tp sp bp lp hn3 => ⟨_, rfl, ?_⟩⟩
    refine ⟨_, rfl, ps, rfl, by omega, fun qs due => ⟨_, rfl, dctR ps, by rw [items_eq], ?_⟩⟩
    have em : mergeD [] (dctR ps) = dctR ps := merge_row ps [] tp.nd
    rw [em]
    refine slots_to (l := [some (.val .pot), some (.val (.lst (ys.map .str))), some (.val (.lst (rowD ps))), some (.val (.tup (rowD qs))), some (.ownD (dctR ps)), none, none, none, none, none, none, none, none, none]) rfl ?_
    have mkq : Mk qs := due.mark tp (by omega)
    have hle := hy.le
    have hyp : 0 < ys.length := List.length_pos_iff.mpr hy.ne
    have mk0 : Mk [] := ⟨⟨.nil, List.nodup_nil, fun z h => (nomatch h), fun z h => (nomatch h)⟩, by decide⟩
    have tb0 : Tbl [] := mk0.wf.tbl
    have due0 : ∀ q0, Due [] q0 → q0 = [] := fun q0 d => by
      cases q0 with
      | nil => rfl
      | cons z l => exact absurd ((d.me z).mp List.mem_cons_self).1 List.not_mem_nil
    -- things
    refine ⟨_, rfl, .pot, rfl, rfl, by omega, fun o1 ho1 => ⟨.pot, rfl, rfl, by omega, fun o2 ho2 => ⟨[], tb0, by decide, .inl rfl, fun q0 d0 => ⟨by show 4 ≤ most; decide, .lst (ys.map .str ++ [o1, o2, .str "zz", markD C q0]), ?_, _, rfl, ?_⟩⟩⟩⟩
    · show (if _ then _ else _) = _
      rw [if_pos (by rw [List.length_map]; show ys.length + 4 ≤ _; exact Nat.le_trans (show ys.length + 4 ≤ 10 by omega) (by decide))]
    obtain rfl := due0 q0 d0
    generalize hths : (ys.map D.str ++ [o1, o2, .str "zz", markD C []] : List D) = ths
    have hT : ∀ t ∈ ths, Thing C t := fun t m => by
      rw [← hths] at m
      rcases List.mem_append.mp m with m | m
      · obtain ⟨y, hy1, rfl⟩ := List.mem_map.mp m
        exact .odd _ (hy.ok y hy1).oddT
      · simp only [List.mem_cons, List.not_mem_nil, or_false] at m
        rcases m with rfl | rfl | rfl | rfl
        · exact .odd _ ho1
        · exact .odd _ ho2
        · exact .odd _ (nameB_iff.mp (by decide +kernel) : NameOk "zz").oddT
        · exact .mark
    -- rows
    refine ⟨_, rfl, by show 2 ≤ most; decide, _, rfl, lc_some (fun d => match d with | .str s => if s ∈ ys then none else some (pairD (s, 0)) | _ => none) (by show 2 ≤ most; decide) (fun d hd => ?_) ?_⟩
    · have : ∃ s : Str, d = .str s := by
        simp only [List.mem_cons, List.not_mem_nil, or_false] at hd
        rcases hd with rfl | rfl <;> exact ⟨_, rfl⟩
      obtain ⟨s, rfl⟩ := this
      refine ⟨_, rfl, fun n Qt Qf ht hf => ⟨_, rfl, _, rfl, _, notin_strs s ys, _, rfl, ite2 (fun e => ?_) (fun e => ?_)⟩⟩
      · have e : s ∉ ys := by simpa using e
        exact ⟨_, rfl, by show 2 ≤ most; decide, ht _ (if_neg e)⟩
      · have e : s ∈ ys := by simpa using e
        exact hf (if_pos e)
    have erow : ([D.str "yy", D.str "zzz"] : List D).filterMap (fun d => match d with | .str s => if s ∈ ys then none else some (pairD (s, 0)) | _ => none) = rowD (exR ys) := by
      unfold exR rowD
      by_cases e1 : ("yy" : Str) ∈ ys <;> by_cases e2 : ("zzz" : Str) ∈ ys <;> simp [e1, e2]
    have hex := exR_len ys
    refine ⟨.lst (rowD (ps ++ exR ys)), ?_, _, rfl, ?_⟩
    · rw [show (([D.str "yy", D.str "zzz"] : List D).filterMap _) = _ from erow]
      show (if _ then _ else _) = _
      rw [if_pos (by rw [row_len, row_len]; exact Nat.le_trans (show ps.length + (exR ys).length ≤ 10 by omega) (by decide))]
      unfold rowD
      rw [List.map_append]
    refine slots_to (l := [some (.val .pot), some (.val (.lst (ys.map .str))), some (.val (.lst (rowD ps))), some (.val (.tup (rowD qs))), some (.ownD (dctR ps)), some (.val (.lst ths)), some (.val (.lst (rowD (ps ++ exR ys)))), none, none, none, none, none, none, none]) rfl ?_
    have tr := more_tbl tp sp
    -- three marks
    refine ⟨_, rfl, _, rfl, ps, tp, by omega, .inl rfl, fun q1 d1 => ⟨dctR ps, rfl, _, rfl, ps, tp, by omega, .inr rfl, fun q2 d2 => ⟨nd_mark _ _, by show 2 ≤ most; decide, _, rfl, ?_⟩⟩⟩
    obtain rfl := d1.eq due
    obtain rfl := d2.eq due
    refine ⟨.pot, rfl, _, rfl, rowD (ps ++ exR ys), rfl, fun e => ?_, by rw [row_len, List.length_append]; omega, by omega, fun l' pm => ⟨_, rfl, ?_⟩⟩
    · have h1 := congrArg List.length e
      rw [row_len, List.length_append] at h1
      have h2 : 0 < (exR ys).length := List.length_pos_iff.mpr (exR_ne hnb)
      have h3 : ([] : List D).length = 0 := rfl
      omega
    obtain ⟨r', rfl, pm'⟩ := perm_rows pm
    refine ⟨r', tr.perm pm', by rw [pm'.length_eq, List.length_append]; omega, .inl rfl, fun q3 d3 => ⟨_, rfl, ?_⟩⟩
    obtain rfl := (d3.less pm').eq due
    refine ⟨dctR ps, rfl, by rw [List.length_map]; exact Nat.lt_of_le_of_lt lp (by decide), Sum.inr "later", rfl, ?_⟩
    generalize putD (dctR ps) (Sum.inr "later") (.int 5) = tb
    refine slots_to (l := [some (.val .pot), some (.val (.lst (ys.map .str))), some (.val (.lst (rowD ps))), some (.val (.tup (rowD q3))), some (.ownD tb), some (.val (.lst ths)), some (.val (.lst (rowD (ps ++ exR ys)))), some (.val (markD C q3)), some (.val (markD C q3)), some (.val (markD C q3)), none, none, none, none]) rfl ?_
    refine ⟨_, rfl, _, rfl, _, rfl, q3, ths, rfl, mkq, hT, true, rfl, iteF ⟨_, rfl, _, rfl, _, rfl, q3, ths, rfl, mkq, hT, true, rfl, iteF ⟨_, rfl, _, rfl, _, rfl, q3, ths, rfl, mkq, hT, true, rfl, iteF ?_⟩⟩⟩
    refine ⟨[], tb0, by decide, .inl rfl, fun q0 d0 => ⟨by show 0 ≤ most; decide, _, rfl, [], ths, by rw [due0 q0 d0]; rfl, mk0, hT, true, rfl, iteF ?_⟩⟩
    refine ⟨_, rfl, _, rfl, dctR q3, by rw [items_eq], .pot, rfl, _, rfl, .lst (ys.map .str), ys.length, rfl, by show some (D.int (ys.map D.str).length) = _; rw [List.length_map], by omega, by omega, by omega, fun r h2 h3 => ?_⟩
    obtain ⟨d, hd, m⟩ := pick (l := ys.map D.str) h2 (by rw [List.length_map]; exact h3)
    obtain ⟨s, hs, rfl⟩ := List.mem_map.mp m
    have em2 : mergeD [] (dctR q3) = dctR q3 := merge_row q3 [] mkq.wf.nd
    refine ⟨_, hd, rfl, ?_⟩
    rw [em2]
    have hlq : q3.length ≤ 6 := Nat.le_trans due.len lp
    have hv := mkq.wf.tbl.nonneg s
    refine ⟨dctR q3, rfl, _, rfl, dctR q3, rfl, _, rfl, Sum.inr s, rfl, by rw [look_row]; rfl, _, by rw [look_row]; rfl, dctR q3, rfl, by rw [List.length_map]; exact Nat.lt_of_le_of_lt hlq (by decide), _, rfl, Sum.inr s, rfl, ?_⟩
    rw [put_setR]
    have tset := setR_tbl (i := val q3 s + 1) mkq.wf.tbl (hy.ok s hs) (by omega)
    have lset := setR_len q3 s (val q3 s + 1)
    refine ⟨dctR (setR q3 s (val q3 s + 1)), rfl, _, rfl, _, tset, by omega, .inr rfl, fun q4 d4 => ⟨nd_mark _ _, _, rfl, ?_⟩⟩
    have hne : q3 ≠ q4 := setR_ne mkq.wf (hy.ok s hs) d4
    have mk4 : Mk q4 := d4.mark tset (by omega)
    refine slots_to (l := [some (.val .pot), some (.val (.lst (ys.map .str))), some (.val (.lst (rowD ps))), some (.val (.tup (rowD q3))), some (.ownD tb), some (.val (.lst ths)), some (.val (.lst (rowD (ps ++ exR ys)))), some (.val (markD C q3)), some (.val (markD C q3)), some (.val (markD C q3)), some (.ownD (dctR (setR q3 s (val q3 s + 1)))), some (.val (.str s)), some (.val (markD C q4)), none]) rfl ?_
    refine ⟨_, rfl, _, rfl, ⟨_, rfl⟩, ⟨_, rfl⟩, q3, q3, rfl, mkq, mkq, fun b hb => ⟨b, rfl, ?_⟩⟩
    obtain rfl : b = true := hb.mpr rfl
    refine iteF ⟨_, rfl, _, rfl, ⟨_, rfl⟩, ⟨_, rfl⟩, q3, q3, rfl, mkq, mkq, fun b hb => ⟨b, rfl, ?_⟩⟩
    obtain rfl : b = true := hb.mpr rfl
    refine ⟨false, rfl, iteF ⟨_, rfl, _, rfl, ⟨_, rfl⟩, ⟨_, rfl⟩, q3, q4, rfl, mkq, mk4, fun b hb => ⟨b, rfl, ?_⟩⟩⟩
    obtain rfl : b = false := by cases b with | true => exact absurd (hb.mp rfl) hne | false => rfl
    refine iteF ⟨_, rfl, _, rfl, ⟨_, rfl⟩, ⟨_, rfl⟩, q3, q4, rfl, mkq, mk4, fun b hb => ⟨b, rfl, ?_⟩⟩
    obtain rfl : b = false := by cases b with | true => exact absurd (hb.mp rfl) hne | false => rfl
    refine ⟨true, rfl, iteF ?_⟩
    -- no other thing
    refine ⟨_, rfl, _, rfl, _, rfl, dctR q3, by rw [items_eq], .pot, rfl, rfl, by omega, fun o3 ho3 => ⟨by show 7 ≤ most; decide, _, rfl, lc_each (fun _ => .bl false) (by show 7 ≤ most; decide) (fun d hd => ⟨_, rfl, fun n Qt hq => ?_⟩) ?_⟩⟩
    · have hd2 : (∃ a, tnOf d = some a ∧ okT C a = true) ∧ ∀ l, d ≠ .ins C l := by
        simp only [List.mem_cons, List.not_mem_nil, or_false] at hd
        rcases hd with rfl | rfl | rfl | rfl | rfl | rfl | rfl
        · exact ⟨⟨.tup, rfl, rfl⟩, fun l => nofun⟩
        · exact ⟨⟨.dct, rfl, rfl⟩, fun l => nofun⟩
        · exact ⟨⟨.non, rfl, rfl⟩, fun l => nofun⟩
        · exact ⟨⟨.int, rfl, rfl⟩, fun l => nofun⟩
        · exact ⟨⟨.bool, rfl, rfl⟩, fun l => nofun⟩
        · exact ⟨⟨.bool, rfl, rfl⟩, fun l => nofun⟩
        · exact ⟨anyB_tn ho3.ar.an, fun l e => by have := ho3.ar.sm; rw [e] at this; exact this⟩
      obtain ⟨⟨a, ha, ho⟩, hni⟩ := hd2
      exact ⟨_, rfl, _, rfl, ⟨_, rfl⟩, ⟨a, ha, ho⟩, q3, d, a, rfl, mkq, ha, ho, fun _ => hq, fun l e => absurd e (hni l)⟩
    · refine ⟨.bl false, any_eq _ fun _ => false, false, rfl, q _ (by omega)⟩
end
end K0
set_option Elab.async false
set_option linter.all false
set_option maxRecDepth 100000
set_option maxHeartbeats 1000000
set_option autoImplicit false
/-! k00: spoilt numbers, plainly. -/
namespace MK
open PySem L2 DL
structure Rw (C : Addr) (e : D) : Prop where
  ok : RowOk C e
  sm : Sm 3 e
theorem rw_two {C : Addr} {a b : D} (ha : Arg C a) (hb : Arg C b) : Rw C (.tup [a, b]) :=
  ⟨⟨rfl, fun x y e => by cases e; exact ⟨ha.an, hb.an⟩⟩, ⟨by show 2 ≤ 9; decide, fun d m => sm_two ha.sm hb.sm m⟩⟩
theorem rw_any {C : Addr} {e : D} (h : anyB C e = true) (s : Sm 3 e) (hn : ∀ a b, e ≠ .tup [a, b]) : Rw C e := ⟨⟨h, fun a b e => absurd e (hn a b)⟩, s⟩
theorem vt {C : Addr} {w : World} {l : List D} (hl : l.length ≤ 9) (h : ∀ e ∈ l, Rw C e) : Vnum C w (.tup l) ∧ Sm 4 (.tup l) :=
  ⟨.tup l hl fun e m => (h e m).ok, ⟨hl, fun e m => (h e m).sm⟩⟩
/-- a key and a value -/
structure Kp (C : Addr) (q : NestedKey × D × D) : Prop where
  nk : nkD q.2.1 = some q.1
  dp : q.1.depth ≤ 8
  a : Arg C q.2.1
  b : Arg C q.2.2
def IsKp (C : Addr) (e : D) : Prop := ∃ q : NestedKey × D × D, e = .tup [q.2.1, q.2.2] ∧ Kp C q
theorem kps {C : Addr} : ∀ {l : List D}, (∀ e ∈ l, IsKp C e) → ∃ qs : List (NestedKey × D × D), l = qs.map (fun q => .tup [q.2.1, q.2.2]) ∧ ∀ q ∈ qs, Kp C q
  | [], _ => ⟨[], rfl, fun q m => nomatch m⟩
  | e :: l, h => by
    obtain ⟨qs, rfl, h1⟩ := kps fun z hz => h z (List.mem_cons_of_mem _ hz)
    obtain ⟨q, rfl, h2⟩ := h e List.mem_cons_self
    exact ⟨q :: qs, rfl, fun z hz => (List.mem_cons.mp hz).elim (fun e => by rw [e]; exact h2) (h1 z)⟩
structure T3Ok (C : Addr) (m : Nat) (t : D3) : Prop where
  nd : t.1.Nodup
  nk : nkL t.2.1 = some t.1
  eq : t.2.1.length = t.2.2.length
  le : t.2.1.length ≤ m
  ak : ∀ k ∈ t.2.1, Arg C k
  av : ∀ k ∈ t.2.2, Arg C k
theorem T3Ok.push {C : Addr} {m : Nat} {t : D3} {q : NestedKey × D × D} (h : T3Ok C m t) (k : Kp C q) : T3Ok C (m + 1) (pushD t q) := by
  unfold pushD
  cases e : t.1.idxOf? q.1 with
  | none =>
    have hn : q.1 ∉ t.1 := by
      intro hm
      have := List.idxOf?_eq_none_iff.mp e
      exact this hm
    refine ⟨List.nodup_append.mpr ⟨h.nd, by simp, fun a ha b hb e => hn ?_⟩, nkL_snoc h.nk k.nk, ?_, ?_, fun z hz => ?_, fun z hz => ?_⟩
    · rw [← List.mem_singleton.mp hb, ← e]; exact ha
    · show (t.2.1 ++ [q.2.1]).length = (t.2.2 ++ [q.2.2]).length
      rw [List.length_append, List.length_append, h.eq]; rfl
    · show (t.2.1 ++ [q.2.1]).length ≤ m + 1
      rw [List.length_append]; have := h.le; show t.2.1.length + 1 ≤ m + 1; omega
    · rcases List.mem_append.mp hz with hz | hz
      · exact h.ak z hz
      · rw [List.mem_singleton.mp hz]; exact k.a
    · rcases List.mem_append.mp hz with hz | hz
      · exact h.av z hz
      · rw [List.mem_singleton.mp hz]; exact k.b
  | some j =>
    refine ⟨h.nd, h.nk, ?_, Nat.le_succ_of_le h.le, h.ak, fun z hz => ?_⟩
    · show t.2.1.length = (t.2.2.set j q.2.2).length
      rw [List.length_set]; exact h.eq
    · rcases List.mem_or_eq_of_mem_set hz with hz | rfl
      · exact h.av z hz
      · exact k.b
theorem T3Ok.fill {C : Addr} : ∀ {qs : List (NestedKey × D × D)} {m : Nat} {t : D3}, T3Ok C m t → (∀ q ∈ qs, Kp C q) → T3Ok C (m + qs.length) (fillD t qs)
  | [], _, _, h, _ => h
  | q :: qs, m, t, h, k => by
    have := (h.push (k q List.mem_cons_self)).fill fun z hz => k z (List.mem_cons_of_mem _ hz)
    rw [List.length_cons, show m + (qs.length + 1) = m + 1 + qs.length by omega]
    exact this
theorem vo {C : Addr} {w : World} {qs : List (NestedKey × D × D)} (hl : qs.length ≤ 9) (h : ∀ q ∈ qs, Kp C q) :
    Vnum C w (.odd w (fillD ([], [], []) qs).2.1 (fillD ([], [], []) qs).2.2) ∧ Sm 4 (.odd w (fillD ([], [], []) qs).2.1 (fillD ([], [], []) qs).2.2) := by
  have t := T3Ok.fill (C := C) (m := 0) (t := ([], [], [])) ⟨List.nodup_nil, rfl, rfl, Nat.le_refl _, fun k m => (nomatch m), fun k m => (nomatch m)⟩ h
  have hle := t.le
  have : (fillD ([], [], []) qs).2.1.length ≤ 9 := by omega
  exact ⟨.odd _ _ ⟨this, t.eq, ⟨_, t.nk, t.nd⟩, fun k m => (t.ak k m).an, fun k m => (t.av k m).an⟩, ⟨⟨this, t.eq⟩, fun d m => (t.ak d m).sm, fun d m => (t.av d m).sm⟩⟩
/-- names with figures, all -/
abbrev PairPC : D → Option D → Prop := fun d o => ∃ (s : Str) (i : Int), d = .str s ∧ (0 ≤ i ∧ i < 10 ^ 40) ∧ o = some (pairD (s, i))
theorem rel_rowC : ∀ {ss : List Str} {os : List (Option D)}, Paired PairPC (ss.map .str) os → ∃ ps : Row, os.filterMap id = rowD ps ∧ ps.map (·.1) = ss ∧ ∀ z ∈ ps, 0 ≤ z.2 ∧ z.2 < 10 ^ 40
  | [], _, .nil => ⟨[], rfl, rfl, fun z hz => nomatch hz⟩
  | s :: ss, _, .cons (b := o) h r => by
    obtain ⟨ps, e, sub, nn⟩ := rel_rowC r
    obtain ⟨s', i, es, hi, rfl⟩ := h
    cases es
    refine ⟨(s, i) :: ps, ?_, by rw [← sub]; rfl, fun z hz => ?_⟩
    · rw [List.filterMap_cons]
      show pairD (s, i) :: _ = _
      rw [e]
      rfl
    · rcases List.mem_cons.mp hz with rfl | hz
      · exact hi
      · exact nn z hz
theorem fig_arg {C : Addr} {i : Int} (h : 0 ≤ i ∧ i < 10 ^ 40) : Arg C (.int i) := arg_int (.inl ⟨h.1, Int.lt_trans h.2 (by decide)⟩)
structure Word (C : Addr) (d : D) : Prop where
  ar : Arg C d
  nk : ∃ k, nkD d = some k ∧ k.depth ≤ 8
theorem Word.kp {C : Addr} {a b : D} (h : Word C a) (hb : Arg C b) : IsKp C (.tup [a, b]) := by
  obtain ⟨k, e, d⟩ := h.nk
  exact ⟨(k, a, b), rfl, e, d, h.ar, hb⟩
theorem word_str {C : Addr} {s : Str} (h : Arg C (.str s)) : Word C (.str s) := ⟨h, .text s, rfl, Nat.zero_le 8⟩
theorem word_lit {C : Addr} {s : Str} (h : (decide (s.cps.size ≤ 9) && s.cps.toList.all fun c => decide (c < 16 ^ 8)) = true) : Word C (.str s) := word_str (arg_str h)
def wordsA : List D := [.str "", .str "A", .str "one", .str "none", .str "only", .str "without", .str "as", .str "a b", .str "abcdefghi", .int 5, .non, .bl true, .tup [.str "a"]]
theorem words_a {C : Addr} : ∀ d ∈ wordsA, Word C d := by
  intro d hd
  simp only [wordsA, List.mem_cons, List.not_mem_nil, or_false] at hd
  rcases hd with rfl | rfl | rfl | rfl | rfl | rfl | rfl | rfl | rfl | rfl | rfl | rfl | rfl
  iterate 9 exact word_lit (by decide +kernel)
  · exact ⟨arg_int (.inl ⟨by decide, by decide⟩), _, rfl, by decide⟩
  · exact ⟨⟨trivial, rfl⟩, _, rfl, by decide⟩
  · exact ⟨⟨trivial, rfl⟩, _, rfl, by decide⟩
  · exact ⟨⟨⟨by show 1 ≤ 9; decide, fun d m => sm_one (k := 1) (d := .str "a") smA m⟩, rfl⟩, .tup [.text "a"], rfl, by decide⟩
def wordsB (d : D) : List D := [d, d, .str "abcdefgh", .str "join", .str "meet", .str "mark", .str "x1", .str "\n"]
theorem words_b {C : Addr} {d0 : D} (h : Word C d0) : ∀ d ∈ wordsB d0, Word C d := by
  intro d hd
  simp only [wordsB, List.mem_cons, List.not_mem_nil, or_false] at hd
  rcases hd with rfl | rfl | rfl | rfl | rfl | rfl | rfl | rfl
  · exact h
  · exact h
  iterate 6 exact word_lit (by decide +kernel)
def toldA : List D := [.bl true, .bl false, .int (-1), .non, .str "1", .tup [], .lst [.int 2], .dct [], .int (-(10 ^ 20)), .int 0, .int 5]
theorem told_a {C : Addr} : ∀ d ∈ toldA, Arg C d := by
  intro d hd
  simp only [toldA, List.mem_cons, List.not_mem_nil, or_false] at hd
  rcases hd with rfl | rfl | rfl | rfl | rfl | rfl | rfl | rfl | rfl | rfl | rfl
  · exact ⟨trivial, rfl⟩
  · exact ⟨trivial, rfl⟩
  · exact arg_int (.inr (.inl rfl))
  · exact ⟨trivial, rfl⟩
  · exact arg_str (by decide +kernel)
  · exact ⟨⟨Nat.zero_le _, fun d m => nomatch m⟩, rfl⟩
  · exact ⟨⟨by show 1 ≤ 9; decide, fun d m => sm_one (k := 1) (d := .int 2) (.inl ⟨by decide, by decide⟩) m⟩, rfl⟩
  · exact ⟨⟨Nat.zero_le _, fun d m => nomatch m⟩, rfl⟩
  · exact arg_int (.inr (.inr rfl))
  · exact arg_int (.inl ⟨by decide, by decide⟩)
  · exact arg_int (.inl ⟨by decide, by decide⟩)
def otherA (a b : D) : List D := [.tup [a, b, .int 0], .tup [a], .tup [], a, b, .lst [a, b], .non, .tup [.tup [a, b]]]
theorem other_a {C : Addr} {s : Str} {i : Int} (hs : NameOk s) (hi : 0 ≤ i ∧ i < 10 ^ 40) : ∀ d ∈ otherA (.str s) (.int i), Rw C d := by
  have ia : SmI i := .inl ⟨hi.1, Int.lt_trans hi.2 (by decide)⟩
  have i0 : SmI 0 := .inl ⟨by decide, by decide⟩
  have sa := hs.sm
  intro d hd
  simp only [otherA, List.mem_cons, List.not_mem_nil, or_false] at hd
  rcases hd with rfl | rfl | rfl | rfl | rfl | rfl | rfl | rfl
  · refine rw_any rfl ⟨by show 3 ≤ 9; decide, fun d m => ?_⟩ nofun
    rcases List.mem_cons.mp m with rfl | m
    · exact sa
    · exact sm_two (k := 2) (d := .int i) (d' := .int 0) ia i0 m
  · exact rw_any rfl ⟨by show 1 ≤ 9; decide, fun d m => sm_one (k := 2) (d := .str s) sa m⟩ nofun
  · exact rw_any rfl ⟨Nat.zero_le _, fun d m => nomatch m⟩ nofun
  · exact rw_any hs.arg.an sa nofun
  · exact rw_any rfl ia nofun
  · exact rw_any rfl ⟨by show 2 ≤ 9; decide, fun d m => sm_two (k := 2) (d := .str s) (d' := .int i) sa ia m⟩ nofun
  · exact rw_any rfl trivial nofun
  · exact rw_any rfl ⟨by show 1 ≤ 9; decide, fun d m => sm_one (k := 2) (d := .tup [.str s, .int i]) ⟨by show 2 ≤ 9; decide, fun e m => sm_two (k := 1) (d := .str s) (d' := .int i) sa ia m⟩ m⟩ nofun
end MK
set_option Elab.async false
set_option linter.all false
set_option maxRecDepth 100000
set_option maxHeartbeats 1000000
set_option autoImplicit false
namespace K0
open PySem L2 DL MK
section
variable {P : Program} {w : World} {K : PySem.W.Frag} {mg : Str → Option Value} {base : Heap} {C B G J M : Addr} {f : Addr}
theorem ok_spoilt (h : DefAt K mg "_law_spoilt_numbers" s__law_spoilt_numbers ["_law_pot_here"]) (T : Tx K mg C) (h__law_take : Fn1 P w K mg base K "_law_take" 1 F_take) (h__law_of : Fn1 P w K mg base K "_law_of" 2 F_of) (h__law_turned : Fn1 P w K mg base K "_law_turned" 2 F_turned) (h__law_names : Fn1 P w K mg base K "_law_names" 3 F_namesB) (h__law_figure : Fn1 P w K mg base K "_law_figure" 3 F_figureB) : Fn1 P w K mg base K "_law_spoilt_numbers" 4 (F_spoilt C w) := by
  refine h.fn sc__law_spoilt_numbers T.bt (k := 3) (fun f cdv A outer s H E en => (dss_cons (set en 1 (call en h__law_names (da_cons (v en 0) (da_cons (eAdd en de_int (call en h__law_take (da_cons (v en 0) (da_cons de_int da_nil)))) da_nil))))
    (dss_cons (setLc en 2 (defScope s__law_spoilt_numbers) [("_law_name", 5)] (inL en (call en h__law_turned (da_cons (v en 0) (da_cons (v en 1) da_nil)))) (nm en.blk 5) dts_nil (de_tup (da_cons (v en.blk 5) (da_cons (call en.blk h__law_figure (da_cons (v en.blk 0) da_nil)) da_nil))))
    (dss_cons (par en 3 4 (da_cons (call en h__law_take (da_cons (v en 0) (da_cons de_int da_nil))) (da_cons (call en h__law_take (da_cons (v en 0) (da_cons (eLen en (da_cons (v en 2) da_nil)) da_nil))) da_nil)))
    (dss_cons (ds_asg (eIx en (v en 2) (v en 4)) (nms en 2 (dgs_cons (nm en 5) (dgs_cons (nm en 6) dgs_nil))))
    (dss_cons (set en 7 (call en h__law_of (da_cons (v en 0) (da_cons (de_lst (da_cons de_str (da_cons de_str (da_cons de_str (da_cons de_str (da_cons de_str (da_cons de_str (da_cons de_str (da_cons de_str (da_cons de_str (da_cons de_int (da_cons de_non (da_cons de_bl (da_cons (de_tup (da_cons de_str da_nil)) da_nil)))))))))))))) da_nil))))
    (dss_cons (set en 7 (call en h__law_of (da_cons (v en 0) (da_cons (de_lst (da_cons (v en 7) (da_cons (v en 7) (da_cons de_str (da_cons de_str (da_cons de_str (da_cons de_str (da_cons de_str (da_cons de_str da_nil))))))))) da_nil))))
    (dss_cons (set en 8 (call en h__law_of (da_cons (v en 0) (da_cons (de_lst (da_cons de_bl (da_cons de_bl (da_cons (eNeg de_int) (da_cons de_non (da_cons de_str (da_cons (de_tup da_nil) (da_cons (de_lst (da_cons de_int da_nil)) (da_cons dct0 (da_cons (eNeg (ePow de_int de_int)) (da_cons de_int (da_cons de_int da_nil)))))))))))) da_nil))))
    (dss_cons (set en 9 (call en h__law_of (da_cons (v en 0) (da_cons (de_lst (da_cons (de_tup (da_cons (v en 5) (da_cons (v en 6) (da_cons de_int da_nil)))) (da_cons (de_tup (da_cons (v en 5) da_nil)) (da_cons (de_tup da_nil) (da_cons (v en 5) (da_cons (v en 6) (da_cons (de_lst (da_cons (v en 5) (da_cons (v en 6) da_nil))) (da_cons de_non (da_cons (de_tup (da_cons (de_tup (da_cons (v en 5) (da_cons (v en 6) da_nil))) da_nil)) da_nil))))))))) da_nil))))
    (dss_cons (set en 10 (eIx en (de_lst (da_cons (de_tup (da_cons (v en 7) (da_cons (v en 6) da_nil))) (da_cons (de_tup (da_cons (v en 5) (da_cons (v en 8) da_nil))) (da_cons (v en 9) (da_cons (de_tup (da_cons (v en 5) (da_cons (v en 8) da_nil))) (da_cons (de_tup (da_cons (v en 7) (da_cons (v en 6) da_nil))) da_nil)))))) (eMod (eInt en (da_cons (v en 3) da_nil)) de_int)))
    (dss_cons (set en 11 (eAdd en (eAdd en (eSlice en (v en 2) do_none (do_some (v en 4))) (de_lst (da_cons (v en 10) da_nil))) (eSlice en (v en 2) (do_some (eAdd en (v en 4) de_int)) do_none)))
    (dss_cons (ds_if (tLt (v en 3) de_int)
    (dss_one (ds_ret (eTuple en (da_cons (v en 11) da_nil))))
    dss_nil)
    (dss_cons (ds_if (tLt (v en 3) de_int)
    (dss_one (ds_ret (mkDictO en (da_cons (eAdd en (eAdd en (eSlice en (v en 2) do_none (do_some (v en 4))) (de_lst (da_cons (de_if (tEq en (v en 3) de_int) (de_tup (da_cons (v en 7) (da_cons (v en 6) da_nil))) (de_tup (da_cons (v en 5) (da_cons (v en 8) da_nil)))) da_nil))) (eSlice en (v en 2) (do_some (eAdd en (v en 4) de_int)) do_none)) da_nil))))
    dss_nil)
    (dss_cons (ds_if (tEq en (v en 3) de_int)
    (dss_one (ds_ret (eTuple en (da_cons (eAdd en (v en 2) (de_lst (da_cons (de_tup (da_cons (v en 5) (da_cons (call en h__law_of (da_cons (v en 0) (da_cons (de_lst (da_cons (v en 6) (da_cons de_int (da_cons (eAdd en (v en 6) de_int) da_nil)))) da_nil))) da_nil))) da_nil))) da_nil))))
    dss_nil)
    (dss_one (ds_ret (de_if (tEq en (v en 3) de_int) (call en h__law_of (da_cons (v en 0) (da_cons (de_lst (da_cons (v en 2) (da_cons de_non (da_cons de_str (da_cons (v en 5) (da_cons (v en 6) (da_cons (de_lst (da_cons de_str da_nil)) (da_cons de_bl (da_cons (de_tup da_nil) da_nil))))))))) da_nil))) (de_tup (da_cons (eTuple en (da_cons (v en 2) da_nil)) da_nil))))))))))))))))))) ?_ ?_
  · rintro ds n Q x ⟨rfl, _⟩; rfl
  · rintro ds n Q x ⟨rfl, hn, q⟩
    have mb : ∀ {j : Nat}, j ≤ 100 → j ≤ most := fun h => Nat.le_trans h (by decide)
    refine ⟨.pot, rfl, _, rfl, 4, rfl, by decide, by decide, by omega, fun r h0 h1 => ⟨_, rfl, 1 + r, rfl, by omega, by omega, by omega, fun ys n2 hy hnb hn2 => ⟨_, rfl, ?_⟩⟩⟩
    have hle := hy.le
    have hyp : 0 < ys.length := List.length_pos_iff.mpr hy.ne
    refine ⟨.pot, rfl, _, rfl, ys.map .str, rfl, fun e => hy.ne (List.map_eq_nil_iff.mp e), by rw [List.length_map]; omega, by omega, fun l' pm => ⟨l', rfl, ?_⟩⟩
    have hl' : l'.length = ys.length := by rw [pm.length_eq, List.length_map]
    refine lc_rel PairPC 3 (by rw [hl']; exact mb (by omega)) (by rw [hl']; omega) (fun d hd => ?_) (fun os n3 hp hn3 => ?_)
    · obtain ⟨s, hs, rfl⟩ := List.mem_map.mp (pm.subset hd)
      exact ⟨_, rfl, fun n Qt Qf hc ht hf => ⟨_, rfl, .pot, rfl, rfl, by omega, fun i n2 hi hi2 hn2 => ⟨by show 2 ≤ most; decide, ht _ _ ⟨s, i, rfl, ⟨hi, hi2⟩, rfl⟩ (by omega)⟩⟩⟩
    obtain ⟨ss, rfl, pm2⟩ := perm_strs pm
    obtain ⟨ps, e, esub, nn⟩ := rel_rowC hp
    rw [e]
    have hps : ps.length = ys.length := by rw [← List.length_map (f := (·.1)), esub, pm2.length_eq]
    have hnm : ∀ z ∈ ps, NameOk z.1 := fun z hz => hy.ok _ (pm2.subset (by rw [← esub]; exact List.mem_map.mpr ⟨z, hz, rfl⟩))
    rw [hl'] at hn3
    refine ⟨_, rfl, .pot, rfl, 10, rfl, by decide, by decide, by omega, fun way h2 h3 => ⟨.pot, rfl, _, rfl, ?_⟩⟩
    refine ⟨_, by show some (D.int (rowD ps).length) = _; rw [row_len], ps.length, rfl, by omega, by omega, by omega, fun at_ h4 h5 => ⟨_, _, rfl, ?_⟩⟩
    obtain ⟨k, rfl⟩ : ∃ k : Nat, at_ = (k : Int) := ⟨at_.toNat, by omega⟩
    have hk : k < ps.length := by omega
    obtain ⟨⟨s, i⟩, hz⟩ : ∃ z, ps[k]? = some z := ⟨_, List.getElem?_eq_getElem hk⟩
    have hmem := List.mem_of_getElem? hz
    have hs : NameOk s := hnm _ hmem
    have hi : 0 ≤ i ∧ i < 10 ^ 40 := nn _ hmem
    refine ⟨_, rfl, _, rfl, pairD (s, i), atI_nat (by unfold rowD; rw [List.getElem?_map, hz]; rfl), _, rfl, ?_⟩
    refine slots_to (l := [some (.val .pot), some (.val (.lst (ys.map .str))), some (.val (.lst (rowD ps))), some (.val (.int way)), some (.val (.int k)), some (.val (.str s)), some (.val (.int i)), none, none, none, none, none]) rfl ?_
    refine ⟨.pot, rfl, by show 1 ≤ most; decide, by show 13 ≤ most; decide, .lst wordsA, 13, rfl, rfl, by decide, by decide, by omega, fun r1 g0 g1 => ?_⟩
    obtain ⟨w1, hw1, m1⟩ := pick (l := wordsA) g0 (by show r1 < 13; exact g1)
    refine ⟨w1, hw1, _, rfl, ?_⟩
    have W1 : Word C w1 := words_a w1 m1
    refine ⟨.pot, rfl, _, rfl, _, rfl, by show 8 ≤ most; decide, .lst (wordsB w1), 8, rfl, rfl, by decide, by decide, by omega, fun r2 g2 g3 => ?_⟩
    obtain ⟨w2, hw2, m2⟩ := pick (l := wordsB w1) g2 (by show r2 < 8; exact g3)
    refine ⟨w2, hw2, _, rfl, ?_⟩
    have W2 : Word C w2 := words_b W1 w2 m2
    have bm : ∀ {j : Nat}, j ≤ 100 → j ≤ most := fun h => Nat.le_trans h (by decide)
    refine ⟨.pot, rfl, .int (-1), rfl, bm (j := 0) (by decide), bm (j := 1) (by decide), .int (10 ^ 20), rfl, .int (-(10 ^ 20)), rfl, bm (j := 11) (by decide), .lst toldA, 11, rfl, rfl, by decide, by decide, by omega, fun r3 g4 g5 => ?_⟩
    obtain ⟨t, ht, m3⟩ := pick (l := toldA) g4 (by show r3 < 11; exact g5)
    refine ⟨t, ht, _, rfl, ?_⟩
    have W3 : Arg C t := told_a t m3
    refine ⟨.pot, rfl, _, rfl, _, rfl, bm (j := 3) (by decide), _, rfl, bm (j := 1) (by decide), bm (j := 0) (by decide), _, rfl, _, rfl, _, rfl, _, rfl, bm (j := 2) (by decide), _, rfl, _, rfl, bm (j := 2) (by decide), bm (j := 1) (by decide), bm (j := 8) (by decide), .lst (otherA (.str s) (.int i)), 8, rfl, rfl, by decide, by decide, by omega, fun r4 g6 g7 => ?_⟩
    obtain ⟨o, ho, m4⟩ := pick (l := otherA (.str s) (.int i)) g6 (by show r4 < 8; exact g7)
    refine ⟨o, ho, _, rfl, ?_⟩
    have W4 : Rw C o := other_a hs hi o m4
    have A0 : Arg C (.int i) := fig_arg hi
    refine slots_to (l := [some (.val .pot), some (.val (.lst (ys.map .str))), some (.val (.lst (rowD ps))), some (.val (.int way)), some (.val (.int k)), some (.val (.str s)), some (.val (.int i)), some (.val w2), some (.val t), some (.val o), none, none]) rfl ?_
    refine ⟨_, rfl, _, rfl, bm (j := 2) (by decide), _, rfl, _, rfl, bm (j := 2) (by decide), _, rfl, _, rfl, _, rfl, bm (j := 2) (by decide), _, rfl, _, rfl, bm (j := 2) (by decide), bm (j := 5) (by decide), _, rfl, _, rfl, .int (way % 5), rfl, ?_⟩
    have hmod : 0 ≤ way % 5 ∧ way % 5 < 5 := by omega
    obtain ⟨pt, hpt, m5⟩ := pick (l := [.tup [w2, .int i], .tup [.str s, t], o, .tup [.str s, t], .tup [w2, .int i]]) hmod.1 (by show way % 5 < 5; exact hmod.2)
    have W5 : Rw C pt := by
      simp only [List.mem_cons, List.not_mem_nil, or_false] at m5
      rcases m5 with rfl | rfl | rfl | rfl | rfl
      · exact rw_two W2.ar A0
      · exact rw_two hs.arg W3
      · exact W4
      · exact rw_two hs.arg W3
      · exact rw_two W2.ar A0
    refine ⟨pt, hpt, _, rfl, ?_⟩
    have hrw : ∀ e ∈ rowD ps, Rw C e := fun e m => by
      obtain ⟨z, hz, rfl⟩ := List.mem_map.mp m
      exact rw_two (hnm z hz).arg (fig_arg (nn z hz))
    have hkp : ∀ e ∈ rowD ps, IsKp C e := fun e m => by
      obtain ⟨z, hz, rfl⟩ := List.mem_map.mp m
      exact (word_str (hnm z hz).arg).kp (fig_arg (nn z hz))
    have hlr : (rowD ps).length = ps.length := row_len ps
    have c1 : cutD (rowD ps) none (some (k : Int)) = (rowD ps).take k := cut_to _ k (by omega)
    have c2 : cutD (rowD ps) (some ((k : Int) + 1)) none = (rowD ps).drop (k + 1) := cut_from _ (k + 1) (by omega)
    have s1 : ∀ e : D, addD (.lst ((rowD ps).take k)) (.lst [e]) = some (.lst ((rowD ps).take k ++ [e])) := fun e => by
      show (if _ then _ else _) = _
      rw [if_pos (by rw [List.length_take]; exact Nat.le_trans (show _ + 1 ≤ 10 by omega) (by decide))]
    have s2 : ∀ e : D, addD (.lst ((rowD ps).take k ++ [e])) (.lst ((rowD ps).drop (k + 1))) = some (.lst ((rowD ps).take k ++ [e] ++ (rowD ps).drop (k + 1))) := fun e => by
      show (if _ then _ else _) = _
      rw [if_pos (by rw [List.length_append, List.length_take, List.length_drop]; exact Nat.le_trans (show _ + 1 + _ ≤ 20 by omega) (by decide))]
    have hin : ∀ {pr : D → Prop} {e : D}, (∀ e ∈ rowD ps, pr e) → pr e → ∀ z ∈ (rowD ps).take k ++ [e] ++ (rowD ps).drop (k + 1), pr z := fun {pr e} h1 h2 z m => by
      rcases List.mem_append.mp m with m | m
      · rcases List.mem_append.mp m with m | m
        · exact h1 z (List.mem_of_mem_take m)
        · rw [List.mem_singleton.mp m]; exact h2
      · exact h1 z (List.mem_of_mem_drop m)
    have hlen : ∀ e : D, ((rowD ps).take k ++ [e] ++ (rowD ps).drop (k + 1)).length ≤ 9 := fun e => by
      rw [List.length_append, List.length_append, List.length_take, List.length_drop]
      show _ + 1 + _ ≤ 9
      omega
    refine ⟨_, rfl, _, rfl, _, rfl, .lst ((rowD ps).take k), congrArg (fun l => some (D.lst l)) c1, _, rfl, bm (j := 1) (by decide), _, s1 pt, _, rfl, _, rfl, _, rfl, _, rfl, .lst ((rowD ps).drop (k + 1)), congrArg (fun l => some (D.lst l)) c2, _, s2 pt, _, rfl, ?_⟩
    refine slots_to (l := [some (.val .pot), some (.val (.lst (ys.map .str))), some (.val (.lst (rowD ps))), some (.val (.int way)), some (.val (.int k)), some (.val (.str s)), some (.val (.int i)), some (.val w2), some (.val t), some (.val o), some (.val pt), some (.val (.lst ((rowD ps).take k ++ [pt] ++ (rowD ps).drop (k + 1))))]) rfl ?_
    have enough : ∀ {n' : Nat}, n3 ≤ n' + 10 → n ≤ n' + 100 := fun h => by omega
    refine ⟨_, rfl, _, rfl, _, rfl, ite2 (fun e1 => ?_) (fun e1 => ?_)⟩
    · have v := vt (w := w) (hlen pt) (hin hrw W5)
      exact ⟨_, rfl, _, rfl, q _ _ v.1 v.2 (enough (by omega))⟩
    refine ⟨_, rfl, _, rfl, _, rfl, ite2 (fun e2 => ?_) (fun e2 => ?_)⟩
    · have fin : ∀ e : D, IsKp C e → ∃ qs : List (NestedKey × D × D), [D.lst ((rowD ps).take k ++ [e] ++ (rowD ps).drop (k + 1))] = [.lst (qs.map fun q => .tup [q.2.1, q.2.2])] ∧ qs.length ≤ 64 ∧ (∀ q ∈ qs, nkD q.2.1 = some q.1 ∧ q.1.depth ≤ 8) ∧ ∀ n', n3 ≤ n' + 10 → Q (.odd w (fillD ([], [], []) qs).2.1 (fillD ([], [], []) qs).2.2) n' := fun e he => by
        obtain ⟨qs, eq, hq⟩ := kps (hin hkp he)
        have hl9 : qs.length ≤ 9 := by have := hlen e; rw [eq, List.length_map] at this; exact this
        have v := vo (w := w) hl9 hq
        exact ⟨qs, by rw [eq], by omega, fun z hz => ⟨(hq z hz).nk, (hq z hz).dp⟩, fun n' hn' => q _ _ v.1 v.2 (enough hn')⟩
      refine ⟨_, rfl, _, rfl, _, rfl, .lst ((rowD ps).take k), congrArg (fun l => some (D.lst l)) c1, _, rfl, _, eq_int _ _, _, rfl, ite2 (fun e3 => ?_) (fun e3 => ?_)⟩
      · obtain ⟨qs, a1, a2, a3, a4⟩ := fin _ (W2.kp A0)
        exact ⟨_, rfl, _, rfl, bm (j := 2) (by decide), bm (j := 1) (by decide), _, s1 _, _, rfl, _, rfl, _, rfl, _, rfl, .lst ((rowD ps).drop (k + 1)), congrArg (fun l => some (D.lst l)) c2, _, s2 _, qs, a1, a2, a3, a4 _ (by omega)⟩
      · obtain ⟨qs, a1, a2, a3, a4⟩ := fin _ ((word_str hs.arg).kp W3)
        exact ⟨_, rfl, _, rfl, bm (j := 2) (by decide), bm (j := 1) (by decide), _, s1 _, _, rfl, _, rfl, _, rfl, _, rfl, .lst ((rowD ps).drop (k + 1)), congrArg (fun l => some (D.lst l)) c2, _, s2 _, qs, a1, a2, a3, a4 _ (by omega)⟩
    refine ⟨_, rfl, _, eq_int _ _, _, rfl, ite2 (fun e3 => ?_) (fun e3 => ?_)⟩
    · refine ⟨_, rfl, _, rfl, .pot, rfl, _, rfl, _, rfl, .int (i + 1), rfl, bm (j := 3) (by decide), .lst [.int i, .int 0, .int (i + 1)], 3, rfl, rfl, by decide, by decide, by omega, fun r5 g8 g9 => ?_⟩
      obtain ⟨u, hu, m6⟩ := pick (l := [.int i, .int 0, .int (i + 1)]) g8 (by show r5 < 3; exact g9)
      have W6 : Arg C u := by
        simp only [List.mem_cons, List.not_mem_nil, or_false] at m6
        rcases m6 with rfl | rfl | rfl
        · exact A0
        · exact arg_int (.inl ⟨by decide, by decide⟩)
        · exact arg_int (.inl ⟨by omega, by have := hi.2; omega⟩)
      have v := vt (w := w) (l := rowD ps ++ [.tup [.str s, u]]) (by rw [List.length_append]; show _ + 1 ≤ 9; omega) (fun e m => (List.mem_append.mp m).elim (hrw e) (fun m => by rw [List.mem_singleton.mp m]; exact rw_two hs.arg W6))
      refine ⟨u, hu, bm (j := 2) (by decide), bm (j := 1) (by decide), .lst (rowD ps ++ [.tup [.str s, u]]), ?_, _, rfl, q _ _ v.1 v.2 (enough (by omega))⟩
      show (if _ then _ else _) = _
      rw [if_pos (by exact Nat.le_trans (show _ + 1 ≤ 10 by omega) (by decide))]
    refine ⟨_, rfl, _, eq_int _ _, _, rfl, ite2 (fun e4 => ?_) (fun e4 => ?_)⟩
    · refine ⟨.pot, rfl, _, rfl, _, rfl, _, rfl, bm (j := 1) (by decide), bm (j := 0) (by decide), bm (j := 8) (by decide), .lst [.lst (rowD ps), .non, .str "", .str s, .int i, .lst [.str "a"], .bl true, .tup []], 8, rfl, rfl, by decide, by decide, by omega, fun r5 g8 g9 => ?_⟩
      obtain ⟨u, hu, m6⟩ := pick (l := [.lst (rowD ps), .non, .str "", .str s, .int i, .lst [.str "a"], .bl true, .tup []]) g8 (by show r5 < 8; exact g9)
      have v : Vnum C w u ∧ Sm 4 u := by
        simp only [List.mem_cons, List.not_mem_nil, or_false] at m6
        have av : ∀ {d : D}, Arg C d → tnOf d ≠ some .tup → tnOf d ≠ some .dct → Vnum C w d ∧ Sm 4 d := fun h a b => ⟨.other _ h.an a b, sm_up (sm_up h.sm)⟩
        rcases m6 with rfl | rfl | rfl | rfl | rfl | rfl | rfl | rfl
        · exact ⟨.other _ rfl nofun nofun, ⟨by omega, fun e m => (hrw e m).sm⟩⟩
        · exact av ⟨trivial, rfl⟩ nofun nofun
        · exact av (arg_str (by decide +kernel)) nofun nofun
        · exact av hs.arg nofun nofun
        · exact av A0 nofun nofun
        · exact av ⟨⟨by show 1 ≤ 9; decide, fun d m => sm_one (k := 1) (d := .str "a") smA m⟩, rfl⟩ nofun nofun
        · exact av ⟨trivial, rfl⟩ nofun nofun
        · exact vt (Nat.zero_le _) fun e m => nomatch m
      exact ⟨u, hu, q _ _ v.1 v.2 (enough (by omega))⟩
    · have v := vt (w := w) (C := C) (l := [.tup (rowD ps)]) (by show 1 ≤ 9; decide) (fun e m => by
        rw [List.mem_singleton.mp m]
        have hz : ∀ z ∈ rowD ps, anyB C z = true ∧ Sm 2 z := fun z m => by
          obtain ⟨y, hy, rfl⟩ := List.mem_map.mp m
          exact ⟨rfl, by show 2 ≤ 9; decide, fun d m => sm_two (k := 1) (d := .str y.1) (d' := .int y.2) (hnm y hy).sm (.inl ⟨(nn y hy).1, Int.lt_trans (nn y hy).2 (by decide)⟩) m⟩
        refine ⟨⟨rfl, fun a b e => ?_⟩, ⟨by omega, fun d m => (hz d m).2⟩⟩
        have e : rowD ps = [a, b] := D.tup.inj e
        exact ⟨(hz a (by rw [e]; exact List.mem_cons_self)).1, (hz b (by rw [e]; exact List.mem_cons_of_mem _ List.mem_cons_self)).1⟩)
      exact ⟨_, rfl, _, rfl, bm (j := 1) (by decide), q _ _ v.1 v.2 (enough (by omega))⟩
end
end K0
set_option Elab.async false
set_option linter.all false
set_option maxRecDepth 100000
set_option maxHeartbeats 1000000
set_option autoImplicit false
namespace K0
open PySem L2 DL MK
section
variable {P : Program} {w : World} {K : PySem.W.Frag} {mg : Str → Option Value} {base : Heap} {C : Addr} {f : Addr}
abbrev s_law : Stmt := top 37
abbrev N_law : List Str := ["_law_script", "_law_pot_here", "_law_lap"]
theorem sc_law : FnScope N_law ["_law_script"] (defScope s_law) := ⟨rfl, rfl, rfl, by decide +kernel, rfl, by decide +kernel, by decide +kernel⟩
def forBody : Stmt → List Stmt
  | .For _ _ b _ _ => b
  | _ => []
abbrev potS : List Stmt := forBody ((defBody s_law).getD 0 (.Pass ⟨0, 0, 0, 0⟩))
def spLaw (K : PySem.W.Frag) : Sp := fun vs H Q _ => ∃ (a : Addr) (ns : List Int), vs = [.ref a] ∧ SqL K H a (ns.map V.int) ∧ ns.length ≤ 63 ∧ ∀ H', Q (.bl true) H'
theorem kit_rtT {K : PySem.W.Frag} {C : Addr} {n : String} (h1 : PySem.W.kitMeta n = true) (h2 : PySem.W.subIn K (.ref C) (.type n) = some true) : PySem.W.kitOne K (.ref C) (.type n) = some true := by
  have e : ((Value.ref C : Value) == .type n) = false := beq_eq_false_iff_ne.mpr fun z => (nomatch z)
  unfold PySem.W.kitOne
  rw [e, if_neg (by decide)]
  show (if PySem.W.kitMeta n = true then PySem.W.subIn K (.ref C) (.type n) else none) = _
  rw [if_pos h1]
  exact h2
theorem trues : ∀ {l : List D} {os : List (Option D)}, Paired (fun _ o => o = some (.bl true)) l os → os.filterMap id = l.map fun _ => .bl true
  | [], _, .nil => rfl
  | d :: l, _, .cons (b := o) h r => by
    subst h
    rw [List.filterMap_cons, trues r]
    rfl
theorem all_true {l : List D} {os : List (Option D)} (h : Paired (fun _ o => o = some (.bl true)) l os) : allD [.lst (os.filterMap id)] = some (.bl true) := by
  rw [trues h, all_eq]
  simp
/-- what is done with a pot -/
theorem laps {fl : Addr} {cdv : Value} {A : Around} {outer : List Env} {s : Shared} {H : Hp} {E : XK} (en : En (fam P w K mg base N_law "law" (defScope s_law) fl cdv A outer s H E) P w K mg base N_law 8) (gd : ∀ i, (fam P w K mg base N_law "law" (defScope s_law) fl cdv A outer s H E i).A.guards = some []) (h__law_fine : Fn1 P w K mg base K "_law_fine" 6 F_fine) (h__law_spoilt_numbers : Fn1 P w K mg base K "_law_spoilt_numbers" 4 (F_spoilt C w)) (h__law_judged : Fn1G P w K mg base "_law_judged" 7 (F_judged C w)) :
    ∃ t, DSs (fam P w K mg base N_law "law" (defScope s_law) fl cdv A outer s H E) K E0 potS t ∧ t { nx := fun ρ _ => ρ.length = 3, rt := fun _ _ => False } [none, some (.val .pot), none] 1000000 x0 := by
  refine ⟨_, (dss_cons (ds_if (dt_not (dt_val (eAll en (da_cons (lc en (defScope s_law) [("_law_lap", 2)] (inR en (da_cons de_int da_nil)) (nm en.blk 2) dts_nil (call en.blk h__law_fine (da_cons (v en.blk 1) da_nil))) da_nil))))
    (dss_one (ds_ret de_bl))
    dss_nil)
    (dss_one (ds_if (dt_not (dt_val (eAll en (da_cons (lc en (defScope s_law) [("_law_lap", 2)] (inR en (da_cons de_int da_nil)) (nm en.blk 2) dts_nil (callG en.blk (fun i => gd i.1) h__law_judged (da_cons (call en.blk h__law_spoilt_numbers (da_cons (v en.blk 1) da_nil)) da_nil))) da_nil))))
    (dss_one (ds_ret de_bl))
    dss_nil))), ?_⟩
  refine ⟨3, rfl, by decide, by decide, lc_rel (fun _ o => o = some (.bl true)) 60 (by rw [ints_len]; show 3 ≤ most; decide) (by rw [ints_len]; decide) (fun d hd => ⟨_, rfl, fun n Qt Qf hc ht hf => ⟨.pot, rfl, rfl, hc, fun n' hn' => ht _ _ rfl hn'⟩⟩) (fun os n1 hp hn1 => ⟨_, all_true hp, true, rfl, iteF ?_⟩)⟩
  rw [ints_len] at hn1
  have hn1 : 1000000 ≤ n1 + 60 * 3 := hn1
  refine ⟨7, rfl, by decide, by decide, lc_rel (fun _ o => o = some (.bl true)) 100 (by rw [ints_len]; show 7 ≤ most; decide) (by rw [ints_len]; show 100 * 7 ≤ _; omega) (fun d hd => ⟨_, rfl, fun n Qt Qf hc ht hf => ⟨.pot, rfl, rfl, hc, fun d n' hv hs hn' => ⟨d, rfl, hv, hs, ht _ _ rfl hn'⟩⟩⟩) (fun os n1 hp hn1 => ⟨_, all_true hp, true, rfl, iteF rfl⟩)⟩
theorem ok_law {fl g : Addr} {fd gd : FuncData} (G : Fun K "law" "law" s_law fl fd) (bt : Bt mg) (GP : FnOk P w K mg base CX0 2 g gd ["_law_script", "_law_most"] (spPots K)) (mP : mg "_law_pots" = some (.ref g)) (kP : PySem.W.keepIn K (.ref g) = true) (bP : Binds K gd ["_law_script", "_law_most"] [])
    (h__law_fine : Fn1 P w K mg base K "_law_fine" 6 F_fine) (h__law_spoilt_numbers : Fn1 P w K mg base K "_law_spoilt_numbers" 4 (F_spoilt C w)) (h__law_judged : Fn1G P w K mg base "_law_judged" 7 (F_judged C w)) : FnG P w K mg base 9 fl fd ["_law_script"] (spLaw K) := by
  refine fnG_of (k := 8) G sc_law (fun vs H Q E h => ?_) (fun cdv A outer s H vs Q E hr hgd h => ?_)
  · obtain ⟨a, ns, rfl, _⟩ := h
    rfl
  · obtain ⟨a, ns, rfl, hSq, hl, hq⟩ := h
    have en : En (fam P w K mg base N_law "law" (defScope s_law) fl cdv A outer s H E) P w K mg base N_law 8 := ⟨fun _ => rfl, fun _ => rfl, fun _ => rfl, fun _ => rfl, fun _ => rfl, fun _ => rfl, fun _ => rfl, fun _ => hr, sc_law.nd, bt⟩
    obtain ⟨t, ⟨ts, pt, et⟩, ht⟩ := laps en (fun _ => hgd) h__law_fine h__law_spoilt_numbers h__law_judged
    refine ⟨_, PSs.nox (pss_cons (ps_for PassesOwn.never rfl (pi_list (pe_call GP (hr.mono (by decide)) (by rfl) mP kP bP .nil pass0 (pa_cons (pv 0) (pa_cons pe_int pa_nil)))) (pg_name (i := 1) sc_law.nd rfl (by first | exact .inl rfl | exact .inr rfl)) (pt ())) (pss_one (ps_ret pe_bl))), ?_⟩
    refine ⟨.ref a, rfl, a, ns, 4, rfl, hSq, by decide, by decide, fun q ps H1 sm hq1 nd hp => ?_⟩
    refine ⟨q, rfl, ⟨_, .inl (.inl hq1)⟩, for_list (K := K) (a := q) (xs := ps.map V.ref) (fun i σ H2 => σ.length = 3 ∧ H2 q = some (.lst (ps.map V.ref)) ∧ ∀ j, i ≤ j → ∀ b, ps[j]? = some b → b ≠ q ∧ PotAt H2 b 1000000) ⟨rfl, hq1, fun j _ b hb => hp b (List.mem_of_getElem? hb)⟩ (fun i σ H2 _ ⟨_, e, _⟩ => .inl (.inl e)) ?_ ?_⟩
    · rintro i y σ H2 hi ⟨hl6, hq2, hpot⟩
      obtain ⟨p, hpi, rfl⟩ : ∃ p, ps[i]? = some p ∧ V.ref p = y := by
        rw [List.getElem?_map] at hi
        cases e : ps[i]? with
        | none => rw [e] at hi; cases hi
        | some z => rw [e] at hi; exact ⟨z, rfl, Option.some.inj hi⟩
      obtain ⟨npq, hpp⟩ := hpot i (Nat.le_refl _) p hpi
      have wd : Wd K p H2 (fun z => z = p) [none, some (.val .pot), none] 1000000 (fun z => z = p) (σ.set 1 (some (.ref p))) H2 := by
        refine ⟨hpp, rfl, fun z e => ?_, fun _ z => z, fun z e => ?_, .refl, by rw [List.length_set]; exact hl6, fun j sl hj => ?_, fun j k b sl sm' _ hj => ?_⟩
        · rw [e]; exact hpp.ne
        · rw [e]; exact hpp.ne
        · match j, hj with
          | 1, hj =>
            cases hj
            exact ⟨.ref p, List.getElem?_set_self (by omega), rfl⟩
          | 0, hj => cases hj
          | 2, hj => cases hj
          | j + 3, hj => cases hj
        · intro _ so _
          match j, hj with
          | 1, hj => cases hj; cases so
          | 0, hj => cases hj
          | 2, hj => cases hj
          | j + 3, hj => cases hj
      refine et (De := { nx := fun ρ _ => ρ.length = 3, rt := fun _ _ => False }) wd HE.zero ht (fun ρ' n' Z' σ' H' w' _ h' => ?_) (fun _ _ _ _ _ _ _ h => h.elim) (fun _ _ _ _ _ _ _ h => h.elim) (fun _ _ _ _ _ _ _ h => h.elim)
      refine ⟨w'.len.trans h', w'.keep q _ (Ne.symm npq) hq2, fun j hj b hb => ?_⟩
      obtain ⟨nbq, o, s1, c, hb1, hb2⟩ := hpot j (Nat.le_of_succ_le hj) b hb
      have nbp : b ≠ p := fun e => by
        obtain ⟨h1, e1⟩ := List.getElem?_eq_some_iff.mp hpi
        obtain ⟨h2, e2⟩ := List.getElem?_eq_some_iff.mp hb
        exact List.pairwise_iff_getElem.mp nd i j h1 h2 (by omega) (by rw [e1, e2, e])
      exact ⟨nbq, o, s1, c, w'.keep b _ nbp hb1, hb2⟩
    · rintro σ H2 _
      exact hq H2
end
end K0
set_option Elab.async false
set_option linter.all false
set_option maxRecDepth 100000
set_option maxHeartbeats 1000000
set_option autoImplicit false
namespace K0
open PySem L2 DL MK
abbrev s_BadMark___init__ : Stmt := inClass (top 3) 0
abbrev s_BadStore___init__ : Stmt := inClass (top 4) 0
abbrev s_BadNumber___init__ : Stmt := inClass (top 5) 0

theorem all_mk {l : PySem.W.OpenLaw} {w : World} {K : PySem.W.Frag} {h : Heap} {mg : Str → Option Value} {fa C : Addr} {f0 : Addr} {od0 an0 : Option Addr} {sl0 : Array (Option Value)} {oc0 kV0 dc0 pm0 cd0 ct0 : Value}
    {f1 : Addr} {od1 an1 : Option Addr} {sl1 : Array (Option Value)} {oc1 kV1 dc1 pm1 cd1 ct1 : Value}
    {f2 : Addr} {od2 an2 : Option Addr} {sl2 : Array (Option Value)} {oc2 kV2 dc2 pm2 cd2 ct2 : Value}
    {f3 : Addr} {od3 an3 : Option Addr} {sl3 : Array (Option Value)} {oc3 kV3 dc3 pm3 cd3 ct3 : Value}
    {f4 : Addr} {od4 an4 : Option Addr} {sl4 : Array (Option Value)} {oc4 kV4 dc4 pm4 cd4 ct4 : Value}
    {f5 : Addr} {od5 an5 : Option Addr} {sl5 : Array (Option Value)} {oc5 kV5 dc5 pm5 cd5 ct5 : Value}
    {f6 : Addr} {od6 an6 : Option Addr} {sl6 : Array (Option Value)} {oc6 kV6 dc6 pm6 cd6 ct6 : Value}
    {f7 : Addr} {od7 an7 : Option Addr} {sl7 : Array (Option Value)} {oc7 kV7 dc7 pm7 cd7 ct7 : Value}
    {f8 : Addr} {od8 an8 : Option Addr} {sl8 : Array (Option Value)} {oc8 kV8 dc8 pm8 cd8 ct8 : Value}
    {f9 : Addr} {od9 an9 : Option Addr} {sl9 : Array (Option Value)} {oc9 kV9 dc9 pm9 cd9 ct9 : Value}
    {f10 : Addr} {od10 an10 : Option Addr} {sl10 : Array (Option Value)} {oc10 kV10 dc10 pm10 cd10 ct10 : Value}
    {f11 : Addr} {od11 an11 : Option Addr} {sl11 : Array (Option Value)} {oc11 kV11 dc11 pm11 cd11 ct11 : Value}
    {f12 : Addr} {od12 an12 : Option Addr} {sl12 : Array (Option Value)} {oc12 kV12 dc12 pm12 cd12 ct12 : Value}
    {f13 : Addr} {od13 an13 : Option Addr} {sl13 : Array (Option Value)} {oc13 kV13 dc13 pm13 cd13 ct13 : Value}
    {f14 : Addr} {od14 an14 : Option Addr} {sl14 : Array (Option Value)} {oc14 kV14 dc14 pm14 cd14 ct14 : Value}
    {f15 : Addr} {od15 an15 : Option Addr} {sl15 : Array (Option Value)} {oc15 kV15 dc15 pm15 cd15 ct15 : Value}
    {f16 : Addr} {od16 an16 : Option Addr} {sl16 : Array (Option Value)} {oc16 kV16 dc16 pm16 cd16 ct16 : Value}
    {f17 : Addr} {od17 an17 : Option Addr} {sl17 : Array (Option Value)} {oc17 kV17 dc17 pm17 cd17 ct17 : Value}
    {f18 : Addr} {od18 an18 : Option Addr} {sl18 : Array (Option Value)} {oc18 kV18 dc18 pm18 cd18 ct18 : Value}
    {f19 : Addr} {od19 an19 : Option Addr} {sl19 : Array (Option Value)} {oc19 kV19 dc19 pm19 cd19 ct19 : Value}
    {f20 : Addr} {od20 an20 : Option Addr} {sl20 : Array (Option Value)} {oc20 kV20 dc20 pm20 cd20 ct20 : Value}
    {f21 : Addr} {od21 an21 : Option Addr} {sl21 : Array (Option Value)} {oc21 kV21 dc21 pm21 cd21 ct21 : Value}
    {f22 : Addr} {od22 an22 : Option Addr} {sl22 : Array (Option Value)} {oc22 kV22 dc22 pm22 cd22 ct22 : Value}
    {f23 : Addr} {od23 an23 : Option Addr} {sl23 : Array (Option Value)} {oc23 kV23 dc23 pm23 cd23 ct23 : Value}
    {g0 : Addr} {mod0 man0 : Option Addr} {msl0 : Array (Option Value)} {moc0 mkV0 mdc0 mpm0 mcd0 mct0 : Value}
    {g1 : Addr} {mod1 man1 : Option Addr} {msl1 : Array (Option Value)} {moc1 mkV1 mdc1 mpm1 mcd1 mct1 : Value}
    {g2 : Addr} {mod2 man2 : Option Addr} {msl2 : Array (Option Value)} {moc2 mkV2 mdc2 mpm2 mcd2 mct2 : Value}
    {g3 : Addr} {mod3 man3 : Option Addr} {msl3 : Array (Option Value)} {moc3 mkV3 mdc3 mpm3 mcd3 mct3 : Value}
    {g4 : Addr} {mod4 man4 : Option Addr} {msl4 : Array (Option Value)} {moc4 mkV4 mdc4 mpm4 mcd4 mct4 : Value}
    {g5 : Addr} {mod5 man5 : Option Addr} {msl5 : Array (Option Value)} {moc5 mkV5 mdc5 mpm5 mcd5 mct5 : Value}
    {aT aE : Addr} {oT oE : Obj} {nT nE : Nat} {u1 u2 : Value} {aw : Addr} {ow : Obj} {itw : Array Value} {nw : Nat}
    {cn cq : Str} {cN : Addr} {cbs : List Value} {chd : Bool} {csn : List Str} {csub : List Value} {cab : Bool} {ccol : Option Bool} {cdd : Option Addr} {ck0 ck1 ck2 ck3 ck5 : Option Value} {cnew : String}
    {noc : Value} {nod : Option Addr} {nes : Array DictEntry} {nep : Nat} {nsl : Array (Option Value)}
    {cM : Addr} {cMnm cMq : Str} {cMN : Addr} {cMbs cMbm : List Value} {cMsn : List Str} {cMsub : List Value} {cMab : Bool} {cMcol : Option Bool} {cMdd : Option Addr} {cMk0 cMk1 cMk2 cMk3 cMk5 : Option Value}
    {xBadMark xBadMarkf xBadMarkc xBadMarkk : Addr} {xBadMarkod xBadMarkan xBadMarkcld xBadMarkcdd : Option Addr} {xBadMarksl xBadMarkcsl xBadMarkccs : Array (Option Value)} {xBadMarkoc xBadMarkkV xBadMarkdc xBadMarkpm xBadMarkct xBadMarkcl xBadMarkccl : Value} {xBadMarkvs : Array Value} {xBadMarkfile : Str} {xBadMarktf : Tok}
    {xBadMarknm xBadMarkq : Str} {xBadMarkN : Addr} {xBadMarkbs xBadMarkbm : List Value} {xBadMarksn : List Str} {xBadMarksub : List Value} {xBadMarkab : Bool} {xBadMarkcol : Option Bool} {xBadMarkdd : Option Addr} {xBadMarkk0 xBadMarkk1 xBadMarkk2 xBadMarkk3 xBadMarkk5 : Option Value}
    {xBadStore xBadStoref xBadStorec xBadStorek : Addr} {xBadStoreod xBadStorean xBadStorecld xBadStorecdd : Option Addr} {xBadStoresl xBadStorecsl xBadStoreccs : Array (Option Value)} {xBadStoreoc xBadStorekV xBadStoredc xBadStorepm xBadStorect xBadStorecl xBadStoreccl : Value} {xBadStorevs : Array Value} {xBadStorefile : Str} {xBadStoretf : Tok}
    {xBadStorenm xBadStoreq : Str} {xBadStoreN : Addr} {xBadStorebs xBadStorebm : List Value} {xBadStoresn : List Str} {xBadStoresub : List Value} {xBadStoreab : Bool} {xBadStorecol : Option Bool} {xBadStoredd : Option Addr} {xBadStorek0 xBadStorek1 xBadStorek2 xBadStorek3 xBadStorek5 : Option Value}
    {xBadNumber xBadNumberf xBadNumberc xBadNumberk : Addr} {xBadNumberod xBadNumberan xBadNumbercld xBadNumbercdd : Option Addr} {xBadNumbersl xBadNumbercsl xBadNumberccs : Array (Option Value)} {xBadNumberoc xBadNumberkV xBadNumberdc xBadNumberpm xBadNumberct xBadNumbercl xBadNumberccl : Value} {xBadNumbervs : Array Value} {xBadNumberfile : Str} {xBadNumbertf : Tok}
    {xBadNumbernm xBadNumberq : Str} {xBadNumberN : Addr} {xBadNumberbs xBadNumberbm : List Value} {xBadNumbersn : List Str} {xBadNumbersub : List Value} {xBadNumberab : Bool} {xBadNumbercol : Option Bool} {xBadNumberdd : Option Addr} {xBadNumberk0 xBadNumberk1 xBadNumberk2 xBadNumberk3 xBadNumberk5 : Option Value} (X : K.In h) (G : h.Ns mainGlobals mg) (hfa : mg "law" = some (.ref fa))
    (aC : PySem.W.nsIn K mainGlobals "Mark" = some (some (.ref C)))
    (a0 : PySem.W.nsIn K mainGlobals "is_integer" = some (some (.ref f0)))
    (l0 : K.lookup f0 = some ⟨oc0, od0, .func (PySem.W.fnOf "is_integer" "is_integer" (defArgs s_is_integer) (defBody s_is_integer) (defScope s_is_integer) .none kV0 dc0 pm0 an0 cd0 ct0), sl0⟩)
    (c0 : PySem.W.codeIn K cd0 "is_integer" = true)
    (k0 : PySem.W.keepIn K (.ref f0) = true)
    (a1 : PySem.W.nsIn K mainGlobals "is_count" = some (some (.ref f1)))
    (l1 : K.lookup f1 = some ⟨oc1, od1, .func (PySem.W.fnOf "is_count" "is_count" (defArgs s_is_count) (defBody s_is_count) (defScope s_is_count) .none kV1 dc1 pm1 an1 cd1 ct1), sl1⟩)
    (c1 : PySem.W.codeIn K cd1 "is_count" = true)
    (k1 : PySem.W.keepIn K (.ref f1) = true)
    (a2 : PySem.W.nsIn K mainGlobals "is_name" = some (some (.ref f2)))
    (l2 : K.lookup f2 = some ⟨oc2, od2, .func (PySem.W.fnOf "is_name" "is_name" (defArgs s_is_name) (defBody s_is_name) (defScope s_is_name) .none kV2 dc2 pm2 an2 cd2 ct2), sl2⟩)
    (c2 : PySem.W.codeIn K cd2 "is_name" = true)
    (k2 : PySem.W.keepIn K (.ref f2) = true)
    (a3 : PySem.W.nsIn K mainGlobals "is_tuple_of" = some (some (.ref f3)))
    (l3 : K.lookup f3 = some ⟨oc3, od3, .func (PySem.W.fnOf "is_tuple_of" "is_tuple_of" (defArgs s_is_tuple_of) (defBody s_is_tuple_of) (defScope s_is_tuple_of) .none kV3 dc3 pm3 an3 cd3 ct3), sl3⟩)
    (c3 : PySem.W.codeIn K cd3 "is_tuple_of" = true)
    (k3 : PySem.W.keepIn K (.ref f3) = true)
    (a4 : PySem.W.nsIn K mainGlobals "pairs_in" = some (some (.ref f4)))
    (l4 : K.lookup f4 = some ⟨oc4, od4, .func (PySem.W.fnOf "pairs_in" "pairs_in" (defArgs s_pairs_in) (defBody s_pairs_in) (defScope s_pairs_in) .none kV4 dc4 pm4 an4 cd4 ct4), sl4⟩)
    (c4 : PySem.W.codeIn K cd4 "pairs_in" = true)
    (k4 : PySem.W.keepIn K (.ref f4) = true)
    (a5 : PySem.W.nsIn K mainGlobals "_law_pot" = some (some (.ref f5)))
    (l5 : K.lookup f5 = some ⟨oc5, od5, .func (PySem.W.fnOf "_law_pot" "_law_pot" (defArgs s__law_pot) (defBody s__law_pot) (defScope s__law_pot) .none kV5 dc5 pm5 an5 cd5 ct5), sl5⟩)
    (c5 : PySem.W.codeIn K cd5 "_law_pot" = true)
    (k5 : PySem.W.keepIn K (.ref f5) = true)
    (a6 : PySem.W.nsIn K mainGlobals "_law_pots" = some (some (.ref f6)))
    (l6 : K.lookup f6 = some ⟨oc6, od6, .func (PySem.W.fnOf "_law_pots" "_law_pots" (defArgs s__law_pots) (defBody s__law_pots) (defScope s__law_pots) .none kV6 dc6 pm6 an6 cd6 ct6), sl6⟩)
    (c6 : PySem.W.codeIn K cd6 "_law_pots" = true)
    (k6 : PySem.W.keepIn K (.ref f6) = true)
    (a7 : PySem.W.nsIn K mainGlobals "_law_take" = some (some (.ref f7)))
    (l7 : K.lookup f7 = some ⟨oc7, od7, .func (PySem.W.fnOf "_law_take" "_law_take" (defArgs s__law_take) (defBody s__law_take) (defScope s__law_take) .none kV7 dc7 pm7 an7 cd7 ct7), sl7⟩)
    (c7 : PySem.W.codeIn K cd7 "_law_take" = true)
    (k7 : PySem.W.keepIn K (.ref f7) = true)
    (a8 : PySem.W.nsIn K mainGlobals "_law_of" = some (some (.ref f8)))
    (l8 : K.lookup f8 = some ⟨oc8, od8, .func (PySem.W.fnOf "_law_of" "_law_of" (defArgs s__law_of) (defBody s__law_of) (defScope s__law_of) .none kV8 dc8 pm8 an8 cd8 ct8), sl8⟩)
    (c8 : PySem.W.codeIn K cd8 "_law_of" = true)
    (k8 : PySem.W.keepIn K (.ref f8) = true)
    (a9 : PySem.W.nsIn K mainGlobals "_law_turned" = some (some (.ref f9)))
    (l9 : K.lookup f9 = some ⟨oc9, od9, .func (PySem.W.fnOf "_law_turned" "_law_turned" (defArgs s__law_turned) (defBody s__law_turned) (defScope s__law_turned) .none kV9 dc9 pm9 an9 cd9 ct9), sl9⟩)
    (c9 : PySem.W.codeIn K cd9 "_law_turned" = true)
    (k9 : PySem.W.keepIn K (.ref f9) = true)
    (a10 : PySem.W.nsIn K mainGlobals "_law_names" = some (some (.ref f10)))
    (l10 : K.lookup f10 = some ⟨oc10, od10, .func (PySem.W.fnOf "_law_names" "_law_names" (defArgs s__law_names) (defBody s__law_names) (defScope s__law_names) .none kV10 dc10 pm10 an10 cd10 ct10), sl10⟩)
    (c10 : PySem.W.codeIn K cd10 "_law_names" = true)
    (k10 : PySem.W.keepIn K (.ref f10) = true)
    (a11 : PySem.W.nsIn K mainGlobals "_law_figure" = some (some (.ref f11)))
    (l11 : K.lookup f11 = some ⟨oc11, od11, .func (PySem.W.fnOf "_law_figure" "_law_figure" (defArgs s__law_figure) (defBody s__law_figure) (defScope s__law_figure) .none kV11 dc11 pm11 an11 cd11 ct11), sl11⟩)
    (c11 : PySem.W.codeIn K cd11 "_law_figure" = true)
    (k11 : PySem.W.keepIn K (.ref f11) = true)
    (a12 : PySem.W.nsIn K mainGlobals "_law_pairs" = some (some (.ref f12)))
    (l12 : K.lookup f12 = some ⟨oc12, od12, .func (PySem.W.fnOf "_law_pairs" "_law_pairs" (defArgs s__law_pairs) (defBody s__law_pairs) (defScope s__law_pairs) .none kV12 dc12 pm12 an12 cd12 ct12), sl12⟩)
    (c12 : PySem.W.codeIn K cd12 "_law_pairs" = true)
    (k12 : PySem.W.keepIn K (.ref f12) = true)
    (a13 : PySem.W.nsIn K mainGlobals "_law_due" = some (some (.ref f13)))
    (l13 : K.lookup f13 = some ⟨oc13, od13, .func (PySem.W.fnOf "_law_due" "_law_due" (defArgs s__law_due) (defBody s__law_due) (defScope s__law_due) .none kV13 dc13 pm13 an13 cd13 ct13), sl13⟩)
    (c13 : PySem.W.codeIn K cd13 "_law_due" = true)
    (k13 : PySem.W.keepIn K (.ref f13) = true)
    (a14 : PySem.W.nsIn K mainGlobals "_law_is_count" = some (some (.ref f14)))
    (l14 : K.lookup f14 = some ⟨oc14, od14, .func (PySem.W.fnOf "_law_is_count" "_law_is_count" (defArgs s__law_is_count) (defBody s__law_is_count) (defScope s__law_is_count) .none kV14 dc14 pm14 an14 cd14 ct14), sl14⟩)
    (c14 : PySem.W.codeIn K cd14 "_law_is_count" = true)
    (k14 : PySem.W.keepIn K (.ref f14) = true)
    (a15 : PySem.W.nsIn K mainGlobals "_law_is_name" = some (some (.ref f15)))
    (l15 : K.lookup f15 = some ⟨oc15, od15, .func (PySem.W.fnOf "_law_is_name" "_law_is_name" (defArgs s__law_is_name) (defBody s__law_is_name) (defScope s__law_is_name) .none kV15 dc15 pm15 an15 cd15 ct15), sl15⟩)
    (c15 : PySem.W.codeIn K cd15 "_law_is_name" = true)
    (k15 : PySem.W.keepIn K (.ref f15) = true)
    (a16 : PySem.W.nsIn K mainGlobals "_law_odd_thing" = some (some (.ref f16)))
    (l16 : K.lookup f16 = some ⟨oc16, od16, .func (PySem.W.fnOf "_law_odd_thing" "_law_odd_thing" (defArgs s__law_odd_thing) (defBody s__law_odd_thing) (defScope s__law_odd_thing) .none kV16 dc16 pm16 an16 cd16 ct16), sl16⟩)
    (c16 : PySem.W.codeIn K cd16 "_law_odd_thing" = true)
    (k16 : PySem.W.keepIn K (.ref f16) = true)
    (a17 : PySem.W.nsIn K mainGlobals "_law_is_numbers" = some (some (.ref f17)))
    (l17 : K.lookup f17 = some ⟨oc17, od17, .func (PySem.W.fnOf "_law_is_numbers" "_law_is_numbers" (defArgs s__law_is_numbers) (defBody s__law_is_numbers) (defScope s__law_is_numbers) .none kV17 dc17 pm17 an17 cd17 ct17), sl17⟩)
    (c17 : PySem.W.codeIn K cd17 "_law_is_numbers" = true)
    (k17 : PySem.W.keepIn K (.ref f17) = true)
    (a18 : PySem.W.nsIn K mainGlobals "_law_fits" = some (some (.ref f18)))
    (l18 : K.lookup f18 = some ⟨oc18, od18, .func (PySem.W.fnOf "_law_fits" "_law_fits" (defArgs s__law_fits) (defBody s__law_fits) (defScope s__law_fits) .none kV18 dc18 pm18 an18 cd18 ct18), sl18⟩)
    (c18 : PySem.W.codeIn K cd18 "_law_fits" = true)
    (k18 : PySem.W.keepIn K (.ref f18) = true)
    (a19 : PySem.W.nsIn K mainGlobals "_law_fine" = some (some (.ref f19)))
    (l19 : K.lookup f19 = some ⟨oc19, od19, .func (PySem.W.fnOf "_law_fine" "_law_fine" (defArgs s__law_fine) (defBody s__law_fine) (defScope s__law_fine) .none kV19 dc19 pm19 an19 cd19 ct19), sl19⟩)
    (c19 : PySem.W.codeIn K cd19 "_law_fine" = true)
    (k19 : PySem.W.keepIn K (.ref f19) = true)
    (a20 : PySem.W.nsIn K mainGlobals "_law_spoilt_numbers" = some (some (.ref f20)))
    (l20 : K.lookup f20 = some ⟨oc20, od20, .func (PySem.W.fnOf "_law_spoilt_numbers" "_law_spoilt_numbers" (defArgs s__law_spoilt_numbers) (defBody s__law_spoilt_numbers) (defScope s__law_spoilt_numbers) .none kV20 dc20 pm20 an20 cd20 ct20), sl20⟩)
    (c20 : PySem.W.codeIn K cd20 "_law_spoilt_numbers" = true)
    (k20 : PySem.W.keepIn K (.ref f20) = true)
    (a21 : PySem.W.nsIn K mainGlobals "_law_heard" = some (some (.ref f21)))
    (l21 : K.lookup f21 = some ⟨oc21, od21, .func (PySem.W.fnOf "_law_heard" "_law_heard" (defArgs s__law_heard) (defBody s__law_heard) (defScope s__law_heard) .none kV21 dc21 pm21 an21 cd21 ct21), sl21⟩)
    (c21 : PySem.W.codeIn K cd21 "_law_heard" = true)
    (k21 : PySem.W.keepIn K (.ref f21) = true)
    (a22 : PySem.W.nsIn K mainGlobals "_law_judged" = some (some (.ref f22)))
    (l22 : K.lookup f22 = some ⟨oc22, od22, .func (PySem.W.fnOf "_law_judged" "_law_judged" (defArgs s__law_judged) (defBody s__law_judged) (defScope s__law_judged) .none kV22 dc22 pm22 an22 cd22 ct22), sl22⟩)
    (c22 : PySem.W.codeIn K cd22 "_law_judged" = true)
    (k22 : PySem.W.keepIn K (.ref f22) = true)
    (a23 : PySem.W.nsIn K mainGlobals "law" = some (some (.ref f23)))
    (l23 : K.lookup f23 = some ⟨oc23, od23, .func (PySem.W.fnOf "law" "law" (defArgs s_law) (defBody s_law) (defScope s_law) .none kV23 dc23 pm23 an23 cd23 ct23), sl23⟩)
    (c23 : PySem.W.codeIn K cd23 "law" = true)
    (k23 : PySem.W.keepIn K (.ref f23) = true)
    (ma0 : PySem.W.findIn K (.ref C) "__init__" = some (some (.ref g0)))
    (mi0 : PySem.W.isFn K (.ref g0) = true)
    (ml0 : K.lookup g0 = some ⟨moc0, mod0, .func (PySem.W.fnOf "__init__" "Mark.__init__" (defArgs s_Mark___init__) (defBody s_Mark___init__) (defScope s_Mark___init__) (.ref aT) mkV0 mdc0 mpm0 man0 mcd0 mct0), msl0⟩)
    (mc0 : PySem.W.codeIn K mcd0 "Mark.__init__" = true)
    (mk0 : PySem.W.keepIn K (.ref g0) = true)
    (ma1 : PySem.W.findIn K (.ref C) "__getitem__" = some (some (.ref g1)))
    (mi1 : PySem.W.isFn K (.ref g1) = true)
    (ml1 : K.lookup g1 = some ⟨moc1, mod1, .func (PySem.W.fnOf "__getitem__" "Mark.__getitem__" (defArgs s_Mark___getitem__) (defBody s_Mark___getitem__) (defScope s_Mark___getitem__) .none mkV1 mdc1 mpm1 man1 mcd1 mct1), msl1⟩)
    (mc1 : PySem.W.codeIn K mcd1 "Mark.__getitem__" = true)
    (mk1 : PySem.W.keepIn K (.ref g1) = true)
    (mn1 : PySem.W.fnIn K g1 = true)
    (ma2 : PySem.W.findIn K (.ref C) "__eq__" = some (some (.ref g2)))
    (mi2 : PySem.W.isFn K (.ref g2) = true)
    (ml2 : K.lookup g2 = some ⟨moc2, mod2, .func (PySem.W.fnOf "__eq__" "Mark.__eq__" (defArgs s_Mark___eq__) (defBody s_Mark___eq__) (defScope s_Mark___eq__) .none mkV2 mdc2 mpm2 man2 mcd2 mct2), msl2⟩)
    (mc2 : PySem.W.codeIn K mcd2 "Mark.__eq__" = true)
    (mk2 : PySem.W.keepIn K (.ref g2) = true)
    (mn2 : PySem.W.fnIn K g2 = true)
    (ma3 : PySem.W.findIn K (.ref C) "__contains__" = some (some (.ref g3)))
    (mi3 : PySem.W.isFn K (.ref g3) = true)
    (ml3 : K.lookup g3 = some ⟨moc3, mod3, .func (PySem.W.fnOf "__contains__" "Mark.__contains__" (defArgs s_Mark___contains__) (defBody s_Mark___contains__) (defScope s_Mark___contains__) .none mkV3 mdc3 mpm3 man3 mcd3 mct3), msl3⟩)
    (mc3 : PySem.W.codeIn K mcd3 "Mark.__contains__" = true)
    (mk3 : PySem.W.keepIn K (.ref g3) = true)
    (mn3 : PySem.W.fnIn K g3 = true)
    (ma4 : PySem.W.findIn K (.ref C) "__len__" = some (some (.ref g4)))
    (mi4 : PySem.W.isFn K (.ref g4) = true)
    (ml4 : K.lookup g4 = some ⟨moc4, mod4, .func (PySem.W.fnOf "__len__" "Mark.__len__" (defArgs s_Mark___len__) (defBody s_Mark___len__) (defScope s_Mark___len__) .none mkV4 mdc4 mpm4 man4 mcd4 mct4), msl4⟩)
    (mc4 : PySem.W.codeIn K mcd4 "Mark.__len__" = true)
    (mk4 : PySem.W.keepIn K (.ref g4) = true)
    (mn4 : PySem.W.fnIn K g4 = true)
    (ma5 : PySem.W.findIn K (.ref C) "__bool__" = some (some (.ref g5)))
    (mi5 : PySem.W.isFn K (.ref g5) = true)
    (ml5 : K.lookup g5 = some ⟨moc5, mod5, .func (PySem.W.fnOf "__bool__" "Mark.__bool__" (defArgs s_Mark___bool__) (defBody s_Mark___bool__) (defScope s_Mark___bool__) .none mkV5 mdc5 mpm5 man5 mcd5 mct5), msl5⟩)
    (mc5 : PySem.W.codeIn K mcd5 "Mark.__bool__" = true)
    (mk5 : PySem.W.keepIn K (.ref g5) = true)
    (mn5 : PySem.W.fnIn K g5 = true)
    (z0 : PySem.W.nsIn K mainGlobals "isinstance" = some none)
    (z1 : PySem.W.nsIn K mainGlobals "int" = some none)
    (z2 : PySem.W.nsIn K mainGlobals "bool" = some none)
    (z3 : PySem.W.nsIn K mainGlobals "str" = some none)
    (z4 : PySem.W.nsIn K mainGlobals "tuple" = some none)
    (z5 : PySem.W.nsIn K mainGlobals "list" = some none)
    (z6 : PySem.W.nsIn K mainGlobals "dict" = some none)
    (z7 : PySem.W.nsIn K mainGlobals "set" = some none)
    (z8 : PySem.W.nsIn K mainGlobals "len" = some none)
    (z9 : PySem.W.nsIn K mainGlobals "all" = some none)
    (z10 : PySem.W.nsIn K mainGlobals "any" = some none)
    (z11 : PySem.W.nsIn K mainGlobals "max" = some none)
    (z12 : PySem.W.nsIn K mainGlobals "min" = some none)
    (z13 : PySem.W.nsIn K mainGlobals "sorted" = some none)
    (z14 : PySem.W.nsIn K mainGlobals "range" = some none)
    (z15 : PySem.W.nsIn K mainGlobals "abs" = some none)
    (z16 : PySem.W.nsIn K mainGlobals "repr" = some none)
    (z17 : PySem.W.nsIn K mainGlobals "ValueError" = some none)
    (gl1 : PySem.W.nsIn K mainGlobals "LETTERS" = some (some u1))
    (gl2 : PySem.W.nsIn K mainGlobals "LONGEST_NAME" = some (some u2))
    (gl3 : PySem.W.nsIn K mainGlobals "WORDS" = some (some (.ref aw)))
    (lT : K.lookup aT = some oT)
    (lw : K.lookup aw = some ow)
    (pg : PySem.W.plainGet K C Str.empty = true)
    (hd : PySem.W.hasDictIn K C = true)
    (po : PySem.W.plainOver K C = true)
    (sa : PySem.W.findIn K (.ref C) "__setattr__" = some (some (.builtin "object.__setattr__")))
    (mkc : PySem.W.makesIn K C = true)
    (kc : PySem.W.keepIn K (.ref C) = true)
    (sf : PySem.W.selfFirst K C = true)
    (nN : PySem.W.findIn K (.ref C) "numbers" = some none)
    (i1 : PySem.W.findIn K (.ref C) "__class__" = some (some (.builtin "object.__class__")))
    (i2 : PySem.W.specialIn K (.builtin "object.__class__") "__get__" = some (some (.builtin "getset_descriptor.__get__")))
    (i3 : PySem.W.takesIn K (.builtin "object.__class__") = some true)
    (i4 : PySem.W.mroIn K C (.type "object") = some true)
    (no0 : PySem.W.subIn K (.ref C) (.type "int") = some false)
    (no1 : PySem.W.subIn K (.ref C) (.type "bool") = some false)
    (no2 : PySem.W.subIn K (.ref C) (.type "str") = some false)
    (no3 : PySem.W.subIn K (.ref C) (.type "tuple") = some false)
    (no4 : PySem.W.subIn K (.ref C) (.type "list") = some false)
    (no5 : PySem.W.subIn K (.ref C) (.type "dict") = some false)
    (nt0 : PySem.W.subIn K (.type "NoneType") (.ref C) = some false)
    (nt1 : PySem.W.subIn K (.type "int") (.ref C) = some false)
    (nt2 : PySem.W.subIn K (.type "bool") (.ref C) = some false)
    (nt3 : PySem.W.subIn K (.type "str") (.ref C) = some false)
    (nt4 : PySem.W.subIn K (.type "tuple") (.ref C) = some false)
    (nt5 : PySem.W.subIn K (.type "list") (.ref C) = some false)
    (nt6 : PySem.W.subIn K (.type "dict") (.ref C) = some false)
    (lc : K.lookup C = some (excClassObj cn cq C cN cbs [.type "object"] chd csn csub cab ccol cdd ck0 ck1 ck2 ck3 ck5 cnew))
    (nk0 : K.lookup cN = some ⟨noc, nod, .dict nes nep, nsl⟩)
    (ne1 : PySem.W.nsIn K cN "__eq__" = some (some (.ref g2)))
    (ne2 : PySem.W.nsIn K cN "__ne__" = some none)
    (niOr : PySem.W.findIn K (.ref C) (PySem.dunderI (Operator.BitOr).info.2) = some none)
    (noOr : PySem.W.findIn K (.type "object") (PySem.dunderI (Operator.BitOr).info.2) = some none)
    (niAnd : PySem.W.findIn K (.ref C) (PySem.dunderI (Operator.BitAnd).info.2) = some none)
    (noAnd : PySem.W.findIn K (.type "object") (PySem.dunderI (Operator.BitAnd).info.2) = some none)
    (niSub : PySem.W.findIn K (.ref C) (PySem.dunderI (Operator.Sub).info.2) = some none)
    (noSub : PySem.W.findIn K (.type "object") (PySem.dunderI (Operator.Sub).info.2) = some none)
    (xM : PySem.W.nsIn K mainGlobals "MarkError" = some (some (.ref cM)))
    (xMl : K.lookup cM = some (excClassObj cMnm cMq cM cMN cMbs cMbm true cMsn cMsub cMab cMcol cMdd cMk0 cMk1 cMk2 cMk3 cMk5 "ValueError.__new__"))
    (xMi : PySem.W.findIn K (.ref cM) "__init__" = some (some (.builtin "ValueError.__init__")))
    (xMs : PySem.W.subIn K (.ref cM) (.type "BaseException") = some true)
    (xMd : PySem.W.hasDictIn K cM = true)
    (xMt : PySem.W.typeIn K (.ref cM) = some (.type "type"))
    (xsu : PySem.W.nsIn K mainGlobals "super" = some none)
    (xan : PySem.W.nsIn K PySem.cStatics "thirdparty.any" = some none)
    (xtop : (l.prog.main.scope.names.lookup ("super" : Str)).isSome = false)
    (xBadMarka : PySem.W.nsIn K mainGlobals "BadMark" = some (some (.ref xBadMark)))
    (xBadMarkl : K.lookup xBadMark = some (excClassObj xBadMarknm xBadMarkq xBadMark xBadMarkN xBadMarkbs xBadMarkbm true xBadMarksn xBadMarksub xBadMarkab xBadMarkcol xBadMarkdd xBadMarkk0 xBadMarkk1 xBadMarkk2 xBadMarkk3 xBadMarkk5 "ValueError.__new__"))
    (xBadMarksa : PySem.W.findIn K (.ref xBadMark) "__setattr__" = some (some (.builtin "object.__setattr__")))
    (xBadMarkex : PySem.W.subIn K (.ref xBadMark) (.type "BaseException") = some true)
    (xBadMarkty : PySem.W.typeIn K (.ref xBadMark) = some (.type "type"))
    (xBadMarkkp : PySem.W.keepIn K (.ref xBadMark) = true)
    (xBadMarkin : PySem.W.findIn K (.ref xBadMark) "__init__" = some (some (.ref xBadMarkf)))
    (xBadMarkft : PySem.W.typeIn K (.ref xBadMarkf) = some (.type "function"))
    (xBadMarkfl : K.lookup xBadMarkf = some ⟨xBadMarkoc, xBadMarkod, .func (PySem.W.ksFn "__init__" "BadMark.__init__" (defArgs s_BadMark___init__) (defBody s_BadMark___init__) (defScope s_BadMark___init__) .none xBadMarkkV xBadMarkdc xBadMarkpm xBadMarkan (.ref xBadMarkk) xBadMarkct xBadMarkc), xBadMarksl⟩)
    (xBadMarkco : PySem.W.codeIn K (.ref xBadMarkk) "BadMark.__init__" = true)
    (xBadMarkce : K.lookup xBadMarkc = some ⟨xBadMarkcl, xBadMarkcld, .cell (some (.ref xBadMark)), xBadMarkcsl⟩)
    (xBadMarkcd : K.lookup xBadMarkk = some ⟨xBadMarkccl, xBadMarkcdd, .fields xBadMarkvs, xBadMarkccs⟩)
    (xBadMarkve : PySem.W.subIn K (.ref xBadMark) (.type "ValueError") = some true)
    (xBadMarkme : PySem.W.mroIn K xBadMark (.ref xBadMark) = some true)
    (xBadMarkno : PySem.W.findIn K (.ref xBadMark) "value" = some none)
    (xBadMarkga : PySem.W.findIn K (.ref xBadMark) "__getattribute__" = some (some (.builtin "BaseException.__getattribute__")))
    (xBadMarkgg : PySem.W.findIn K (.ref xBadMark) "__getattr__" = some none)
    (xBadMarkhd : PySem.W.hasDictIn K xBadMark = true)
    (xBadMarkcc : PySem.W.findIn K (.ref xBadMark) "__class__" = some (some (.builtin "object.__class__")))
    (xBadMarkob : PySem.W.mroIn K xBadMark (.type "object") = some true)
    (xBadMarkmm : PySem.W.subIn K (.ref xBadMark) (.ref cM) = some true)
    (xBadMarkr1 : PySem.HandSPX.refsVE xBadMarkbm = true)
    (xBadMarkr2 : xBadMarkvs[2]? = some (.str xBadMarkfile xBadMarktf))
    (xBadMarkr3 : ((l.prog.main.file : Str) == xBadMarkfile) = true)
    (xBadStorea : PySem.W.nsIn K mainGlobals "BadStore" = some (some (.ref xBadStore)))
    (xBadStorel : K.lookup xBadStore = some (excClassObj xBadStorenm xBadStoreq xBadStore xBadStoreN xBadStorebs xBadStorebm true xBadStoresn xBadStoresub xBadStoreab xBadStorecol xBadStoredd xBadStorek0 xBadStorek1 xBadStorek2 xBadStorek3 xBadStorek5 "ValueError.__new__"))
    (xBadStoresa : PySem.W.findIn K (.ref xBadStore) "__setattr__" = some (some (.builtin "object.__setattr__")))
    (xBadStoreex : PySem.W.subIn K (.ref xBadStore) (.type "BaseException") = some true)
    (xBadStorety : PySem.W.typeIn K (.ref xBadStore) = some (.type "type"))
    (xBadStorekp : PySem.W.keepIn K (.ref xBadStore) = true)
    (xBadStorein : PySem.W.findIn K (.ref xBadStore) "__init__" = some (some (.ref xBadStoref)))
    (xBadStoreft : PySem.W.typeIn K (.ref xBadStoref) = some (.type "function"))
    (xBadStorefl : K.lookup xBadStoref = some ⟨xBadStoreoc, xBadStoreod, .func (PySem.W.ksFn "__init__" "BadStore.__init__" (defArgs s_BadStore___init__) (defBody s_BadStore___init__) (defScope s_BadStore___init__) .none xBadStorekV xBadStoredc xBadStorepm xBadStorean (.ref xBadStorek) xBadStorect xBadStorec), xBadStoresl⟩)
    (xBadStoreco : PySem.W.codeIn K (.ref xBadStorek) "BadStore.__init__" = true)
    (xBadStorece : K.lookup xBadStorec = some ⟨xBadStorecl, xBadStorecld, .cell (some (.ref xBadStore)), xBadStorecsl⟩)
    (xBadStorecd : K.lookup xBadStorek = some ⟨xBadStoreccl, xBadStorecdd, .fields xBadStorevs, xBadStoreccs⟩)
    (xBadStoreve : PySem.W.subIn K (.ref xBadStore) (.type "ValueError") = some true)
    (xBadStoreme : PySem.W.mroIn K xBadStore (.ref xBadStore) = some true)
    (xBadStoreno : PySem.W.findIn K (.ref xBadStore) "value" = some none)
    (xBadStorega : PySem.W.findIn K (.ref xBadStore) "__getattribute__" = some (some (.builtin "BaseException.__getattribute__")))
    (xBadStoregg : PySem.W.findIn K (.ref xBadStore) "__getattr__" = some none)
    (xBadStorehd : PySem.W.hasDictIn K xBadStore = true)
    (xBadStorecc : PySem.W.findIn K (.ref xBadStore) "__class__" = some (some (.builtin "object.__class__")))
    (xBadStoreob : PySem.W.mroIn K xBadStore (.type "object") = some true)
    (xBadStoremm : PySem.W.subIn K (.ref xBadStore) (.ref cM) = some true)
    (xBadStorer1 : PySem.HandSPX.refsVE xBadStorebm = true)
    (xBadStorer2 : xBadStorevs[2]? = some (.str xBadStorefile xBadStoretf))
    (xBadStorer3 : ((l.prog.main.file : Str) == xBadStorefile) = true)
    (xBadNumbera : PySem.W.nsIn K mainGlobals "BadNumber" = some (some (.ref xBadNumber)))
    (xBadNumberl : K.lookup xBadNumber = some (excClassObj xBadNumbernm xBadNumberq xBadNumber xBadNumberN xBadNumberbs xBadNumberbm true xBadNumbersn xBadNumbersub xBadNumberab xBadNumbercol xBadNumberdd xBadNumberk0 xBadNumberk1 xBadNumberk2 xBadNumberk3 xBadNumberk5 "ValueError.__new__"))
    (xBadNumbersa : PySem.W.findIn K (.ref xBadNumber) "__setattr__" = some (some (.builtin "object.__setattr__")))
    (xBadNumberex : PySem.W.subIn K (.ref xBadNumber) (.type "BaseException") = some true)
    (xBadNumberty : PySem.W.typeIn K (.ref xBadNumber) = some (.type "type"))
    (xBadNumberkp : PySem.W.keepIn K (.ref xBadNumber) = true)
    (xBadNumberin : PySem.W.findIn K (.ref xBadNumber) "__init__" = some (some (.ref xBadNumberf)))
    (xBadNumberft : PySem.W.typeIn K (.ref xBadNumberf) = some (.type "function"))
    (xBadNumberfl : K.lookup xBadNumberf = some ⟨xBadNumberoc, xBadNumberod, .func (PySem.W.ksFn "__init__" "BadNumber.__init__" (defArgs s_BadNumber___init__) (defBody s_BadNumber___init__) (defScope s_BadNumber___init__) .none xBadNumberkV xBadNumberdc xBadNumberpm xBadNumberan (.ref xBadNumberk) xBadNumberct xBadNumberc), xBadNumbersl⟩)
    (xBadNumberco : PySem.W.codeIn K (.ref xBadNumberk) "BadNumber.__init__" = true)
    (xBadNumberce : K.lookup xBadNumberc = some ⟨xBadNumbercl, xBadNumbercld, .cell (some (.ref xBadNumber)), xBadNumbercsl⟩)
    (xBadNumbercd : K.lookup xBadNumberk = some ⟨xBadNumberccl, xBadNumbercdd, .fields xBadNumbervs, xBadNumberccs⟩)
    (xBadNumberve : PySem.W.subIn K (.ref xBadNumber) (.type "ValueError") = some true)
    (xBadNumberme : PySem.W.mroIn K xBadNumber (.ref xBadNumber) = some true)
    (xBadNumberno : PySem.W.findIn K (.ref xBadNumber) "value" = some none)
    (xBadNumberga : PySem.W.findIn K (.ref xBadNumber) "__getattribute__" = some (some (.builtin "BaseException.__getattribute__")))
    (xBadNumbergg : PySem.W.findIn K (.ref xBadNumber) "__getattr__" = some none)
    (xBadNumberhd : PySem.W.hasDictIn K xBadNumber = true)
    (xBadNumbercc : PySem.W.findIn K (.ref xBadNumber) "__class__" = some (some (.builtin "object.__class__")))
    (xBadNumberob : PySem.W.mroIn K xBadNumber (.type "object") = some true)
    (xBadNumbermm : PySem.W.subIn K (.ref xBadNumber) (.ref cM) = some true)
    (xBadNumberr1 : PySem.HandSPX.refsVE xBadNumberbm = true)
    (xBadNumberr2 : xBadNumbervs[2]? = some (.str xBadNumberfile xBadNumbertf))
    (xBadNumberr3 : ((l.prog.main.file : Str) == xBadNumberfile) = true)
    (xBadMarkr4 : xBadMarkbm = .ref cM :: cMbm)
    (xBadMarknBadStore : PySem.W.subIn K (.ref xBadMark) (.ref xBadStore) = some false)
    (xBadMarkdBadStore : xBadMark ≠ xBadStore)
    (xBadMarknBadNumber : PySem.W.subIn K (.ref xBadMark) (.ref xBadNumber) = some false)
    (xBadMarkdBadNumber : xBadMark ≠ xBadNumber)
    (xBadStorer4 : xBadStorebm = .ref cM :: cMbm)
    (xBadStorenBadMark : PySem.W.subIn K (.ref xBadStore) (.ref xBadMark) = some false)
    (xBadStoredBadMark : xBadStore ≠ xBadMark)
    (xBadStorenBadNumber : PySem.W.subIn K (.ref xBadStore) (.ref xBadNumber) = some false)
    (xBadStoredBadNumber : xBadStore ≠ xBadNumber)
    (xBadNumberr4 : xBadNumberbm = .ref cM :: cMbm)
    (xBadNumbernBadMark : PySem.W.subIn K (.ref xBadNumber) (.ref xBadMark) = some false)
    (xBadNumberdBadMark : xBadNumber ≠ xBadMark)
    (xBadNumbernBadStore : PySem.W.subIn K (.ref xBadNumber) (.ref xBadStore) = some false)
    (xBadNumberdBadStore : xBadNumber ≠ xBadStore)
    (r1 : RelV (.str lettersS) u1) (r2 : RelV (.int 8) u2) (r3 : ow.cls = .type "tuple") (r4 : ow.data = .seq itw nw) (r5 : itw.size ≤ sizeLine) (r6 : Vals (wordsL.map V.str) itw.toList) (r7 : moc2 = .type "function") (r8 : oT.data = .seq #[.ref aE] nT) (r9 : (nes.toList.all fun e => match e.key with | .str _ _ => true | _ => false) = true) (r10 : K.lookup aE = some oE) (r11 : oE.cls = .type "tuple") (r12 : oE.data = .seq #[] nE) :
    ∃ fd : FuncData, (∀ (s : Shared) (v : Value), BindsTo s fd ⟨[v], []⟩ [("_law_script", v)]) ∧ ∀ base : Heap, K.In base → base.Ns mainGlobals mg → base.get? sysModules ≠ none → FnG l.prog w K mg base 9 fa fd ["_law_script"] (spLaw K) := by
  have e := hfa.symm.trans (PySem.W.mg_of X G a23)
  cases e
  have cl : Cls K C := ⟨pg, hd, po, sa⟩
  have bt : Bt mg := ⟨PySem.W.mg_none_of X G z0, PySem.W.mg_none_of X G z1, PySem.W.mg_none_of X G z2, PySem.W.mg_none_of X G z3, PySem.W.mg_none_of X G z4, PySem.W.mg_none_of X G z5, PySem.W.mg_none_of X G z6, PySem.W.mg_none_of X G z7, PySem.W.mg_none_of X G z8, PySem.W.mg_none_of X G z9, PySem.W.mg_none_of X G z10, PySem.W.mg_none_of X G z11, PySem.W.mg_none_of X G z12, PySem.W.mg_none_of X G z13, PySem.W.mg_none_of X G z14⟩
  have hcd : ∃ cd, PySem.W.clsIn K C = some cd ∧ cd.mro = [.ref C, .type "object"] := by
    unfold PySem.W.clsIn
    rw [lc]
    exact ⟨_, rfl, rfl⟩
  have tyC : PySem.W.typeIn K (.ref C) = some (.type "type") := by
    show (List.lookup C K).map (·.cls) = _
    rw [lc]
    rfl
  obtain ⟨cdC, hcC, hmC⟩ := hcd
  have hcd : ∃ cd, PySem.W.clsIn K C = some cd ∧ cd.mro = [.ref C, .type "object"] := ⟨cdC, hcC, hmC⟩
  have isi : Isi K C := ⟨cl, i1, i2, i3, i4, kit_rr, by rintro n (rfl | rfl | rfl | rfl | rfl | rfl) <;> exact kit_rt (by decide +kernel) (by assumption), by rintro n (rfl | rfl | rfl | rfl | rfl | rfl | rfl) <;> exact kit_tr hcC tyC (by assumption)⟩
  have nk : PySem.W.nsOkIn K cN = true := by unfold PySem.W.nsOkIn; rw [nk0]; show nes.all _ = true; rw [← Array.all_toList]; exact r9
  have T : Tx K mg C := ⟨bt, isi, ⟨u1, PySem.W.mg_of X G gl1, r1⟩, ⟨u2, PySem.W.mg_of X G gl2, r2⟩, ⟨aw, ⟨_, PySem.W.mg_of X G gl3, rfl⟩, ow, itw, nw, lw, r3, r4, r5, r6⟩, ⟨_, PySem.W.mg_of X G aC, rfl⟩, cl, nN, ⟨hcd, niOr, noOr⟩, ⟨hcd, niAnd, noAnd⟩, ⟨hcd, niSub, noSub⟩⟩
  have F0 := fun_mk (st := s_is_integer) l0 c0 k0
  have b0 := F0.binds (ps := ["value"]) fun _ _ _ _ _ _ us hl => match us, hl with | [_], _ => rfl
  have D0 : DefAt K mg "is_integer" s_is_integer ["value"] := ⟨f0, _, F0, PySem.W.mg_of X G a0, k0, b0⟩
  have F1 := fun_mk (st := s_is_count) l1 c1 k1
  have b1 := F1.binds (ps := ["value"]) fun _ _ _ _ _ _ us hl => match us, hl with | [_], _ => rfl
  have D1 : DefAt K mg "is_count" s_is_count ["value"] := ⟨f1, _, F1, PySem.W.mg_of X G a1, k1, b1⟩
  have F2 := fun_mk (st := s_is_name) l2 c2 k2
  have b2 := F2.binds (ps := ["value"]) fun _ _ _ _ _ _ us hl => match us, hl with | [_], _ => rfl
  have D2 : DefAt K mg "is_name" s_is_name ["value"] := ⟨f2, _, F2, PySem.W.mg_of X G a2, k2, b2⟩
  have F3 := fun_mk (st := s_is_tuple_of) l3 c3 k3
  have b3 := F3.binds (ps := ["value", "many"]) fun _ _ _ _ _ _ us hl => match us, hl with | [_, _], _ => rfl
  have D3 : DefAt K mg "is_tuple_of" s_is_tuple_of ["value", "many"] := ⟨f3, _, F3, PySem.W.mg_of X G a3, k3, b3⟩
  have F4 := fun_mk (st := s_pairs_in) l4 c4 k4
  have b4 := F4.binds (ps := ["value"]) fun _ _ _ _ _ _ us hl => match us, hl with | [_], _ => rfl
  have D4 : DefAt K mg "pairs_in" s_pairs_in ["value"] := ⟨f4, _, F4, PySem.W.mg_of X G a4, k4, b4⟩
  have F5 := fun_mk (st := s__law_pot) l5 c5 k5
  have b5 := F5.binds (ps := ["_law_script", "_law_k"]) fun _ _ _ _ _ _ us hl => match us, hl with | [_, _], _ => rfl
  have D5 : DefAt K mg "_law_pot" s__law_pot ["_law_script", "_law_k"] := ⟨f5, _, F5, PySem.W.mg_of X G a5, k5, b5⟩
  have F6 := fun_mk (st := s__law_pots) l6 c6 k6
  have b6 := F6.binds (ps := ["_law_script", "_law_most"]) fun _ _ _ _ _ _ us hl => match us, hl with | [_, _], _ => rfl
  have D6 : DefAt K mg "_law_pots" s__law_pots ["_law_script", "_law_most"] := ⟨f6, _, F6, PySem.W.mg_of X G a6, k6, b6⟩
  have F7 := fun_mk (st := s__law_take) l7 c7 k7
  have b7 := F7.binds (ps := ["_law_pot_here", "_law_upto"]) fun _ _ _ _ _ _ us hl => match us, hl with | [_, _], _ => rfl
  have D7 : DefAt K mg "_law_take" s__law_take ["_law_pot_here", "_law_upto"] := ⟨f7, _, F7, PySem.W.mg_of X G a7, k7, b7⟩
  have F8 := fun_mk (st := s__law_of) l8 c8 k8
  have b8 := F8.binds (ps := ["_law_pot_here", "_law_some"]) fun _ _ _ _ _ _ us hl => match us, hl with | [_, _], _ => rfl
  have D8 : DefAt K mg "_law_of" s__law_of ["_law_pot_here", "_law_some"] := ⟨f8, _, F8, PySem.W.mg_of X G a8, k8, b8⟩
  have F9 := fun_mk (st := s__law_turned) l9 c9 k9
  have b9 := F9.binds (ps := ["_law_pot_here", "_law_some"]) fun _ _ _ _ _ _ us hl => match us, hl with | [_, _], _ => rfl
  have D9 : DefAt K mg "_law_turned" s__law_turned ["_law_pot_here", "_law_some"] := ⟨f9, _, F9, PySem.W.mg_of X G a9, k9, b9⟩
  have F10 := fun_mk (st := s__law_names) l10 c10 k10
  have b10 := F10.binds (ps := ["_law_pot_here", "_law_many"]) fun _ _ _ _ _ _ us hl => match us, hl with | [_, _], _ => rfl
  have D10 : DefAt K mg "_law_names" s__law_names ["_law_pot_here", "_law_many"] := ⟨f10, _, F10, PySem.W.mg_of X G a10, k10, b10⟩
  have F11 := fun_mk (st := s__law_figure) l11 c11 k11
  have b11 := F11.binds (ps := ["_law_pot_here"]) fun _ _ _ _ _ _ us hl => match us, hl with | [_], _ => rfl
  have D11 : DefAt K mg "_law_figure" s__law_figure ["_law_pot_here"] := ⟨f11, _, F11, PySem.W.mg_of X G a11, k11, b11⟩
  have F12 := fun_mk (st := s__law_pairs) l12 c12 k12
  have b12 := F12.binds (ps := ["_law_pot_here", "_law_names_here"]) fun _ _ _ _ _ _ us hl => match us, hl with | [_, _], _ => rfl
  have D12 : DefAt K mg "_law_pairs" s__law_pairs ["_law_pot_here", "_law_names_here"] := ⟨f12, _, F12, PySem.W.mg_of X G a12, k12, b12⟩
  have F13 := fun_mk (st := s__law_due) l13 c13 k13
  have b13 := F13.binds (ps := ["_law_pairs_here"]) fun _ _ _ _ _ _ us hl => match us, hl with | [_], _ => rfl
  have D13 : DefAt K mg "_law_due" s__law_due ["_law_pairs_here"] := ⟨f13, _, F13, PySem.W.mg_of X G a13, k13, b13⟩
  have F14 := fun_mk (st := s__law_is_count) l14 c14 k14
  have b14 := F14.binds (ps := ["_law_value"]) fun _ _ _ _ _ _ us hl => match us, hl with | [_], _ => rfl
  have D14 : DefAt K mg "_law_is_count" s__law_is_count ["_law_value"] := ⟨f14, _, F14, PySem.W.mg_of X G a14, k14, b14⟩
  have F15 := fun_mk (st := s__law_is_name) l15 c15 k15
  have b15 := F15.binds (ps := ["_law_value"]) fun _ _ _ _ _ _ us hl => match us, hl with | [_], _ => rfl
  have D15 : DefAt K mg "_law_is_name" s__law_is_name ["_law_value"] := ⟨f15, _, F15, PySem.W.mg_of X G a15, k15, b15⟩
  have F16 := fun_mk (st := s__law_odd_thing) l16 c16 k16
  have b16 := F16.binds (ps := ["_law_pot_here"]) fun _ _ _ _ _ _ us hl => match us, hl with | [_], _ => rfl
  have D16 : DefAt K mg "_law_odd_thing" s__law_odd_thing ["_law_pot_here"] := ⟨f16, _, F16, PySem.W.mg_of X G a16, k16, b16⟩
  have F17 := fun_mk (st := s__law_is_numbers) l17 c17 k17
  have b17 := F17.binds (ps := ["_law_value"]) fun _ _ _ _ _ _ us hl => match us, hl with | [_], _ => rfl
  have D17 : DefAt K mg "_law_is_numbers" s__law_is_numbers ["_law_value"] := ⟨f17, _, F17, PySem.W.mg_of X G a17, k17, b17⟩
  have F18 := fun_mk (st := s__law_fits) l18 c18 k18
  have b18 := F18.binds (ps := ["_law_mark", "_law_due_here", "_law_things"]) fun _ _ _ _ _ _ us hl => match us, hl with | [_, _, _], _ => rfl
  have D18 : DefAt K mg "_law_fits" s__law_fits ["_law_mark", "_law_due_here", "_law_things"] := ⟨f18, _, F18, PySem.W.mg_of X G a18, k18, b18⟩
  have F19 := fun_mk (st := s__law_fine) l19 c19 k19
  have b19 := F19.binds (ps := ["_law_pot_here"]) fun _ _ _ _ _ _ us hl => match us, hl with | [_], _ => rfl
  have D19 : DefAt K mg "_law_fine" s__law_fine ["_law_pot_here"] := ⟨f19, _, F19, PySem.W.mg_of X G a19, k19, b19⟩
  have F20 := fun_mk (st := s__law_spoilt_numbers) l20 c20 k20
  have b20 := F20.binds (ps := ["_law_pot_here"]) fun _ _ _ _ _ _ us hl => match us, hl with | [_], _ => rfl
  have D20 : DefAt K mg "_law_spoilt_numbers" s__law_spoilt_numbers ["_law_pot_here"] := ⟨f20, _, F20, PySem.W.mg_of X G a20, k20, b20⟩
  have F21 := fun_mk (st := s__law_heard) l21 c21 k21
  have b21 := F21.binds (ps := ["_law_value"]) fun _ _ _ _ _ _ us hl => match us, hl with | [_], _ => rfl
  have D21 : DefAt K mg "_law_heard" s__law_heard ["_law_value"] := ⟨f21, _, F21, PySem.W.mg_of X G a21, k21, b21⟩
  have F22 := fun_mk (st := s__law_judged) l22 c22 k22
  have b22 := F22.binds (ps := ["_law_value"]) fun _ _ _ _ _ _ us hl => match us, hl with | [_], _ => rfl
  have D22 : DefAt K mg "_law_judged" s__law_judged ["_law_value"] := ⟨f22, _, F22, PySem.W.mg_of X G a22, k22, b22⟩
  have F23 := fun_mk (st := s_law) l23 c23 k23
  have b23 := F23.binds (ps := ["_law_script"]) fun _ _ _ _ _ _ us hl => match us, hl with | [_], _ => rfl
  have M1 := fun_mk (st := s_Mark___getitem__) ml1 mc1 mk1
  have A1 : MethAt K C "__getitem__" "Mark.__getitem__" s_Mark___getitem__ ["self", "at"] g1 := ⟨_, M1, M1.binds (ps := ["self", "at"]) fun _ _ _ _ _ _ us hl => match us, hl with | [_, _], _ => rfl, ma1, mi1, mn1, sf⟩
  have M2 := fun_mk (st := s_Mark___eq__) ml2 mc2 mk2
  have A2 : MethAt K C "__eq__" "Mark.__eq__" s_Mark___eq__ ["self", "other"] g2 := ⟨_, M2, M2.binds (ps := ["self", "other"]) fun _ _ _ _ _ _ us hl => match us, hl with | [_, _], _ => rfl, ma2, mi2, mn2, sf⟩
  have M3 := fun_mk (st := s_Mark___contains__) ml3 mc3 mk3
  have A3 : MethAt K C "__contains__" "Mark.__contains__" s_Mark___contains__ ["self", "x"] g3 := ⟨_, M3, M3.binds (ps := ["self", "x"]) fun _ _ _ _ _ _ us hl => match us, hl with | [_, _], _ => rfl, ma3, mi3, mn3, sf⟩
  have M4 := fun_mk (st := s_Mark___len__) ml4 mc4 mk4
  have A4 : MethAt K C "__len__" "Mark.__len__" s_Mark___len__ ["self"] g4 := ⟨_, M4, M4.binds (ps := ["self"]) fun _ _ _ _ _ _ us hl => match us, hl with | [_], _ => rfl, ma4, mi4, mn4, sf⟩
  have M5 := fun_mk (st := s_Mark___bool__) ml5 mc5 mk5
  have A5 : MethAt K C "__bool__" "Mark.__bool__" s_Mark___bool__ ["self"] g5 := ⟨_, M5, M5.binds (ps := ["self"]) fun _ _ _ _ _ _ us hl => match us, hl with | [_], _ => rfl, ma5, mi5, mn5, sf⟩
  have xBadMarkO : OexC K xBadMark := ⟨⟨_, _, _, _, _, _, _, _, _, _, _, _, _, _, _, xBadMarkl, xBadMarkr1⟩, xBadMarksa, xBadMarkex, xBadMarkty, xBadMarkkp⟩
  have xBadMarkT : XI.XiT l.prog K mg xBadMark xBadMarkf xBadMarkc xBadMarkk "BadMark.__init__" "value" (defScope s_BadMark___init__) := ⟨xBadMarkO, ⟨_, _, _, xBadMarkce⟩, ⟨_, _, _, _, _, _, xBadMarkcd, xBadMarkr2, xBadMarkr3⟩, xtop, PySem.W.mg_none_of X G xsu, xan, super_in xBadMarkl xMl xBadMarkr4 xMi, xBadMarkve, xBadMarkme, xBadMarkno, rfl, rfl, rfl, rfl, by decide +kernel, rfl, rfl, rfl⟩
  have xBadMarkX : ∀ base : Heap, Xc l.prog w K mg base "BadMark" xBadMark "value" := fun base => ⟨xBadMarkO, PySem.W.mg_of X G xBadMarka, xBadMarkf, _, xBadMarkin, xBadMarkft, XI.xi_ok xBadMarkT xBadMarkfl xBadMarkco rfl rfl rfl (by decide) (by decide) (by decide) (fun _ => ⟨_, rfl⟩), fun s us _ hl => by
    rw [List.append_nil] at hl ⊢
    match us, hl with
    | [a, b], _ => exact .of_eq rfl⟩
  have xBadMarkQ : Xq K xBadMark "value" := ⟨⟨⟨xBadMarkga, xBadMarkgg, xBadMarkex, xBadMarkhd⟩, xBadMarkcc, i2, i3, xBadMarkob⟩, xBadMarkno⟩
  have xBadMarkM : PySem.W.exmOne K (.ref xBadMark) (.ref cM) = some true := PySem.W.exm_ref xMs xMd xMt xBadMarkmm
  obtain ⟨xBadMarkcd0, xBadMarkcd1, _⟩ := PySem.W.any_some xBadMarkhd
  have xBadStoreO : OexC K xBadStore := ⟨⟨_, _, _, _, _, _, _, _, _, _, _, _, _, _, _, xBadStorel, xBadStorer1⟩, xBadStoresa, xBadStoreex, xBadStorety, xBadStorekp⟩
  have xBadStoreT : XI.XiT l.prog K mg xBadStore xBadStoref xBadStorec xBadStorek "BadStore.__init__" "value" (defScope s_BadStore___init__) := ⟨xBadStoreO, ⟨_, _, _, xBadStorece⟩, ⟨_, _, _, _, _, _, xBadStorecd, xBadStorer2, xBadStorer3⟩, xtop, PySem.W.mg_none_of X G xsu, xan, super_in xBadStorel xMl xBadStorer4 xMi, xBadStoreve, xBadStoreme, xBadStoreno, rfl, rfl, rfl, rfl, by decide +kernel, rfl, rfl, rfl⟩
  have xBadStoreX : ∀ base : Heap, Xc l.prog w K mg base "BadStore" xBadStore "value" := fun base => ⟨xBadStoreO, PySem.W.mg_of X G xBadStorea, xBadStoref, _, xBadStorein, xBadStoreft, XI.xi_ok xBadStoreT xBadStorefl xBadStoreco rfl rfl rfl (by decide) (by decide) (by decide) (fun _ => ⟨_, rfl⟩), fun s us _ hl => by
    rw [List.append_nil] at hl ⊢
    match us, hl with
    | [a, b], _ => exact .of_eq rfl⟩
  have xBadStoreQ : Xq K xBadStore "value" := ⟨⟨⟨xBadStorega, xBadStoregg, xBadStoreex, xBadStorehd⟩, xBadStorecc, i2, i3, xBadStoreob⟩, xBadStoreno⟩
  have xBadStoreM : PySem.W.exmOne K (.ref xBadStore) (.ref cM) = some true := PySem.W.exm_ref xMs xMd xMt xBadStoremm
  obtain ⟨xBadStorecd0, xBadStorecd1, _⟩ := PySem.W.any_some xBadStorehd
  have xBadNumberO : OexC K xBadNumber := ⟨⟨_, _, _, _, _, _, _, _, _, _, _, _, _, _, _, xBadNumberl, xBadNumberr1⟩, xBadNumbersa, xBadNumberex, xBadNumberty, xBadNumberkp⟩
  have xBadNumberT : XI.XiT l.prog K mg xBadNumber xBadNumberf xBadNumberc xBadNumberk "BadNumber.__init__" "value" (defScope s_BadNumber___init__) := ⟨xBadNumberO, ⟨_, _, _, xBadNumberce⟩, ⟨_, _, _, _, _, _, xBadNumbercd, xBadNumberr2, xBadNumberr3⟩, xtop, PySem.W.mg_none_of X G xsu, xan, super_in xBadNumberl xMl xBadNumberr4 xMi, xBadNumberve, xBadNumberme, xBadNumberno, rfl, rfl, rfl, rfl, by decide +kernel, rfl, rfl, rfl⟩
  have xBadNumberX : ∀ base : Heap, Xc l.prog w K mg base "BadNumber" xBadNumber "value" := fun base => ⟨xBadNumberO, PySem.W.mg_of X G xBadNumbera, xBadNumberf, _, xBadNumberin, xBadNumberft, XI.xi_ok xBadNumberT xBadNumberfl xBadNumberco rfl rfl rfl (by decide) (by decide) (by decide) (fun _ => ⟨_, rfl⟩), fun s us _ hl => by
    rw [List.append_nil] at hl ⊢
    match us, hl with
    | [a, b], _ => exact .of_eq rfl⟩
  have xBadNumberQ : Xq K xBadNumber "value" := ⟨⟨⟨xBadNumberga, xBadNumbergg, xBadNumberex, xBadNumberhd⟩, xBadNumbercc, i2, i3, xBadNumberob⟩, xBadNumberno⟩
  have xBadNumberM : PySem.W.exmOne K (.ref xBadNumber) (.ref cM) = some true := PySem.W.exm_ref xMs xMd xMt xBadNumbermm
  obtain ⟨xBadNumbercd0, xBadNumbercd1, _⟩ := PySem.W.any_some xBadNumberhd
  have kBadMarkBadStore : PySem.W.kitOne K (.ref xBadMark) (.ref xBadStore) = some false := kit_rf xBadMarkdBadStore xBadStorecd1 xBadStorety xBadMarknBadStore
  have kBadMarkBadNumber : PySem.W.kitOne K (.ref xBadMark) (.ref xBadNumber) = some false := kit_rf xBadMarkdBadNumber xBadNumbercd1 xBadNumberty xBadMarknBadNumber
  have kBadStoreBadMark : PySem.W.kitOne K (.ref xBadStore) (.ref xBadMark) = some false := kit_rf xBadStoredBadMark xBadMarkcd1 xBadMarkty xBadStorenBadMark
  have kBadStoreBadNumber : PySem.W.kitOne K (.ref xBadStore) (.ref xBadNumber) = some false := kit_rf xBadStoredBadNumber xBadNumbercd1 xBadNumberty xBadStorenBadNumber
  have kBadNumberBadMark : PySem.W.kitOne K (.ref xBadNumber) (.ref xBadMark) = some false := kit_rf xBadNumberdBadMark xBadMarkcd1 xBadMarkty xBadNumbernBadMark
  have kBadNumberBadStore : PySem.W.kitOne K (.ref xBadNumber) (.ref xBadStore) = some false := kit_rf xBadNumberdBadStore xBadStorecd1 xBadStorety xBadNumbernBadStore
  refine ⟨PySem.W.fnOf "law" "law" (defArgs s_law) (defBody s_law) (defScope s_law) .none kV23 dc23 pm23 an23 cd23 ct23, fun s v => .of_eq rfl, fun base _ _ hS => ?_⟩
  have h1 : Fn1 l.prog w K mg base K "is_integer" 1 (F_is_integer C) := ok_is_integer D0 T
  have h2 := ok_is_count D1 T h1
  have h3 : Fn1 l.prog w K mg base K "is_name" 1 F_is_name := ok_is_name D2 T
  have h4 : Fn1 l.prog w K mg base K "is_tuple_of" 1 (F_is_tuple_of C) := ok_is_tuple_of D3 T
  have h5 := ok_pairs_in D4 T h4 h3 h2
  have hI := ok_init ml0 mc0 T h5
  have bI : Binds K (PySem.W.fnOf "__init__" "Mark.__init__" (defArgs s_Mark___init__) (defBody s_Mark___init__) (defScope s_Mark___init__) (.ref aT) mkV0 mdc0 mpm0 man0 mcd0 mct0) ["self", "numbers"] [] := fun s us X2 hl => by
    rw [List.append_nil] at hl ⊢
    match us, hl with
    | [a, b], _ => exact L2.BindsTo.of_looks fun M => L2.looks_items X2 lT r8 (.of_pure rfl)
  have bI0 : Binds K (PySem.W.fnOf "__init__" "Mark.__init__" (defArgs s_Mark___init__) (defBody s_Mark___init__) (defScope s_Mark___init__) (.ref aT) mkV0 mdc0 mpm0 man0 mcd0 mct0) ["self", "numbers"] [.ref aE] := fun s us X2 hl => by
    obtain ⟨a, rfl⟩ : ∃ a, us = [a] := by
      cases us with
      | nil => simp at hl
      | cons a r => cases r with
        | nil => exact ⟨a, rfl⟩
        | cons b r => simp at hl
    exact L2.BindsTo.of_looks fun M => L2.looks_items X2 lT r8 (.of_pure rfl)
  have hM : Mk1 l.prog w K mg base "Mark" C 4 (F_Mark C) := ⟨g0, _, _, ⟨mkc, ma0, mi0, kc⟩, hI, PySem.W.mg_of X G aC, bI⟩
  have hM0 : Mk0 l.prog w K mg base "Mark" C 4 (F_Mark C) [.tup []] := ⟨g0, _, _, [.ref aE], _, ⟨mkc, ma0, mi0, kc⟩, hI, PySem.W.mg_of X G aC, bI0, .cons rfl .nil, fun Z p H => ⟨.ref aE, [], rfl, ⟨aE, [], rfl, .inr ⟨oE, #[], nE, r10, r11, r12, Nat.zero_le _, .nil⟩, rfl⟩, rfl⟩⟩
  have p1 : Fn1 l.prog w K mg base K "_law_take" 1 F_take := ok_take D7 bt
  have p2 := ok_of D8 bt p1
  have S : Sb K C := ⟨by rintro n (rfl | rfl | rfl | rfl | rfl | rfl | rfl) <;> assumption, no2⟩
  have hn : Fn1 l.prog w K mg base K "is_name" 1 (F_is_nameG C) := ok_is_nameG D2 T
  have h6 : Fn1 l.prog w K mg base K "pairs_in" 3 (F_pairs_inG C w) := ok_pairs_inG D4 T h4 hn h2
  have hIX := ok_initX ml0 mc0 T h6 (xBadMarkX base)
  have hMX : MkX l.prog w K mg base "Mark" C 4 (F_MarkX C xBadMark w) := ⟨g0, _, _, ⟨mkc, ma0, mi0, kc⟩, hIX, PySem.W.mg_of X G aC, bI⟩
  have bK : KBn K (PySem.W.fnOf "__init__" "Mark.__init__" (defArgs s_Mark___init__) (defBody s_Mark___init__) (defScope s_Mark___init__) (.ref aT) mkV0 mdc0 mpm0 man0 mcd0 mct0) ["self", "numbers"] 1 ["numbers"] (fun us ws => us ++ ws) (fun us ws => us ++ ws) := ⟨fun s us ws X2 hl hl2 => by
    match us, hl, ws, hl2 with
    | [a], _, [b], _ => exact L2.BindsTo.of_looks fun M => L2.looks_items X2 lT r8 (.of_pure rfl), fun a b => a.append b⟩
  have hMK : MkK l.prog w K mg base "Mark" C 4 (F_Mark C) ["numbers"] := ⟨g0, _, _, ⟨mkc, ma0, mi0, kc⟩, hI, PySem.W.mg_of X G aC, bK⟩
  obtain ⟨_, o2⟩ := ok_eq (P := l.prog) (w := w) (base := base) A2 T
  have w2 : Ow1 l.prog w K mg base C "__eq__" 1 (F_eq C) := ⟨_, _, _, o2⟩
  have wn : OwNe l.prog w K mg base C 1 (F_eq C) := ⟨_, _, _, o2, no_ne lc nk ne1 ne2 ml2 r7⟩
  obtain ⟨_, o3⟩ := ok_eqA (P := l.prog) (w := w) (base := base) A2 T
  have w3 : Ow1 l.prog w K mg base C "__eq__" 1 (F_eqA C) := ⟨_, _, _, o3⟩
  obtain ⟨_, o4⟩ := ok_getG A1 T S w3
  have w4 : Ow1 l.prog w K mg base C "__getitem__" 2 (F_getG C) := ⟨_, _, _, o4⟩
  obtain ⟨_, o5⟩ := ok_has A3 T S w3
  have w5 : Ow1 l.prog w K mg base C "__contains__" 2 (F_has C) := ⟨_, _, _, o5⟩
  obtain ⟨_, o6⟩ := ok_lenM (P := l.prog) (w := w) (base := base) A4 T
  have w6 : Ow1 l.prog w K mg base C "__len__" 1 (F_lenM C) := ⟨_, _, _, o6⟩
  obtain ⟨_, o7⟩ := ok_boolM (P := l.prog) (w := w) (base := base) A5 T
  have w7 : Ow1 l.prog w K mg base C "__bool__" 1 (F_boolM C) := ⟨_, _, _, o7⟩
  have xx : Xx K mg xBadMark xBadStore xBadNumber cM := ⟨PySem.W.mg_of X G xM, PySem.W.mg_none_of X G z17, ⟨_, PySem.W.mg_of X G xBadMarka, rfl⟩, ⟨_, PySem.W.mg_of X G xBadStorea, rfl⟩, ⟨_, PySem.W.mg_of X G xBadNumbera, rfl⟩, xBadMarkQ, xBadMarkM, kit_rr, kit_rtT (by decide +kernel) xBadMarkve, kBadMarkBadStore, kBadMarkBadNumber⟩
  have p3 := ok_turned D9 bt p1
  have p4 := ok_namesB D10 bt p1 p2
  have p5 := ok_figureB D11 bt p1 p2
  have p6 := ok_pairsB D12 bt p1 p3 p5
  have p7 : Fn1 l.prog w K mg base K "_law_due" 1 F_due := ok_due D13 bt
  have p8 : Fn1 l.prog w K mg base K "_law_is_name" 1 (F_is_nameG C) := ok_lis_name D15 T
  have p9 : Fn1 l.prog w K mg base K "_law_is_count" 1 (F_countG C) := ok_lis_count D14 T
  have p10 := ok_oddT D16 T p2
  have p11 := ok_fits D18 T w4 w5 w6 w7 p9
  have p12 := ok_fine D19 T S p1 p2 p3 p4 p6 p7 p10 hM hM0 hMK p11 w3 w2 wn
  have p13 := ok_spoilt (C := C) D20 T p1 p2 p3 p4 p5
  have p14 := ok_heard D21 T xx hMX
  have p15 : Fn1 l.prog w K mg base K "_law_is_numbers" 2 (F_is_numbers C w) := ok_is_numbers D17 T p8 p9
  have p16 := ok_judged D22 T hS (PySem.W.mg_none_of X G z16) p14 p15 p7
  have hz : FnOk l.prog w K mg base CX0 1 f5 _ ["_law_script", "_law_k"] (spPot K) := ok_pot F5 bt (PySem.W.mg_none_of X G z15)
  have hzz := ok_pots F6 bt hz (PySem.W.mg_of X G a5) k5 b5
  exact ok_law F23 bt hzz (PySem.W.mg_of X G a6) k6 b6 p12 p13 p16
end K0
set_option Elab.async false
set_option linter.all false
set_option maxRecDepth 100000
open PySem PySem.W PyProof.Rows
set_option maxHeartbeats 0 in
theorem PySem.Challenge.cw_carriedmarks_k00_numbers_of_marks_holds : PySem.Challenge.rw_carriedmarks_k00_numbers_of_marks.Holds := by
  w_on; o_law; k_head; (case hw => w_witness2)
  k_fill
  refine DL.walkG (l := PySem.Challenge.rw_carriedmarks_k00_numbers_of_marks) (n := 63) (k := 9) (x := "_law_script") (spw := fun w => K0.spLaw _) rfl (by decide) rfl ⟨rfl, by decide, by decide⟩ (by decide +kernel) (fun w h Y => PySem.W.kIn_of Y) ?F (fun _ _ a ns hl _ hS => ⟨a, ns, rfl, hS, hl, fun _ => rfl⟩)
  case F =>
    intro w mg fa h KX G hmg
    refine' K0.all_mk KX G hmg ?aC ?a0 ?l0 ?c0 ?k0 ?a1 ?l1 ?c1 ?k1 ?a2 ?l2 ?c2 ?k2 ?a3 ?l3 ?c3 ?k3 ?a4 ?l4 ?c4 ?k4 ?a5 ?l5 ?c5 ?k5 ?a6 ?l6 ?c6 ?k6 ?a7 ?l7 ?c7 ?k7 ?a8 ?l8 ?c8 ?k8 ?a9 ?l9 ?c9 ?k9 ?a10 ?l10 ?c10 ?k10 ?a11 ?l11 ?c11 ?k11 ?a12 ?l12 ?c12 ?k12 ?a13 ?l13 ?c13 ?k13 ?a14 ?l14 ?c14 ?k14 ?a15 ?l15 ?c15 ?k15 ?a16 ?l16 ?c16 ?k16 ?a17 ?l17 ?c17 ?k17 ?a18 ?l18 ?c18 ?k18 ?a19 ?l19 ?c19 ?k19 ?a20 ?l20 ?c20 ?k20 ?a21 ?l21 ?c21 ?k21 ?a22 ?l22 ?c22 ?k22 ?a23 ?l23 ?c23 ?k23 ?ma0 ?mi0 ?ml0 ?mc0 ?mk0 ?ma1 ?mi1 ?ml1 ?mc1 ?mk1 ?mn1 ?ma2 ?mi2 ?ml2 ?mc2 ?mk2 ?mn2 ?ma3 ?mi3 ?ml3 ?mc3 ?mk3 ?mn3 ?ma4 ?mi4 ?ml4 ?mc4 ?mk4 ?mn4 ?ma5 ?mi5 ?ml5 ?mc5 ?mk5 ?mn5 ?z0 ?z1 ?z2 ?z3 ?z4 ?z5 ?z6 ?z7 ?z8 ?z9 ?z10 ?z11 ?z12 ?z13 ?z14 ?z15 ?z16 ?z17 ?gl1 ?gl2 ?gl3 ?lT ?lw ?pg ?hd ?po ?sa ?mkc ?kc ?sf ?nN ?i1 ?i2 ?i3 ?i4 ?no0 ?no1 ?no2 ?no3 ?no4 ?no5 ?nt0 ?nt1 ?nt2 ?nt3 ?nt4 ?nt5 ?nt6 ?lc ?nk0 ?ne1 ?ne2 ?niOr ?noOr ?niAnd ?noAnd ?niSub ?noSub ?xM ?xMl ?xMi ?xMs ?xMd ?xMt ?xsu ?xan ?xtop ?xBadMarka ?xBadMarkl ?xBadMarksa ?xBadMarkex ?xBadMarkty ?xBadMarkkp ?xBadMarkin ?xBadMarkft ?xBadMarkfl ?xBadMarkco ?xBadMarkce ?xBadMarkcd ?xBadMarkve ?xBadMarkme ?xBadMarkno ?xBadMarkga ?xBadMarkgg ?xBadMarkhd ?xBadMarkcc ?xBadMarkob ?xBadMarkmm ?xBadMarkr1 ?xBadMarkr2 ?xBadMarkr3 ?xBadStorea ?xBadStorel ?xBadStoresa ?xBadStoreex ?xBadStorety ?xBadStorekp ?xBadStorein ?xBadStoreft ?xBadStorefl ?xBadStoreco ?xBadStorece ?xBadStorecd ?xBadStoreve ?xBadStoreme ?xBadStoreno ?xBadStorega ?xBadStoregg ?xBadStorehd ?xBadStorecc ?xBadStoreob ?xBadStoremm ?xBadStorer1 ?xBadStorer2 ?xBadStorer3 ?xBadNumbera ?xBadNumberl ?xBadNumbersa ?xBadNumberex ?xBadNumberty ?xBadNumberkp ?xBadNumberin ?xBadNumberft ?xBadNumberfl ?xBadNumberco ?xBadNumberce ?xBadNumbercd ?xBadNumberve ?xBadNumberme ?xBadNumberno ?xBadNumberga ?xBadNumbergg ?xBadNumberhd ?xBadNumbercc ?xBadNumberob ?xBadNumbermm ?xBadNumberr1 ?xBadNumberr2 ?xBadNumberr3 ?xBadMarkr4 ?xBadMarknBadStore ?xBadMarkdBadStore ?xBadMarknBadNumber ?xBadMarkdBadNumber ?xBadStorer4 ?xBadStorenBadMark ?xBadStoredBadMark ?xBadStorenBadNumber ?xBadStoredBadNumber ?xBadNumberr4 ?xBadNumbernBadMark ?xBadNumberdBadMark ?xBadNumbernBadStore ?xBadNumberdBadStore ?r1 ?r2 ?r3 ?r4 ?r5 ?r6 ?r7 ?r8 ?r9 ?r10 ?r11 ?r12
    (case aC => k_is)
    (case a0 => k_is)
    (case l0 => k_is)
    (case c0 => k_is)
    (case k0 => k_is)
    (case a1 => k_is)
    (case l1 => k_is)
    (case c1 => k_is)
    (case k1 => k_is)
    (case a2 => k_is)
    (case l2 => k_is)
    (case c2 => k_is)
    (case k2 => k_is)
    (case a3 => k_is)
    (case l3 => k_is)
    (case c3 => k_is)
    (case k3 => k_is)
    (case a4 => k_is)
    (case l4 => k_is)
    (case c4 => k_is)
    (case k4 => k_is)
    (case a5 => k_is)
    (case l5 => k_is)
    (case c5 => k_is)
    (case k5 => k_is)
    (case a6 => k_is)
    (case l6 => k_is)
    (case c6 => k_is)
    (case k6 => k_is)
    (case a7 => k_is)
    (case l7 => k_is)
    (case c7 => k_is)
    (case k7 => k_is)
    (case a8 => k_is)
    (case l8 => k_is)
    (case c8 => k_is)
    (case k8 => k_is)
    (case a9 => k_is)
    (case l9 => k_is)
    (case c9 => k_is)
    (case k9 => k_is)
    (case a10 => k_is)
    (case l10 => k_is)
    (case c10 => k_is)
    (case k10 => k_is)
    (case a11 => k_is)
    (case l11 => k_is)
    (case c11 => k_is)
    (case k11 => k_is)
    (case a12 => k_is)
    (case l12 => k_is)
    (case c12 => k_is)
    (case k12 => k_is)
    (case a13 => k_is)
    (case l13 => k_is)
    (case c13 => k_is)
    (case k13 => k_is)
    (case a14 => k_is)
    (case l14 => k_is)
    (case c14 => k_is)
    (case k14 => k_is)
    (case a15 => k_is)
    (case l15 => k_is)
    (case c15 => k_is)
    (case k15 => k_is)
    (case a16 => k_is)
    (case l16 => k_is)
    (case c16 => k_is)
    (case k16 => k_is)
    (case a17 => k_is)
    (case l17 => k_is)
    (case c17 => k_is)
    (case k17 => k_is)
    (case a18 => k_is)
    (case l18 => k_is)
    (case c18 => k_is)
    (case k18 => k_is)
    (case a19 => k_is)
    (case l19 => k_is)
    (case c19 => k_is)
    (case k19 => k_is)
    (case a20 => k_is)
    (case l20 => k_is)
    (case c20 => k_is)
    (case k20 => k_is)
    (case a21 => k_is)
    (case l21 => k_is)
    (case c21 => k_is)
    (case k21 => k_is)
    (case a22 => k_is)
    (case l22 => k_is)
    (case c22 => k_is)
    (case k22 => k_is)
    (case a23 => k_is)
    (case l23 => k_is)
    (case c23 => k_is)
    (case k23 => k_is)
    (case ma0 => k_is)
    (case mi0 => k_is)
    (case ml0 => k_is)
    (case mc0 => k_is)
    (case mk0 => k_is)
    (case ma1 => k_is)
    (case mi1 => k_is)
    (case ml1 => k_is)
    (case mc1 => k_is)
    (case mk1 => k_is)
    (case mn1 => k_is)
    (case ma2 => k_is)
    (case mi2 => k_is)
    (case ml2 => k_is)
    (case mc2 => k_is)
    (case mk2 => k_is)
    (case mn2 => k_is)
    (case ma3 => k_is)
    (case mi3 => k_is)
    (case ml3 => k_is)
    (case mc3 => k_is)
    (case mk3 => k_is)
    (case mn3 => k_is)
    (case ma4 => k_is)
    (case mi4 => k_is)
    (case ml4 => k_is)
    (case mc4 => k_is)
    (case mk4 => k_is)
    (case mn4 => k_is)
    (case ma5 => k_is)
    (case mi5 => k_is)
    (case ml5 => k_is)
    (case mc5 => k_is)
    (case mk5 => k_is)
    (case mn5 => k_is)
    (case z0 => k_is)
    (case z1 => k_is)
    (case z2 => k_is)
    (case z3 => k_is)
    (case z4 => k_is)
    (case z5 => k_is)
    (case z6 => k_is)
    (case z7 => k_is)
    (case z8 => k_is)
    (case z9 => k_is)
    (case z10 => k_is)
    (case z11 => k_is)
    (case z12 => k_is)
    (case z13 => k_is)
    (case z14 => k_is)
    (case z15 => k_is)
    (case z16 => k_is)
    (case z17 => k_is)
    (case gl1 => k_is)
    (case gl2 => k_is)
    (case gl3 => k_is)
    (case lT => k_is)
    (case lw => k_is)
    (case pg => k_is)
    (case hd => k_is)
    (case po => k_is)
    (case sa => k_is)
    (case mkc => k_is)
    (case kc => k_is)
    (case sf => k_is)
    (case nN => k_is)
    (case i1 => k_is)
    (case i2 => k_is)
    (case i3 => k_is)
    (case i4 => k_is)
    (case no0 => k_is)
    (case no1 => k_is)
    (case no2 => k_is)
    (case no3 => k_is)
    (case no4 => k_is)
    (case no5 => k_is)
    (case nt0 => k_is)
    (case nt1 => k_is)
    (case nt2 => k_is)
    (case nt3 => k_is)
    (case nt4 => k_is)
    (case nt5 => k_is)
    (case nt6 => k_is)
    (case lc => k_is)
    (case nk0 => k_is)
    (case ne1 => k_is)
    (case ne2 => k_is)
    (case niOr => k_is)
    (case noOr => k_is)
    (case niAnd => k_is)
    (case noAnd => k_is)
    (case niSub => k_is)
    (case noSub => k_is)
    (case xM => k_is)
    (case xMl => k_is)
    (case xMi => k_is)
    (case xMs => k_is)
    (case xMd => k_is)
    (case xMt => k_is)
    (case xsu => k_is)
    (case xan => k_is)
    (case xtop => decide +kernel)
    (case xBadMarka => k_is)
    (case xBadMarkl => k_is)
    (case xBadMarksa => k_is)
    (case xBadMarkex => k_is)
    (case xBadMarkty => k_is)
    (case xBadMarkkp => k_is)
    (case xBadMarkin => k_is)
    (case xBadMarkft => k_is)
    (case xBadMarkfl => k_is)
    (case xBadMarkco => k_is)
    (case xBadMarkce => k_is)
    (case xBadMarkcd => k_is)
    (case xBadMarkve => k_is)
    (case xBadMarkme => k_is)
    (case xBadMarkno => k_is)
    (case xBadMarkga => k_is)
    (case xBadMarkgg => k_is)
    (case xBadMarkhd => k_is)
    (case xBadMarkcc => k_is)
    (case xBadMarkob => k_is)
    (case xBadMarkmm => k_is)
    (case xBadMarkr1 => decide +kernel)
    (case xBadMarkr2 => rfl)
    (case xBadMarkr3 => decide +kernel)
    (case xBadStorea => k_is)
    (case xBadStorel => k_is)
    (case xBadStoresa => k_is)
    (case xBadStoreex => k_is)
    (case xBadStorety => k_is)
    (case xBadStorekp => k_is)
    (case xBadStorein => k_is)
    (case xBadStoreft => k_is)
    (case xBadStorefl => k_is)
    (case xBadStoreco => k_is)
    (case xBadStorece => k_is)
    (case xBadStorecd => k_is)
    (case xBadStoreve => k_is)
    (case xBadStoreme => k_is)
    (case xBadStoreno => k_is)
    (case xBadStorega => k_is)
    (case xBadStoregg => k_is)
    (case xBadStorehd => k_is)
    (case xBadStorecc => k_is)
    (case xBadStoreob => k_is)
    (case xBadStoremm => k_is)
    (case xBadStorer1 => decide +kernel)
    (case xBadStorer2 => rfl)
    (case xBadStorer3 => decide +kernel)
    (case xBadNumbera => k_is)
    (case xBadNumberl => k_is)
    (case xBadNumbersa => k_is)
    (case xBadNumberex => k_is)
    (case xBadNumberty => k_is)
    (case xBadNumberkp => k_is)
    (case xBadNumberin => k_is)
    (case xBadNumberft => k_is)
    (case xBadNumberfl => k_is)
    (case xBadNumberco => k_is)
    (case xBadNumberce => k_is)
    (case xBadNumbercd => k_is)
    (case xBadNumberve => k_is)
    (case xBadNumberme => k_is)
    (case xBadNumberno => k_is)
    (case xBadNumberga => k_is)
    (case xBadNumbergg => k_is)
    (case xBadNumberhd => k_is)
    (case xBadNumbercc => k_is)
    (case xBadNumberob => k_is)
    (case xBadNumbermm => k_is)
    (case xBadNumberr1 => decide +kernel)
    (case xBadNumberr2 => rfl)
    (case xBadNumberr3 => decide +kernel)
    (case xBadMarkr4 => rfl)
    (case xBadMarknBadStore => k_is)
    (case xBadMarkdBadStore => decide)
    (case xBadMarknBadNumber => k_is)
    (case xBadMarkdBadNumber => decide)
    (case xBadStorer4 => rfl)
    (case xBadStorenBadMark => k_is)
    (case xBadStoredBadMark => decide)
    (case xBadStorenBadNumber => k_is)
    (case xBadStoredBadNumber => decide)
    (case xBadNumberr4 => rfl)
    (case xBadNumbernBadMark => k_is)
    (case xBadNumberdBadMark => decide)
    (case xBadNumbernBadStore => k_is)
    (case xBadNumberdBadStore => decide)
    (case r1 => exact ⟨_, rfl⟩)
    (case r2 => exact ⟨_, rfl⟩)
    (case r3 => rfl)
    (case r4 => rfl)
    (case r5 => decide)
    (case r6 => exact .cons ⟨_, rfl⟩ (.cons ⟨_, rfl⟩ (.cons ⟨_, rfl⟩ (.cons ⟨_, rfl⟩ (.cons ⟨_, rfl⟩ .nil)))))
    (case r7 => rfl)
    (case r8 => rfl)
    (case r9 => rfl)
    (case r10 => k_is)
    (case r11 => rfl)
    (case r12 => rfl)

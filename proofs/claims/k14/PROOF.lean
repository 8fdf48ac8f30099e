import PyProof.Rows.All
import HandS.ForMost
import HandS.ForExc
import HandS.TupSets
import HandS.IsInst
import HandS.Wide
import HandS.ExcCtx
import HandS.HotCalls
import HandS.ExcIs
import HandS.TupAny
import HandS.Deep
import HandS.Text
import HandS.AnyAll
import HandS.Strs
import HandS.More
import HandS.Conv
import HandS.WideBits
import HandS.SetFor
import KE.SortData
import HandS.Zip
import HandS.TupLe
import KE.GoesMore
import HandS.Style
import KE.KDictDisplayH
import HandS.ExcValue
import PySem.Challenge.RW_rowsorder_k14_whole_rows_tell
set_option Elab.async false
set_option linter.all false
set_option maxRecDepth 100000
/-! DenS: set(xs), xs a list or a tuple of pairs, not many of them different. -/
namespace Dn
open PySem PySem.Spec L2
open PyProof.Rows hiding St

section
variable {P : Program} {w : World} {A : Around} {E : Value → Shared → Prop} {s : Shared}
/-- the set's loop, where few items are different -/
theorem fold_few {I : Addr} {fp wr : List Addr} {G : Array GenState → Array GenState → Prop} {n : Nat} {Pv : Nat → Value → Prop} {Sx : Nat → Shared → Prop} {R : Result → Shared → Prop}
    (W : WalksS P w A.in1 I fp wr G n Pv Sx) (D : Addr) (nD : D ∉ fp) (ks : List (Addr × List Int)) (ln : n = ks.length) (few : ∀ L : List (Addr × List Int), (L.map (·.2)).Nodup → (∀ p ∈ L, p ∈ ks) → L.length < 63) (vl : ∀ i v, Pv i v → ∃ p, ks[i]? = some p ∧ v = .ref p.1)
    (g0 : Heap) (kt : ∀ p ∈ ks, IsT P w g0 p.2 p.1) (d0 : g0.get? D = none) (w0 : ∀ b ∈ wr, g0.get? b = none) (un : A.in1.units < cLine) :
    ∀ (m i : Nat) (s : Shared), n - i = m → i ≤ n → Sx i s → (∀ b o, g0.get? b = some o → s.heap.get? b = some o) → (∃ L es ep t, SetTR P w s.heap D L es ep t ∧ Got ks i L) →
      (∀ s' L es ep t, Moved (D :: wr) G s s' → SetTR P w s'.heap D L es ep t → Got ks n L → (∀ b o, g0.get? b = some o → s'.heap.get? b = some o) → R (.ok (.ret .none)) s') →
      codeAny (model P w) A (.builtin "set.update.loop" ⟨[.ref D, .ref I], []⟩) R s := by
  have nw : D ∉ wr := fun z => nD (W.sub _ z)
  have up : ∀ b ∈ wr, b ∈ D :: wr := fun b z => List.mem_cons_of_mem _ z
  have stay : ∀ {a b : Shared}, Moved wr G a b → (∀ c o, g0.get? c = some o → a.heap.get? c = some o) → ∀ c o, g0.get? c = some o → b.heap.get? c = some o := fun mv k c o e =>
    mv.heap c o (fun z => by rw [w0 c z] at e; cases e) (k c o e)
  intro m
  induction m with
  | zero =>
    intro i s em le st k ⟨L, es, ep, t, S, got⟩ fin
    obtain rfl : i = n := by omega
    refine codeAny_builtin F.entry_set_update_loop ?_
    rw [Around.under_plainId F.plain_set_update_loop _]
    show wpAny _ A.in1 (pyNext (.ref I) >>= _) _ _ s
    refine wpAny_bind (W.done s _ _ st fun u mv => ?_)
    show wpAny _ A.in1 (ret Value.none) _ _ u
    have k' := stay mv k
    exact wpAny_pure (fin u L es ep t (mv.mono up) (S.keep (fun o e => mv.heap D o nw e) fun p hp => isT_keep (kt p (List.mem_of_mem_take (got.sub p hp))) k') got k')
  | succ m ih =>
    intro i s em le st k ⟨L, es, ep, t, S, got⟩ fin
    have lt : i < n := by omega
    refine codeAny_builtin F.entry_set_update_loop ?_
    rw [Around.under_plainId F.plain_set_update_loop _]
    show wpAny _ A.in1 (pyNext (.ref I) >>= _) _ _ s
    refine wpAny_bind (W.item i s _ _ lt st fun v u pv st' mv => ?_)
    obtain ⟨p, hp, ev⟩ := vl i v pv
    subst ev
    have k' := stay mv k
    have inL : ∀ q ∈ L, q ∈ ks := fun q z => List.mem_of_mem_take (got.sub q z)
    have S' : SetTR P w u.heap D L es ep t := S.keep (fun o e => mv.heap D o nw e) fun q z => isT_keep (kt q (inL q z)) k'
    have px : IsT P w u.heap p.2 p.1 := isT_keep (kt p (List.mem_of_getElem? hp)) k'
    show wpAny _ A.in1 (holding [Value.ref p.1] (setAdd D (.ref p.1)) >>= _) _ _ u
    refine wpAny_bind (wpAny_holding ?_)
    unfold setAdd
    refine wpAny_holding (wpAny_bind (wpAny_pyHash_tuple un px ?_))
    have room := few L S.nd inL
    refine add_at (s := { u with toks := u.toks + (p.2.length + 1) }) S' px un (by omega) fun b g' L' es' ep' t' sb S2 c1 c2 => ?_
    have got' : Got ks (i + 1) L' := by
      by_cases c : p.2 ∈ L.map (·.2)
      · rw [c1 c]; exact got.same hp c
      · exact got.more hp (c2 c)
    have k2 : ∀ b o, g0.get? b = some o → g'.get? b = some o := fun b o e => (sb.2 b (fun z => by rw [z, d0] at e; cases e)).trans (k' b o e)
    refine wpAny_pure ⟨plainId_quiet F.plain_set_update_loop _, ih (i + 1) _ (by omega) lt (W.frame _ u _ _ st' (Nat.le_add_right _ _) fun b z o e => ?_) k2 ⟨L', es', ep', t', S2, got'⟩ fun u2 L2 es2 ep2 t2 mv2 S3 got2 k3 => ?_⟩
    · rw [sb.2 b (fun y : b = D => nD (by rw [← y]; exact z))]; exact e
    · refine fin u2 L2 es2 ep2 t2 (Moved.trans W.gtrans ((mv.mono up).then_heap (Nat.le_add_right _ _) fun b o z e => ?_) mv2) S3 got2 k3
      rw [sb.2 b (fun y : b = D => z (by rw [y]; exact List.mem_cons_self))]; exact e

set_option maxHeartbeats 3200000 in
theorem set_of_list {l : Addr} {items : Array Value} (ks : List (Addr × List Int)) {Q : Value → Shared → Prop} (hh : A.handled = none) (src : s.heap.IsList l items) (itm : items.toList = ks.map fun p => Value.ref p.1)
    (kt : ∀ p ∈ ks, IsT P w s.heap p.2 p.1) (few : ∀ L : List (Addr × List Int), (L.map (·.2)).Nodup → (∀ p ∈ L, p ∈ ks) → L.length < 63) (un : A.units + 3 < cLine)
    (fin : ∀ (g : Heap) (tk : Nat) L es ep t, SetTR P w g s.heap.objs.size L es ep t → Got ks ks.length L → (∀ b o, s.heap.get? b = some o → g.get? b = some o) → Q (.ref s.heap.objs.size) { s with heap := g, toks := tk }) :
    wpAny (model P w) A (call (.type "set") [.ref l]) Q E s := by
  have sz : items.size = ks.length := by rw [← Array.length_toList, itm, List.length_map]
  obtain ⟨cm, tm, mro⟩ := F.called_set.mro
  have hmade := F.called_set.made
  have hsub := F.called_set.sub
  refine wpAny_call (codeAny_of_tree ?_)
  show wpAny _ _ (callAny (.type "set") _) _ _ _
  refine wpAny_pure ⟨Code.quiet_builtin _ (by decide +kernel), codeAny_builtin F.entry_type_call ?_⟩
  rw [Around.under_plain (weight_type_call_type "set" [.ref l] []) rfl]
  have a1 := F.called_set.notType
  have a2 := F.called_set.canCreate
  have a3 := F.typeCall_set_1 (.ref l)
  repeat (any_goals (first | assumption | wp_step))
  refine codeAny_mono (code_set_led1 (.ref l) (E := E) (Q₁ := fun obj s₁ => obj = .ref s.heap.objs.size ∧ s₁ = { s with heap := s.heap.push { cls := .type "set", dict := none, data := .set #[] 0 (.fresh 0 0 (!w.params.followText "set-order")) } }) ⟨rfl, rfl⟩) fun r s₁ hr => ?_
  cases r with
  | error e => exact hr
  | ok fl =>
    cases fl with
    | ret obj =>
      obtain ⟨rfl, rfl⟩ := hr
      have gS : (s.heap.push { cls := .type "set", dict := none, data := .set #[] 0 (.fresh 0 0 (!w.params.followText "set-order")) }).get? s.heap.objs.size = some { cls := .type "set", dict := none, data := .set #[] 0 (.fresh 0 0 (!w.params.followText "set-order")) } := Heap.get?_push_size _ rfl
      have gT : Shared.TypeIs { s with heap := s.heap.push { cls := .type "set", dict := none, data := .set #[] 0 (.fresh 0 0 (!w.params.followText "set-order")) } } (.ref s.heap.objs.size) "set" := ⟨_, gS, rfl⟩
      have a4 := F.called_set.init.lookup
      have a5 := F.called_set.init.bind (.ref s.heap.objs.size)
      repeat (any_goals (first | assumption | wp_step))
      refine codeAny_mono (codeAny_call_builtin (R := wants (fun r s₂ => r = .none ∧ ∃ g tk L es ep t, s₂ = { s with heap := g, toks := tk } ∧ SetTR P w g s.heap.objs.size L es ep t ∧ Got ks ks.length L ∧ (∀ b o, s.heap.get? b = some o → g.get? b = some o)) E) F.called_set.init.plain F.entry_set_init (check_set_init_1 gT ?_)) fun r₂ s₂ hr₂ => ?_
      · obtain ⟨⟨ocls, odict, odata, oslots⟩, ol, kcl, kn, kdt⟩ := src
        simp only at kcl kdt
        subst kcl; subst kdt
        have ol' : (s.heap.push { cls := .type "set", dict := none, data := .set #[] 0 (.fresh 0 0 (!w.params.followText "set-order")) }).get? l = some { cls := .type "list", dict := odict, data := .seq items kn, slots := oslots } := Heap.get?_push_of_some _ ol
        have b1 := F.sub_list_set
        have b2 := F.sub_list_frozenset
        have b3 : (Value.type "list" == Value.type "dict") = false := by decide
        have src1 : (s.heap.push { cls := .type "set", dict := none, data := .set #[] 0 (.fresh 0 0 (!w.params.followText "set-order")) }).IsList l items := ⟨_, ol', rfl, kn, rfl⟩
        unfold Builtin.«set.__init__» noKeywords Builtin.Frozenset.updateFrom
        generalize pI : pyIter = PI
        wp_walk
        subst pI
        refine wpAny_pyIter_list src1 ?_
        refine wpAny_bind (wpAny_runValue ?_)
        have lS : l < s.heap.objs.size := Heap.lt_size ol
        have h3 : A.in1.in1.in1.handled = none := by simp [hh]
        have sz1 : (s.heap.push { cls := .type "set", dict := none, data := .set #[] 0 (.fresh 0 0 (!w.params.followText "set-order")) }).objs.size = s.heap.objs.size + 1 := Heap.size_push ..
        have neI : l ≠ (s.heap.push { cls := .type "set", dict := none, data := .set #[] 0 (.fresh 0 0 (!w.params.followText "set-order")) }).objs.size := by rw [sz1]; exact Nat.ne_of_lt (Nat.lt_succ_of_lt lS)
        have nS : s.heap.objs.size ∉ [(s.heap.push { cls := .type "set", dict := none, data := .set #[] 0 (.fresh 0 0 (!w.params.followText "set-order")) }).objs.size, l] := by
          rw [sz1]
          simp only [List.mem_cons, List.not_mem_nil, or_false, not_or]
          exact ⟨Nat.ne_of_lt (Nat.lt_succ_self _), Nat.ne_of_gt lS⟩
        have vl : ∀ (i : Nat) (v : Value), items[i]? = some v → ∃ p, ks[i]? = some p ∧ v = .ref p.1 := fun i v hv => by
          have q : items.toList[i]? = some v := by rw [Array.getElem?_toList]; exact hv
          rw [itm, List.getElem?_map] at q
          obtain ⟨p, hp, e⟩ := Option.map_eq_some_iff.mp q
          exact ⟨p, hp, e.symm⟩
        have no : ∀ b, s.heap.objs.size ≤ b → s.heap.get? b = none := fun b hb => by
          cases q : s.heap.get? b with
          | none => rfl
          | some o => exact absurd (Nat.lt_of_lt_of_le (Heap.lt_size q) hb) (Nat.lt_irrefl _)
        refine fold_few ((Walks.list h3 _ l neI items).toS) s.heap.objs.size nS ks sz few vl s.heap kt (no _ (Nat.le_refl _)) (fun b hb => no b (by
            rw [List.mem_singleton.mp hb, sz1]; exact Nat.le_succ _)) un (items.size - 0) 0 _ (by omega) (Nat.zero_le _)
          ⟨⟨_, Heap.get?_push_size _ rfl, rfl, rfl⟩, (src1.push _)⟩ (fun b o e => Heap.get?_push_of_some _ (Heap.get?_push_of_some _ e)) ?c0 ?c1
        case c0 => exact ⟨[], #[], 0, _, setTR_fresh ((Heap.get?_push_of_some _ gS).trans rfl), Got.zero ks⟩
        case c1 =>
          intro u L es ep t mv S' got' kp
          obtain ⟨g, g2, d', tk', os'⟩ := u
          obtain rfl : g2 = s.gens := mv.gens
          obtain rfl : d' = s.drawn := mv.drawn
          obtain rfl : os' = s.os := mv.os
          show wpAny _ _ _ _ _ _
          refine wpAny_pure ?_
          show wpAny _ _ (ret Value.none) _ _ _
          rw [sz] at got'
          exact wpAny_pure ⟨rfl, g, tk', L, es, ep, t, rfl, S', got', kp⟩
      · cases r₂ with
        | error e => exact hr₂
        | ok fl₂ =>
          cases fl₂ with
          | ret r =>
            obtain ⟨rfl, g, tk, L, es, ep, t, rfl, S', got', k'⟩ := hr₂
            repeat (any_goals (first | assumption | wp_step))
            exact fin _ _ _ _ _ _ S' got' k'
          | _ => exact hr₂.elim
    | _ => exact hr.elim

set_option maxHeartbeats 3200000 in
theorem set_of_tuple {l : Addr} {items : Array Value} (ks : List (Addr × List Int)) {Q : Value → Shared → Prop} (hh : A.handled = none) (src : s.heap.IsTuple l items) (itm : items.toList = ks.map fun p => Value.ref p.1)
    (kt : ∀ p ∈ ks, IsT P w s.heap p.2 p.1) (few : ∀ L : List (Addr × List Int), (L.map (·.2)).Nodup → (∀ p ∈ L, p ∈ ks) → L.length < 63) (un : A.units + 3 < cLine)
    (fin : ∀ (g : Heap) (tk : Nat) L es ep t, SetTR P w g s.heap.objs.size L es ep t → Got ks ks.length L → (∀ b o, s.heap.get? b = some o → g.get? b = some o) → Q (.ref s.heap.objs.size) { s with heap := g, toks := tk }) :
    wpAny (model P w) A (call (.type "set") [.ref l]) Q E s := by
  have sz : items.size = ks.length := by rw [← Array.length_toList, itm, List.length_map]
  obtain ⟨cm, tm, mro⟩ := F.called_set.mro
  have hmade := F.called_set.made
  have hsub := F.called_set.sub
  refine wpAny_call (codeAny_of_tree ?_)
  show wpAny _ _ (callAny (.type "set") _) _ _ _
  refine wpAny_pure ⟨Code.quiet_builtin _ (by decide +kernel), codeAny_builtin F.entry_type_call ?_⟩
  rw [Around.under_plain (weight_type_call_type "set" [.ref l] []) rfl]
  have a1 := F.called_set.notType
  have a2 := F.called_set.canCreate
  have a3 := F.typeCall_set_1 (.ref l)
  repeat (any_goals (first | assumption | wp_step))
  refine codeAny_mono (code_set_led1 (.ref l) (E := E) (Q₁ := fun obj s₁ => obj = .ref s.heap.objs.size ∧ s₁ = { s with heap := s.heap.push { cls := .type "set", dict := none, data := .set #[] 0 (.fresh 0 0 (!w.params.followText "set-order")) } }) ⟨rfl, rfl⟩) fun r s₁ hr => ?_
  cases r with
  | error e => exact hr
  | ok fl =>
    cases fl with
    | ret obj =>
      obtain ⟨rfl, rfl⟩ := hr
      have gS : (s.heap.push { cls := .type "set", dict := none, data := .set #[] 0 (.fresh 0 0 (!w.params.followText "set-order")) }).get? s.heap.objs.size = some { cls := .type "set", dict := none, data := .set #[] 0 (.fresh 0 0 (!w.params.followText "set-order")) } := Heap.get?_push_size _ rfl
      have gT : Shared.TypeIs { s with heap := s.heap.push { cls := .type "set", dict := none, data := .set #[] 0 (.fresh 0 0 (!w.params.followText "set-order")) } } (.ref s.heap.objs.size) "set" := ⟨_, gS, rfl⟩
      have a4 := F.called_set.init.lookup
      have a5 := F.called_set.init.bind (.ref s.heap.objs.size)
      repeat (any_goals (first | assumption | wp_step))
      refine codeAny_mono (codeAny_call_builtin (R := wants (fun r s₂ => r = .none ∧ ∃ g tk L es ep t, s₂ = { s with heap := g, toks := tk } ∧ SetTR P w g s.heap.objs.size L es ep t ∧ Got ks ks.length L ∧ (∀ b o, s.heap.get? b = some o → g.get? b = some o)) E) F.called_set.init.plain F.entry_set_init (check_set_init_1 gT ?_)) fun r₂ s₂ hr₂ => ?_
      · obtain ⟨⟨ocls, odict, odata, oslots⟩, ol, kcl, kn, kdt⟩ := src
        simp only at kcl kdt
        subst kcl; subst kdt
        have ol' : (s.heap.push { cls := .type "set", dict := none, data := .set #[] 0 (.fresh 0 0 (!w.params.followText "set-order")) }).get? l = some { cls := .type "tuple", dict := odict, data := .seq items kn, slots := oslots } := Heap.get?_push_of_some _ ol
        have b1 := F.sub_tuple_set
        have b2 := F.sub_tuple_frozenset
        have b3 : (Value.type "tuple" == Value.type "dict") = false := by decide
        have src1 : (s.heap.push { cls := .type "set", dict := none, data := .set #[] 0 (.fresh 0 0 (!w.params.followText "set-order")) }).IsTuple l items := ⟨_, ol', rfl, kn, rfl⟩
        unfold Builtin.«set.__init__» noKeywords Builtin.Frozenset.updateFrom
        generalize pI : pyIter = PI
        wp_walk
        subst pI
        refine wpAny_pyIter_tuple src1 ?_
        refine wpAny_bind (wpAny_runValue ?_)
        have lS : l < s.heap.objs.size := Heap.lt_size ol
        have h3 : A.in1.in1.in1.handled = none := by simp [hh]
        have sz1 : (s.heap.push { cls := .type "set", dict := none, data := .set #[] 0 (.fresh 0 0 (!w.params.followText "set-order")) }).objs.size = s.heap.objs.size + 1 := Heap.size_push ..
        have neI : l ≠ (s.heap.push { cls := .type "set", dict := none, data := .set #[] 0 (.fresh 0 0 (!w.params.followText "set-order")) }).objs.size := by rw [sz1]; exact Nat.ne_of_lt (Nat.lt_succ_of_lt lS)
        have nS : s.heap.objs.size ∉ [(s.heap.push { cls := .type "set", dict := none, data := .set #[] 0 (.fresh 0 0 (!w.params.followText "set-order")) }).objs.size, l] := by
          rw [sz1]
          simp only [List.mem_cons, List.not_mem_nil, or_false, not_or]
          exact ⟨Nat.ne_of_lt (Nat.lt_succ_self _), Nat.ne_of_gt lS⟩
        have vl : ∀ (i : Nat) (v : Value), items[i]? = some v → ∃ p, ks[i]? = some p ∧ v = .ref p.1 := fun i v hv => by
          have q : items.toList[i]? = some v := by rw [Array.getElem?_toList]; exact hv
          rw [itm, List.getElem?_map] at q
          obtain ⟨p, hp, e⟩ := Option.map_eq_some_iff.mp q
          exact ⟨p, hp, e.symm⟩
        have no : ∀ b, s.heap.objs.size ≤ b → s.heap.get? b = none := fun b hb => by
          cases q : s.heap.get? b with
          | none => rfl
          | some o => exact absurd (Nat.lt_of_lt_of_le (Heap.lt_size q) hb) (Nat.lt_irrefl _)
        refine fold_few ((Walks.tuple h3 _ l neI items).toS) s.heap.objs.size nS ks sz few vl s.heap kt (no _ (Nat.le_refl _)) (fun b hb => no b (by
            rw [List.mem_singleton.mp hb, sz1]; exact Nat.le_succ _)) un (items.size - 0) 0 _ (by omega) (Nat.zero_le _)
          ⟨⟨_, Heap.get?_push_size _ rfl, rfl, rfl⟩, (src1.push _)⟩ (fun b o e => Heap.get?_push_of_some _ (Heap.get?_push_of_some _ e)) ?c0 ?c1
        case c0 => exact ⟨[], #[], 0, _, setTR_fresh ((Heap.get?_push_of_some _ gS).trans rfl), Got.zero ks⟩
        case c1 =>
          intro u L es ep t mv S' got' kp
          obtain ⟨g, g2, d', tk', os'⟩ := u
          obtain rfl : g2 = s.gens := mv.gens
          obtain rfl : d' = s.drawn := mv.drawn
          obtain rfl : os' = s.os := mv.os
          show wpAny _ _ _ _ _ _
          refine wpAny_pure ?_
          show wpAny _ _ (ret Value.none) _ _ _
          rw [sz] at got'
          exact wpAny_pure ⟨rfl, g, tk', L, es, ep, t, rfl, S', got', kp⟩
      · cases r₂ with
        | error e => exact hr₂
        | ok fl₂ =>
          cases fl₂ with
          | ret r =>
            obtain ⟨rfl, g, tk, L, es, ep, t, rfl, S', got', k'⟩ := hr₂
            repeat (any_goals (first | assumption | wp_step))
            exact fin _ _ _ _ _ _ S' got' k'
          | _ => exact hr₂.elim
    | _ => exact hr.elim
end
end Dn

/-! Den1: values by content, slots, what a run of a text gives, and what stands for it in the heap. -/
namespace Dn
open PySem PySem.Spec L2
open PyProof.Rows hiding St

/-! ### outcomes -/
structure Exc where
  cls : Str
  arg : Option PyData
inductive Out (α : Type) where
  | ok (a : α) | exc (x : Exc) | stuck
namespace Out
def bind {α β : Type} (c : Out α) (f : α → Out β) : Out β := match c with
  | .ok a => f a
  | .exc x => .exc x
  | .stuck => .stuck
instance : Monad Out where
  pure := .ok
  bind := Out.bind
def wp {α : Type} (c : Out α) (P : α → Prop) (E : Exc → Prop) : Prop := match c with
  | .ok a => P a
  | .exc x => E x
  | .stuck => False
end Out
@[simp] theorem bind_ok {α β : Type} (a : α) (f : α → Out β) : (Out.ok a >>= f) = f a := rfl
@[simp] theorem bind_exc {α β : Type} (x : Exc) (f : α → Out β) : ((Out.exc x : Out α) >>= f) = .exc x := rfl
@[simp] theorem bind_stuck {α β : Type} (f : α → Out β) : ((Out.stuck : Out α) >>= f) = .stuck := rfl
@[simp] theorem pure_ok {α : Type} (a : α) : (pure a : Out α) = .ok a := rfl
theorem wp_bind {α β : Type} {c : Out α} {f : α → Out β} {P : β → Prop} {E : Exc → Prop} (h : (c >>= f).wp P E) : c.wp (fun a => (f a).wp P E) E := by
  cases c with
  | ok a => exact h
  | exc x => exact h
  | stuck => exact h
theorem wp_mono {α : Type} {c : Out α} {P P' : α → Prop} {E E' : Exc → Prop} (h : c.wp P E) (hP : ∀ a, P a → P' a) (hE : ∀ x, E x → E' x) : c.wp P' E' := by
  cases c with
  | ok a => exact hP a h
  | exc x => exact hE x h
  | stuck => exact h
def guard' {α : Type} (b : Bool) (c : Out α) : Out α := if b then c else .stuck
theorem wp_guard {α : Type} {b : Bool} {c : Out α} {P : α → Prop} {E : Exc → Prop} (h : (guard' b c).wp P E) : b = true ∧ c.wp P E := by
  unfold guard' at h
  cases b with
  | true => exact ⟨rfl, h⟩
  | false => exact h.elim
@[simp] theorem guard_true {α : Type} (c : Out α) : guard' true c = c := rfl

/-! ### slots -/
/-- a name's content: unset; a thing that never changes again; a list, a dict of its own; the script -/
inductive Slot where
  | un | val (d : PyData) | own (ds : List PyData) | odc (t : Bool) (es : List (PyData × PyData)) | scr (ns : List Int)
abbrev Env := List Slot
def Slot.isOwn : Slot → Bool
  | .own _ => true
  | .odc _ _ => true
  | _ => false

/-! ### what stands in the heap -/
def Ex (H H' : Hp) : Prop := ∀ a o, H a = some o → H' a = some o
theorem Ex.refl (H : Hp) : Ex H H := fun _ _ h => h
theorem Ex.trans {H H1 H2 : Hp} (a : Ex H H1) (b : Ex H1 H2) : Ex H H2 := fun x o h => b x o (a x o h)
theorem Ex.new {H : Hp} {p : Addr} {o : HO} (h : H p = none) : Ex H (upd H p o) := fun a u e => by
  rw [upd_ne (ne_of_none e h)]
  exact e
theorem Ex.put {H H' : Hp} {p : Addr} {o : HO} (e : Ex H H') (h : H p = none) : Ex H (upd H' p o) := fun a u ha => by
  rw [upd_ne (ne_of_none ha h)]
  exact e a u ha
theorem Ex.free {H H' : Hp} (e : Ex H H') {p : Addr} (h : H' p = none) : H p = none := by
  cases q : H p with
  | none => rfl
  | some o => rw [e p o q] at h; cases h
theorem Ex.rd {H H' : Hp} {a : Addr} {u : HO} (e : Ex H H') (h : Rd H a u) : Rd H' a u := by
  rcases h with h | ⟨o, h⟩
  · exact .inl (e a _ h)
  · exact .inr ⟨o, e a _ h⟩
theorem Ex.sqL {K : PySem.W.Frag} {H H' : Hp} {a : Addr} {xs : List V} (e : Ex H H') (h : SqL K H a xs) : SqL K H' a xs := by
  rcases h with h | h
  · exact .inl (e.rd h)
  · exact .inr h
theorem Ex.sqT {K : PySem.W.Frag} {H H' : Hp} {a : Addr} {xs : List V} (e : Ex H H') (h : SqT K H a xs) : SqT K H' a xs := by
  rcases h with h | h
  · exact .inl (e.rd h)
  · exact .inr h

def keyD : Key → PyData
  | .inl i => .int i
  | .inr s => .str s
mutual
inductive Rp (K : PySem.W.Frag) (H : Hp) : PyData → V → Prop
  | non : Rp K H .none .non
  | bl (b : Bool) : Rp K H (.bool b) (.bl b)
  | int (i : Int) : Rp K H (.int i) (.int i)
  | str (x : Str) : Rp K H (.str x) (.str x)
  | lst {a : Addr} {vs : List V} {ds : List PyData} : H a = some (.lst vs) → RpAll K H ds vs → Rp K H (.list ds) (.ref a)
  | tup {a : Addr} {o : Obj} {vs : List V} {ds : List PyData} : H a = some (.frz o (.tup vs)) → o.dict = none → RpAll K H ds vs → Rp K H (.tuple ds) (.ref a)
  | dK {a : Addr} {kvs : List (Key × V)} {es : List (PyData × PyData)} : H a = some (.dK kvs) → RpK K H es kvs → Rp K H (.dict es) (.ref a)
  | dT {a : Addr} {o : Obj} {kvs : List (Key × V)} {es : List (PyData × PyData)} : H a = some (.frz o (.dK kvs)) → RpK K H es kvs → Rp K H (.dict es) (.ref a)
inductive RpAll (K : PySem.W.Frag) (H : Hp) : List PyData → List V → Prop
  | nil : RpAll K H [] []
  | cons {v : V} {vs : List V} {d : PyData} {ds : List PyData} : Rp K H d v → RpAll K H ds vs → RpAll K H (d :: ds) (v :: vs)
inductive RpK (K : PySem.W.Frag) (H : Hp) : List (PyData × PyData) → List (Key × V) → Prop
  | nil : RpK K H [] []
  | cons {k : Key} {v : V} {vs : List (Key × V)} {d : PyData} {ds : List (PyData × PyData)} : Rp K H d v → RpK K H ds vs → RpK K H ((keyD k, d) :: ds) ((k, v) :: vs)
end
section
variable {K : PySem.W.Frag} {H H' : Hp}
mutual
theorem Rp.mono (e : Ex H H') : ∀ (d : PyData) (v : V), Rp K H d v → Rp K H' d v
  | .none, _, h => by cases h; exact .non
  | .bool b, _, h => by cases h; exact .bl b
  | .int i, _, h => by cases h; exact .int i
  | .str x, _, h => by cases h; exact .str x
  | .list ds, _, h => by
    cases h with
    | lst hs ha => exact .lst (e _ _ hs) (RpAll.mono e ds _ ha)
  | .tuple ds, _, h => by
    cases h with
    | tup hs hd ha => exact .tup (e _ _ hs) hd (RpAll.mono e ds _ ha)
  | .dict es, _, h => by
    cases h with
    | dK hs ha => exact .dK (e _ _ hs) (RpK.mono e es _ ha)
    | dT hs ha => exact .dT (e _ _ hs) (RpK.mono e es _ ha)
theorem RpAll.mono (e : Ex H H') : ∀ (ds : List PyData) (vs : List V), RpAll K H ds vs → RpAll K H' ds vs
  | [], _, h => by cases h; exact .nil
  | d :: ds, _, h => by
    cases h with
    | cons h1 h2 => exact .cons (Rp.mono e d _ h1) (RpAll.mono e ds _ h2)
theorem RpK.mono (e : Ex H H') : ∀ (ds : List (PyData × PyData)) (vs : List (Key × V)), RpK K H ds vs → RpK K H' ds vs
  | [], _, h => by cases h; exact .nil
  | (kd, d) :: ds, _, h => by
    cases h with
    | cons h1 h2 => exact .cons (Rp.mono e d _ h1) (RpK.mono e ds _ h2)
end
end

/-! ### dicts whose keys are tuples of whole numbers, by their own entries -/
def entI (x : List Int × Addr × Value) : DictEntry := ⟨reduceHash (Builtin.Tuple.tupleHashOf (x.1.map hashInt)), .ref x.2.1, x.2.2⟩
def TabI (a : Addr) (kvs : List (List Int × Addr × V)) (h : Heap) : Prop := kvs.length ≤ sizeLine ∧ (a == sysModules) = false ∧ ∃ xs : List (List Int × Addr × Value),
  Paired (fun (p : List Int × Addr × V) (q : List Int × Addr × Value) => p.1 = q.1 ∧ p.2.1 = q.2.1 ∧ RelV p.2.2 q.2.2) kvs xs ∧
  ∃ o es ep, h.get? a = some o ∧ o.ExactDict ∧ o.data = .dict es ep ∧ es.toList = xs.map entI ∧ (xs.map (·.1)).Nodup
def tabO (a : Addr) (kvs : List (List Int × Addr × V)) : HO := .ext (TabI a kvs)
/-- such an object stands at its own address -/
theorem tabO_at {P : Program} {w : World} {H : Hp} {h : Heap} {a b : Addr} {kvs : List (List Int × Addr × V)} (ok : ObjOk P w H h b (tabO a kvs)) : a = b := by
  obtain ⟨h1, ⟨o, ho⟩, st⟩ := ok
  refine Decidable.byContradiction fun ne => ?_
  have h2 := st h (h.update a fun o => { o with data := .freed }) h1 fun o e => by
    rw [Heap.get?_update_ne h b a _ (Ne.symm ne)]
    exact e
  obtain ⟨_, _, xs, _, o2, es, ep, e2, _, e3, _⟩ := h2
  have fr : (h.update a fun o => { o with data := .freed }).get? a = none := by
    show (match (h.objs.modify a fun o => { o with data := .freed })[a]? with
      | some ⟨_, _, .freed, _⟩ => none
      | o => o) = none
    rw [Array.getElem?_modify]
    cases h.objs[a]? with
    | none => simp
    | some o => simp
  rw [fr] at e2
  cases e2
theorem tabO_ok {P : Program} {w : World} {H : Hp} {h : Heap} {a : Addr} {kvs : List (List Int × Addr × V)} (t : TabI a kvs h) : ObjOk P w H h a (tabO a kvs) := by
  have st : ∀ h1 h2 : Heap, TabI a kvs h1 → (∀ o, h1.get? a = some o → h2.get? a = some o) → TabI a kvs h2 := by
    rintro h1 h2 ⟨z, y, xs, r, o, es, ep, e, c⟩ k
    exact ⟨z, y, xs, r, o, es, ep, k o e, c⟩
  refine ⟨t, ?_, st⟩
  obtain ⟨_, _, _, _, o, _, _, e, _⟩ := t
  exact ⟨o, e⟩
theorem tabO_of {P : Program} {w : World} {H : Hp} {h : Heap} {a b : Addr} {kvs : List (List Int × Addr × V)} (ok : ObjOk P w H h b (tabO a kvs)) : a = b ∧ TabI b kvs h := by
  have e := tabO_at ok
  subst e
  exact ⟨rfl, ok.1⟩
inductive RpI (K : PySem.W.Frag) (H : Hp) : List (PyData × PyData) → List (List Int × Addr × V) → Prop
  | nil : RpI K H [] []
  | cons {k : List Int} {b : Addr} {v : V} {vs : List (List Int × Addr × V)} {d : PyData} {ds : List (PyData × PyData)} : Rp K H (.tuple (k.map .int)) (.ref b) → Rp K H d v → RpI K H ds vs → RpI K H ((.tuple (k.map .int), d) :: ds) ((k, b, v) :: vs)
theorem RpI.mono {K : PySem.W.Frag} {H H' : Hp} (e : Ex H H') : ∀ {ds : List (PyData × PyData)} {vs : List (List Int × Addr × V)}, RpI K H ds vs → RpI K H' ds vs
  | _, _, .nil => .nil
  | _, _, .cons h0 h1 h2 => .cons (Rp.mono e _ _ h0) (Rp.mono e _ _ h1) (RpI.mono e h2)

/-! ### a slot's content in the heap -/
/-- an own object's content -/
def OwnIs (K : PySem.W.Frag) (F : Hp) (o : HO) : Slot → Prop
  | .own ds => ∃ vs, o = .lst vs ∧ RpAll K F ds vs
  | .odc false es => ∃ kvs, o = .dK kvs ∧ RpK K F es kvs
  | .odc true es => ∃ a kvs, o = tabO a kvs ∧ RpI K F es kvs
  | _ => False
theorem OwnIs.mono {K : PySem.W.Frag} {F F' : Hp} {o : HO} {s : Slot} (e : Ex F F') (h : OwnIs K F o s) : OwnIs K F' o s := by
  cases s with
  | own ds => obtain ⟨vs, r, q⟩ := h; exact ⟨vs, r, q.mono e⟩
  | odc t es =>
    cases t with
    | false => obtain ⟨vs, r, q⟩ := h; exact ⟨vs, r, q.mono e⟩
    | true => obtain ⟨a, vs, r, q⟩ := h; exact ⟨a, vs, r, q.mono e⟩
  | un => exact h
  | val d => exact h
  | scr ns => exact h
/-- frozen -/
def Slot.ice : Slot → Slot
  | .own ds => .val (.list ds)
  | .odc false es => .val (.dict es)
  | s => s
/-- it may be frozen -/
def Slot.soft : Slot → Bool
  | .odc true _ => false
  | _ => true
theorem OwnIs.ice {K : PySem.W.Frag} {F : Hp} {o : HO} {s : Slot} {a : Addr} (hF : F a = some o) (h : OwnIs K F o s) (hs : s.soft = true) : ∃ d, s.ice = .val d ∧ Rp K F d (.ref a) := by
  cases s with
  | own ds => obtain ⟨vs, rfl, q⟩ := h; exact ⟨_, rfl, .lst hF q⟩
  | odc t es =>
    cases t with
    | false => obtain ⟨vs, rfl, q⟩ := h; exact ⟨_, rfl, .dK hF q⟩
    | true => cases hs
  | un => exact h.elim
  | val d => exact h.elim
  | scr ns => exact h.elim

/-! ### the frame: what a run keeps -/
/-- K the written part; F0, H0: the frozen and the whole heap at the frame's entry; L i a: the object at a is lent to it by its slot i; vs: the first slots' values, which stay -/
structure Bd where
  K : PySem.W.Frag
  F0 : Hp
  H0 : Hp
  L : Nat → Addr → Prop
  vs : List V
def Bd.La (B : Bd) (a : Addr) : Prop := ∃ i, B.L i a
/-- the frame's promises to its caller -/
structure Kept (B : Bd) (F H : Hp) : Prop where
  ff : Ex B.F0 F
  ex : Ex F H
  keep : ∀ a o, B.H0 a = some o → ¬ B.La a → H a = some o
  nof : ∀ a, B.H0 a ≠ none → B.F0 a = none → ¬ B.La a → F a = none
  live : ∀ a, B.H0 a ≠ none → H a ≠ none
/-- the slots -/
structure Sl (B : Bd) (F H : Hp) (ρ : Env) (σ : St) : Prop where
  len : ρ.length = σ.length
  val : ∀ (i : Nat) (d : PyData), ρ[i]? = some (Slot.val d) → ∃ v, σ[i]? = some (some v) ∧ Rp B.K F d v
  scr : ∀ (i : Nat) (ns : List Int), ρ[i]? = some (Slot.scr ns) → ∃ a, σ[i]? = some (some (.ref a)) ∧ SqL B.K F a (ns.map V.int)
  own : ∀ (i : Nat) (s : Slot), ρ[i]? = some s → s.isOwn = true → ∃ a o, σ[i]? = some (some (.ref a)) ∧ F a = none ∧ H a = some o ∧ OwnIs B.K F o s ∧ (B.L i a ∨ B.H0 a = none)
  par : ∀ (i : Nat) (v : V), B.vs[i]? = some v → σ[i]? = some (some v)
  dis : ∀ (i j : Nat) (s t : Slot) (a : Addr), i ≠ j → ρ[i]? = some s → s.isOwn = true → ρ[j]? = some t → t.isOwn = true → σ[i]? = some (some (.ref a)) → σ[j]? ≠ some (some (.ref a))
structure Rel (B : Bd) (F H : Hp) (ρ : Env) (σ : St) : Prop where
  kept : Kept B F H
  sl : Sl B F H ρ σ
/-- a result: v stands for s; an own one stands apart from the slots -/
def Res (B : Bd) (F H : Hp) (ρ : Env) (σ : St) (s : Slot) (v : V) : Prop := match s with
  | .val d => Rp B.K F d v
  | .un => False
  | .scr _ => False
  | s => ∃ a o, v = .ref a ∧ F a = none ∧ H a = some o ∧ OwnIs B.K F o s ∧ B.H0 a = none ∧ ∀ (i : Nat) (t : Slot), ρ[i]? = some t → t.isOwn = true → σ[i]? ≠ some (some (.ref a))

section
variable {B : Bd} {F H F' H' : Hp} {ρ ρ' : Env} {σ σ' : St} {s : Slot} {v : V} {a : Addr} {o : HO}
theorem own_of_ownIs {K : PySem.W.Frag} (h : OwnIs K F o s) : s.isOwn = true := by
  cases s <;> first | rfl | exact h.elim
theorem Res.of_own (hs : s.isOwn = true) : Res B F H ρ σ s v ↔ ∃ a o, v = .ref a ∧ F a = none ∧ H a = some o ∧ OwnIs B.K F o s ∧ B.H0 a = none ∧ ∀ (i : Nat) (t : Slot), ρ[i]? = some t → t.isOwn = true → σ[i]? ≠ some (some (.ref a)) := by
  cases s <;> first | exact Iff.rfl | cases hs

/-- new objects in the heap, nothing else -/
theorem Kept.grow (k : Kept B F H) (e : Ex H H') : Kept B F H' := ⟨k.ff, k.ex.trans e, fun a o h n => e _ _ (k.keep a o h n), k.nof, fun a h => by
  have := k.live a h
  cases q : H a with
  | none => exact absurd q this
  | some o => rw [e a o q]; exact fun z => by cases z⟩
theorem Sl.grow (k : Sl B F H ρ σ) (e : Ex H H') : Sl B F H' ρ σ := ⟨k.len, k.val, k.scr, fun i s h hs => let ⟨a, o, h1, h2, h3, h4, h5⟩ := k.own i s h hs; ⟨a, o, h1, h2, e _ _ h3, h4, h5⟩, k.par, k.dis⟩
theorem Rel.grow (k : Rel B F H ρ σ) (e : Ex H H') : Rel B F H' ρ σ := ⟨k.kept.grow e, k.sl.grow e⟩
theorem Res.grow (h : Res B F H ρ σ s v) (e : Ex H H') : Res B F H' ρ σ s v := by
  cases s with
  | val d => exact h
  | un => exact h
  | scr _ => exact h
  | own ds => obtain ⟨a, o, h1, h2, h3, h4⟩ := h; exact ⟨a, o, h1, h2, e _ _ h3, h4⟩
  | odc t es => obtain ⟨a, o, h1, h2, h3, h4⟩ := h; exact ⟨a, o, h1, h2, e _ _ h3, h4⟩
/-- an object that is none of the caller's is frozen -/
theorem Kept.freeze (k : Kept B F H) (hF : F a = none) (hH : H a = some o) (hn : B.La a ∨ B.H0 a = none) : Kept B (upd F a o) H := by
  refine ⟨k.ff.trans (.new hF), fun b u h => ?_, k.keep, fun b h1 h2 h3 => ?_, k.live⟩
  · by_cases e : b = a
    · subst e; rw [upd_same] at h; rw [← h]; exact hH
    · rw [upd_ne e] at h; exact k.ex _ _ h
  · by_cases e : b = a
    · subst e
      rcases hn with z | z
      · exact absurd z h3
      · exact absurd z h1
    · rw [upd_ne e]; exact k.nof b h1 h2 h3
/-- .. where no slot owns it -/
theorem Sl.freeze (k : Sl B F H ρ σ) (hF : F a = none) (hd : ∀ (i : Nat) (t : Slot), ρ[i]? = some t → t.isOwn = true → σ[i]? ≠ some (some (.ref a))) : Sl B (upd F a o) H ρ σ := by
  have e : Ex F (upd F a o) := .new hF
  refine ⟨k.len, fun i d h => ?_, fun i ns h => ?_, fun i s h hs => ?_, k.par, k.dis⟩
  · obtain ⟨v, h1, h2⟩ := k.val i d h; exact ⟨v, h1, h2.mono e⟩
  · obtain ⟨v, h1, h2⟩ := k.scr i ns h; exact ⟨v, h1, e.sqL h2⟩
  · obtain ⟨b, u, h1, h2, h3, h4, h5⟩ := k.own i s h hs
    have ne : b ≠ a := fun z => by subst z; exact hd i s h hs h1
    exact ⟨b, u, h1, by rw [upd_ne ne]; exact h2, h3, h4.mono e, h5⟩
/-- a result frozen -/
theorem Res.freeze (k : Rel B F H ρ σ) (h : Res B F H ρ σ s v) (sf : s.soft = true) : ∃ F' d, Rel B F' H ρ σ ∧ Ex F F' ∧ s.ice = .val d ∧ Rp B.K F' d v := by
  cases hs : s.isOwn with
  | true =>
    obtain ⟨a, o, rfl, hF, hH, hO, h0, hd⟩ := (Res.of_own hs).mp h
    have e : Ex F (upd F a o) := .new hF
    obtain ⟨d, e1, e2⟩ := (hO.mono e).ice (upd_same (H := F) (a := a) (o := o)) sf
    exact ⟨upd F a o, d, ⟨k.kept.freeze hF hH (.inr h0), k.sl.freeze hF hd⟩, e, e1, e2⟩
  | false =>
    cases s with
    | val d => exact ⟨F, d, k, .refl F, rfl, h⟩
    | un => exact h.elim
    | scr _ => exact h.elim
    | own _ => cases hs
    | odc _ _ => cases hs
theorem set_get {α : Type} {l : List α} {i j : Nat} {x y : α} (h : (l.set i x)[j]? = some y) : (j = i ∧ y = x ∧ i < l.length) ∨ (j ≠ i ∧ l[j]? = some y) := by
  by_cases e : j = i
  · subst e
    by_cases hl : j < l.length
    · rw [List.getElem?_set_self hl] at h; exact .inl ⟨rfl, (Option.some.inj h).symm, hl⟩
    · rw [List.getElem?_eq_none (by rw [List.length_set]; omega)] at h; cases h
  · rw [List.getElem?_set_ne (Ne.symm e)] at h; exact .inr ⟨e, h⟩
/-- a slot that owns is frozen where it stands -/
theorem Rel.iceAt (k : Rel B F H ρ σ) {i : Nat} (h : ρ[i]? = some s) (hs : s.isOwn = true) (sf : s.soft = true) : ∃ F' d v, Rel B F' H (ρ.set i s.ice) σ ∧ Ex F F' ∧ s.ice = .val d ∧ σ[i]? = some (some v) ∧ Rp B.K F' d v := by
  obtain ⟨a, o, h1, h2, h3, h4, h5⟩ := k.sl.own i s h hs
  have e : Ex F (upd F a o) := .new h2
  obtain ⟨d, e1, e2⟩ := (h4.mono e).ice (upd_same (H := F) (a := a) (o := o)) sf
  have dis : ∀ (j : Nat) (t : Slot), (ρ.set i s.ice)[j]? = some t → t.isOwn = true → ρ[j]? = some t ∧ j ≠ i := fun j t q qs => by
    rcases set_get q with ⟨_, z, _⟩ | ⟨z1, z2⟩
    · rw [z, e1] at qs; cases qs
    · exact ⟨z2, z1⟩
  refine ⟨upd F a o, d, .ref a, ⟨k.kept.freeze h2 h3 (h5.imp (fun z => ⟨i, z⟩) id), ?_⟩, e, e1, h1, e2⟩
  refine ⟨by rw [List.length_set]; exact k.sl.len, fun j d' q => ?_, fun j ns q => ?_, fun j t q qs => ?_, k.sl.par, fun j m t u b ne q qs q' qs' e3 => ?_⟩
  · rcases set_get q with ⟨z, z2, _⟩ | ⟨z, z2⟩
    · rw [e1] at z2
      cases z2
      rw [z]
      exact ⟨_, h1, e2⟩
    · obtain ⟨v, q1, q2⟩ := k.sl.val j d' z2
      exact ⟨v, q1, q2.mono e⟩
  · rcases set_get q with ⟨z, z2, _⟩ | ⟨z, z2⟩
    · rw [e1] at z2; cases z2
    · obtain ⟨v, q1, q2⟩ := k.sl.scr j ns z2
      exact ⟨v, q1, e.sqL q2⟩
  · obtain ⟨q', ne⟩ := dis j t q qs
    obtain ⟨b, u, g1, g2, g3, g4, g5⟩ := k.sl.own j t q' qs
    have nb : b ≠ a := fun z => by subst z; exact k.sl.dis j i t s b ne q' qs h hs g1 h1
    exact ⟨b, u, g1, by rw [upd_ne nb]; exact g2, g3, g4.mono e, g5⟩
  · obtain ⟨g, _⟩ := dis j t q qs
    obtain ⟨g', _⟩ := dis m u q' qs'
    exact k.sl.dis j m t u b ne g qs g' qs' e3
end
end Dn

/-! DenG: defs called where no repr is under way: their promise, from their bodies, at a call, at the law's own call. -/
namespace Dn
open PySem PySem.Spec L2
open PyProof.Rows hiding St
/-- a def's promise to callers that stand in no repr -/
structure FnG (P : Program) (w : World) (K : PySem.W.Frag) (mg : Str → Option Value) (base : Heap) (C : CXT) (k : Nat) (f : Addr) (fd : FuncData) (ps : List Str) (sp : Sp) : Prop where
  len : ∀ us H Q E, sp us H Q E → us.length = ps.length
  run : ∀ (A : Around), A.guards = some [] → ∀ (outer : List PySem.Env) (s : Shared) (H : Hp) (args : Args) (us : List Value) (vs : List V) (Q : VK) (E : XK),
    Room k A → Env0 P w K mg base A outer s H → BindsTo s fd args (ps.zip us) → Vals vs us → sp vs H Q E → codeAny (model P w) A (.call (.ref f) args) (CR C outer P w H s Q E) s
section
variable {P : Program} {w : World} {K : PySem.W.Frag} {mg : Str → Option Value} {base : Heap} {C : CXT} {k : Nat} {f : Addr} {fd : FuncData} {ps N : List Str} {sp sp' : Sp}
theorem FnG.imp (F : FnG P w K mg base C k f fd ps sp) (h : ∀ us H Q E, sp' us H Q E → sp us H Q E) : FnG P w K mg base C k f fd ps sp' :=
  ⟨fun us H Q E q => F.len us H Q E (h _ _ _ _ q), fun A g outer s H args us vs Q E r e b v q => F.run A g outer s H args us vs Q E r e b v (h _ _ _ _ q)⟩
/-- from the body -/
theorem FnG.of_body {x qual : Str} {st : Stmt} (F : Fun K x qual st f fd) (S : FnScope N ps (defScope st)) (len : ∀ us H Q E, sp us H Q E → us.length = ps.length)
    (body : ∀ (cv : Value) (A : Around) (outer : List PySem.Env) (s : Shared) (H : Hp) (us : List V) (Q : VK) (E : XK), A.guards = some [] → Room k (A.deeper (envOfC qual (defScope st) s.heap.objs.size f cv)) → sp us H Q E →
      ∃ t, PSs (cxOf C P w K mg base N qual (defScope st) f cv A outer s H E) (defBody st) t ∧ t { nx := fun _ H' => Q .non H', rt := Q } (start N us) H) : FnG P w K mg base C (k + 1) f fd ps sp := by
  obtain ⟨oc, od, kV, doc, pm, an, cv, ct, osl, rfl, lk, code⟩ := F.ex
  refine ⟨len, fun A g outer s H args us vs Q E room e0 bind rel sat => ?_⟩
  have old := fun b o e => (e0.bs b o e).1
  have inK := e0.mod.kin.keeps old
  have far := e0.mod.nolimit.keeps old
  have kinds : ∀ y ∈ ps.zip us, (defScope st).names.lookup y.1 = some .local ∨ ((defScope st).names.lookup y.1 = some .cell ∧ ((cellsFrom (s.heap.objs.size + 1) (defScope st).names []).lookup y.1).isSome = true) := by
    intro y hy
    have my := (List.of_mem_zip (show (y.1, y.2) ∈ ps.zip us from hy)).1
    exact (S.par y.1 my).imp id fun q => ⟨q, PySem.W.cellsFrom_some _ _ _ (.inl q)⟩
  refine codeAny_call_function room.depth (inK _ _ lk) rfl S.co S.gen rfl (PySem.W.codeRec_of inK code) (bind _ _ _ _ (wpAny_newFunctionEnv_cells S.kind kinds fun env he s1 enter => ?_))
  subst he
  obtain ⟨t, ht, hq⟩ := body cv A outer s H vs Q E g (room.deeper _) sat
  have J : Inv (cxOf C P w K mg base N qual (defScope st) f cv A outer s H E) [] (start N vs) H s1 := inv_start S room.hd e0 (len _ _ _ _ sat) rel enter
  refine ⟨far.keeps enter.toInCall.keep, codeAny_func (wpAny_mono (ht.run [] s1 (start N vs) H _ J hq) (fun fl s' hs => ?_) fun _ _ hs => hs)⟩
  cases fl with
  | brk => exact hs.elim fun _ z => z.elim fun _ z => z.2.elim
  | cont => exact hs.elim fun _ z => z.elim fun _ z => z.2.elim
  | next =>
    obtain ⟨σ', H', I, q⟩ := hs
    exact ⟨.non, H', I.os, I.bare, I.base, I.hok, rfl, q⟩
  | ret u =>
    obtain ⟨v, σ', H', I, rv, q⟩ := hs
    exact ⟨v, H', I.os, I.bare, I.base, I.hok, rv, q⟩
end
/-- the call of a def by its name -/
theorem pe_callG {X : Cx} {k : Nat} {f : Addr} {fd : FuncData} {ps : List Str} {sp : Sp} {E : St → XK} {x : Str} {p pos : Pos} {e : Expr} {es : List Expr} {t : TA} {C : CXT} (F : FnG X.prog X.w X.K X.mg X.base C k f fd ps sp) (g : X.A.guards = some []) (room : Room k X.A)
    (hg : Gl X x) (hm : X.mg x = some (.ref f)) (hk : PySem.W.keepIn X.K (.ref f) = true) (hb : L2.Binds X.K fd ps []) (hx : ∀ σ, PassesAt C X σ (E σ)) (ha : PA X (e :: es) t) (hd : (x == ("__debug__" : Str)) = false)
    (hs : starEach (e :: es) X.env = (false, eval e X.env) :: starEach es X.env) (hp : (backTo pos (starEach es X.env)).any (·.1) = false) : PE X (.Call (.Name x p) (e :: es) [] pos) (tCallS sp E t) := by
  constructor
  intro pins s σ H Q I h
  refine wpAny_Call_Name_kw (ld_glob I hg hm (PySem.W.callWith_K (h₀ := X.base) I.ok.mod.kin hk (thn (ha.run pos pins s σ H _ I h) fun us s1 z => ?_) hs hp) hd)
  obtain ⟨vs, H1, I1, rel, q⟩ := z
  have b := hb s1 us I1.kIn (by rw [List.append_nil, ← rel.length]; exact F.len _ _ _ _ q)
  rw [List.append_nil] at b
  refine ⟨I1.kIn, wpAny_call (codeAny_mono (F.run X.A g X.stack s1 H1 ⟨us, []⟩ us vs Q (E σ) room I1.env0 b rel q) fun r s' hq => ?_)⟩
  match r, hq with
  | .error err, hq => exact hx σ pins H1 s1 err s' I1 hq
  | .ok (.ret u), hq => exact I1.after hq
  | .ok .next, hq => exact hq.elim
  | .ok .brk, hq => exact hq.elim
  | .ok .cont, hq => exact hq.elim
/-- the law's own call: before it nothing but the script is known -/
theorem lawG {P : Program} {w : World} {K : PySem.W.Frag} {mg mb : Str → Option Value} {C : CXT} {k : Nat} {fa a : Addr} {fd : FuncData} {x : Str} {sp : Sp} {s : Shared} {vs : List Value} {ns : List Int}
    (inK : K.In s.heap) (gns : s.heap.Ns mainGlobals mg) (bns : s.heap.Ns builtinsNs mb) (boot : ∀ y : Str, y ≠ "__name__" → mb y = bootBuiltins y) (nl : s.heap.NoLimit) (gens : s.gens = #[])
    (obj : s.heap.get? a = some { cls := .type "list", data := .seq vs.toArray }) (iv : IntsAre vs ns) (short : ns.length ≤ sizeLine) (room : Room k callerA)
    (F : ∀ base : Heap, K.In base → base.Ns mainGlobals mg → FnG P w K mg base C k fa fd [x] sp) (bind : ∀ (s : Shared) (u : Value), BindsTo s fd ⟨[u], []⟩ [(x, u)])
    (good : ∀ H : Hp, Only H → SqL K H a (ns.map V.int) → sp [.ref a] H (fun v _ => v = .bl true) fun _ _ _ => False)
    (none' : ∀ H e s', C [] H s (fun _ _ _ => False) e s' → False) :
    codeAny (model P w) callerA (.call (.ref fa) ⟨[.ref a], []⟩) (fun r s' => r = .ok (.ret (.bool true)) ∧ OldK s.heap s'.heap ∧ s'.os = s.os ∧ AllBare s'.gens) s := by
  have vi := vals_ints iv
  have from_ : ∀ H : Hp, (∀ b, H b = none ∨ (b = a ∧ ∃ o xs, H b = some (.frz o (.lst xs)))) → SqL K H a (ns.map V.int) → HOk P w H s.heap → (H a ≠ none → K.lookup a = none) →
      codeAny (model P w) callerA (.call (.ref fa) ⟨[.ref a], []⟩) (fun r s' => r = .ok (.ret (.bool true)) ∧ OldK s.heap s'.heap ∧ s'.os = s.os ∧ AllBare s'.gens) s := by
    intro H only sq ok out
    have only' : Only H := fun b => (only b).imp id fun q => q.2
    have no : ∀ {b : Addr}, b ≠ a → H b = none := fun {b} ne => (only b).elim id fun q => absurd q.1 ne
    have dict : ∀ {b : Addr} {o : Obj} {es : Array DictEntry} {ep : Nat}, s.heap.get? b = some o → o.data = .dict es ep → H b = none := by
      intro b o es ep e d
      refine no fun z => ?_
      rw [z, obj] at e
      cases e
      cases (show Data.seq vs.toArray _ = Data.dict es ep from d)
    have nsB : ∀ {b : Addr} {m : Str → Option Value}, s.heap.Ns b m → (hidT s.heap H).Ns b m := by
      rintro b m ⟨o, es, ep, e, d, r⟩
      exact ⟨o, es, ep, hidT_get e (dict e d), d, r⟩
    have kB : K.In (hidT s.heap H) := by
      intro b o e
      refine hidT_get (inK b o e) ?_
      rcases only b with z | ⟨rfl, _, _, z⟩
      · exact z
      · rw [out (by rw [z]; exact fun y => nomatch y)] at e
        cases e
    have mod : Mod K mg (hidT s.heap H) := by
      obtain ⟨mc, n1, n2⟩ := nl
      exact ⟨kB, nsB gns, ⟨mb, nsB bns, boot⟩, mc, nsB n1, n2⟩
    have e0 : Env0 P w K mg (hidT s.heap H) callerA [] s H := ⟨rfl, mod, fun b o => of_hidT, Nat.le_of_eq (hidT_size _ _), trivial, fun b z => absurd (show b ∈ ([] : List Addr) from z) List.not_mem_nil, ok, .of_eq gens⟩
    refine codeAny_mono ((F _ kB (nsB gns)).run callerA rfl [] s H ⟨[.ref a], []⟩ [.ref a] [.ref a] _ _ room e0 (bind s (.ref a)) (.cons rfl .nil) (good H only' sq)) fun r s' h => ?_
    match r, h with
    | .error e, h => exact (none' H e s' h).elim
    | .ok .next, h => exact h.elim
    | .ok .brk, h => exact h.elim
    | .ok .cont, h => exact h.elim
    | .ok (.ret u), ⟨v, H', os, bare, un, ok', rv, q⟩ =>
      have q : v = .bl true := q
      subst q
      have e : u = Value.bool true := rv
      subst e
      refine ⟨rfl, OldK.of_keep fun b o e => ?_, os, bare⟩
      rcases only b with z | ⟨_, ob, xs, z⟩
      · exact un.keep b o e z (fun y => absurd (show b ∈ ([] : List Addr) from y) List.not_mem_nil) List.not_mem_nil
      · have h1 := (ok b _ z).1
        have h2 := (ok' b _ (un.frzs b ob _ z)).1
        rw [e] at h1
        cases h1
        exact h2
  have size : vs.toArray.size ≤ sizeLine := by rw [List.size_toArray, iv.length]; exact short
  by_cases lk : K.lookup a = none
  · let ob : Obj := { cls := .type "list", data := .seq vs.toArray }
    let H : Hp := fun b => if b = a then some (.frz ob (.lst (ns.map V.int))) else none
    have at_ : H a = some (.frz ob (.lst (ns.map V.int))) := if_pos rfl
    refine from_ H (fun b => ?_) (.inl (.inr ⟨ob, at_⟩)) (fun b u z => ?_) fun _ => lk
    · by_cases e : b = a
      · exact .inr ⟨e, ob, _, if_pos e⟩
      · exact .inl (if_neg e)
    · have e : b = a := Decidable.byContradiction fun e => by
        have := (if_neg e : H b = none).symm.trans z
        cases this
      subst e
      have := at_.symm.trans z
      cases this
      exact ⟨obj, by rw [List.length_map]; exact short, vs, _, vi, obj⟩
  · obtain ⟨o, lk⟩ := Option.ne_none_iff_exists'.mp lk
    have e := inK a o lk
    rw [obj] at e
    cases e
    exact from_ (fun _ => none) (fun _ => .inl rfl) (.inr ⟨_, vs.toArray, _, lk, rfl, rfl, rfl, size, by simpa using vi⟩) (fun b u z => by cases (show (none : Option HO) = some u from z)) fun z => absurd rfl z
/-- what the head leaves, from the law's promise -/
theorem walkG {l : PySem.W.OpenLaw} {n k : Nat} {q : Program} {loose : List Str} {XP : (Str → Option Value) → Heap → Prop} {YP : World → Heap → Prop} {d : DefRec} {K : Params → PySem.W.Frag} {C : World → CXT} {sp : World → Sp} {x : Str}
    (most : l.most = some n) (n2 : n ≤ sizeLine) (nodef : d.params.defaults = []) (room : Room k callerA) (inY : ∀ (w : World) (h : Heap), YP w h → (K w.params).In h)
    (F : ∀ (w : World) (mg : Str → Option Value) (fa : Addr) (h : Heap), (K w.params).In h → h.Ns mainGlobals mg → mg d.name = some (.ref fa) →
      ∃ fd : FuncData, (∀ (s : Shared) (u : Value), BindsTo s fd ⟨[u], []⟩ [(x, u)]) ∧ ∀ base : Heap, (K w.params).In base → base.Ns mainGlobals mg → FnG l.prog w (K w.params) mg base (C w) k fa fd [x] (sp w))
    (good : ∀ (w : World) (H : Hp) (a : Addr) (ns : List Int), ns.length ≤ n → Only H → SqL (K w.params) H a (ns.map V.int) → sp w [.ref a] H (fun v _ => v = .bl true) fun _ _ _ => False)
    (none' : ∀ (w : World) (H : Hp) (s : Shared) (e : Value) (s' : Shared), C w [] H s (fun _ _ _ => False) e s' → False) :
    PySem.W.WalkO q loose XP YP l.row.toRowW d [] (fun f vs => PySem.call f vs) := by
  refine Att.attach_call most nodef fun w s₀ s₁ mg mb fa o pm cd doc a vs ns G Y ho hd hcd hmg obj iv len gens => ?_
  have inK := inY w _ Y
  obtain ⟨fd, bind, ok⟩ := F w mg fa _ inK G.T.g hmg
  exact lawG inK G.T.g G.T.b G.T.builtins G.T.nolimit gens obj iv (Nat.le_trans len n2) room ok bind (fun H h1 h2 => good w H a ns len h1 h2) fun H e s' => none' w H s₁ e s'
end Dn

/-! Den2: the judgements; names, constants, displays, operations on values, tests, calls. -/
namespace Dn
open PySem PySem.Spec L2
open PyProof.Rows hiding St

/-! ### growth by new things -/
structure Grow (F H F' H' : Hp) : Prop where
  ff : Ex F F'
  hh : Ex H H'
  fh : Ex F' H'
  ap : ∀ a, H a ≠ none → F a = none → F' a = none
theorem Grow.refl {F H : Hp} (e : Ex F H) : Grow F H F H := ⟨.refl F, .refl H, e, fun _ _ h => h⟩
theorem Grow.new {F H : Hp} {p : Addr} {o : HO} (e : Ex F H) (h : H p = none) : Grow F H (upd F p o) (upd H p o) := by
  refine ⟨.new (e.free h), .new h, fun a u q => ?_, fun a h1 h2 => ?_⟩
  · by_cases z : a = p
    · subst z; rw [upd_same] at q ⊢; exact q
    · rw [upd_ne z] at q ⊢; exact e _ _ q
  · by_cases z : a = p
    · subst z; exact absurd h h1
    · rw [upd_ne z]; exact h2
theorem Grow.trans {F H F1 H1 F2 H2 : Hp} (a : Grow F H F1 H1) (b : Grow F1 H1 F2 H2) : Grow F H F2 H2 :=
  ⟨a.ff.trans b.ff, a.hh.trans b.hh, b.fh, fun x h1 h2 => b.ap x (fun z => by
    cases q : H x with
    | none => exact h1 q
    | some o => rw [a.hh x o q] at z; cases z) (a.ap x h1 h2)⟩
section
variable {B : Bd} {F H F' H' : Hp} {ρ : Env} {σ : St}
theorem some_of_ne {o : Option HO} (h : o ≠ none) : ∃ u, o = some u := by
  cases o with
  | none => exact absurd rfl h
  | some u => exact ⟨u, rfl⟩
theorem Ex.live {H H' : Hp} (e : Ex H H') {a : Addr} (h : H a ≠ none) : H' a ≠ none := by
  obtain ⟨o, q⟩ := some_of_ne h
  rw [e a o q]
  exact fun z => by cases z
theorem Rel.add (k : Rel B F H ρ σ) (g : Grow F H F' H') : Rel B F' H' ρ σ := by
  refine ⟨⟨k.kept.ff.trans g.ff, g.fh, fun a o h n => g.hh _ _ (k.kept.keep a o h n), fun a h1 h2 h3 => g.ap a (k.kept.live a h1) (k.kept.nof a h1 h2 h3), fun a h => g.hh.live (k.kept.live a h)⟩,
    ⟨k.sl.len, fun i d h => ?_, fun i ns h => ?_, fun i s h hs => ?_, k.sl.par, k.sl.dis⟩⟩
  · obtain ⟨v, h1, h2⟩ := k.sl.val i d h; exact ⟨v, h1, h2.mono g.ff⟩
  · obtain ⟨v, h1, h2⟩ := k.sl.scr i ns h; exact ⟨v, h1, g.ff.sqL h2⟩
  · obtain ⟨a, o, h1, h2, h3, h4, h5⟩ := k.sl.own i s h hs
    exact ⟨a, o, h1, g.ap a (by rw [h3]; exact fun z => by cases z) h2, g.hh _ _ h3, h4.mono g.ff, h5⟩
end

/-! ### the weakest conditions themselves as readings -/
section
variable {X : Cx}
def wE (X : Cx) (e : Expr) : TE := fun σ H Q => ∀ pins s, Inv X pins σ H s → wpAny (model X.prog X.w) X.A (eval e X.env) (EP X pins σ Q) X.xe s
theorem pe_w {e : Expr} : PE X e (wE X e) := ⟨fun pins s σ H Q I h => h pins s I⟩
theorem _root_.L2.PE.w {e : Expr} {t : TE} {σ : St} {H : Hp} {Q : VK} (h : PE X e t) (q : t σ H Q) : wE X e σ H Q := fun pins s I => h.run pins s σ H Q I q
def wT (X : Cx) (e : Expr) : TT := fun σ H Q => ∀ pins s, Inv X pins σ H s → wpAny (model X.prog X.w) X.A (isTrue e X.env (eval e X.env)) (TP X pins σ Q) X.xe s
theorem pt_w {e : Expr} : PT X e (wT X e) := ⟨fun pins s σ H Q I h => h pins s I⟩
theorem _root_.L2.PT.w {e : Expr} {t : TT} {σ : St} {H : Hp} {Q : Bool → Hp → Prop} (h : PT X e t) (q : t σ H Q) : wT X e σ H Q := fun pins s I => h.run pins s σ H Q I q
def wW (X : Cx) (e : Expr) : TT := fun σ H Q => ∀ (whole : Sem Value) pins s, Inv X pins σ H s → wpAny (model X.prog X.w) X.A (isTrue e X.env whole) (TP X pins σ Q) X.xe s
theorem pw_w {e : Expr} : PW X e (wW X e) := ⟨fun wh pins s σ H Q I h => h wh pins s I⟩
theorem _root_.L2.PW.w {e : Expr} {t : TT} {σ : St} {H : Hp} {Q : Bool → Hp → Prop} (h : PW X e t) (q : t σ H Q) : wW X e σ H Q := fun wh pins s I => h.run wh pins s σ H Q I q
def wA (X : Cx) (es : List Expr) : TA := fun σ H Q => ∀ pos pins s, Inv X pins σ H s → wpAny (model X.prog X.w) X.A (spliced (backTo pos (starEach es X.env))) (AP X pins σ Q) X.xe s
theorem pa_w {es : List Expr} : PA X es (wA X es) := ⟨fun pos pins s σ H Q I h => h pos pins s I⟩
theorem _root_.L2.PA.w {es : List Expr} {t : TA} {σ : St} {H : Hp} {Q : List V → Hp → Prop} (h : PA X es t) (q : t σ H Q) : wA X es σ H Q := fun pos pins s I => h.run pos pins s σ H Q I q
def wEs (X : Cx) : List Expr → TA
  | [], _, H, Q => Q [] H
  | e :: es, σ, H, Q => wE X e σ H fun x H1 => wEs X es σ H1 fun xs H2 => Q (x :: xs) H2
theorem wE.mono {e : Expr} {σ : St} {H : Hp} {Q Q' : VK} (h : wE X e σ H Q) (q : ∀ v H', Q v H' → Q' v H') : wE X e σ H Q' := fun pins s I =>
  thn (h pins s I) fun u s' ⟨v, H', I', r, z⟩ => ⟨v, H', I', r, q v H' z⟩
theorem wEs.mono : ∀ {es : List Expr} {σ : St} {H : Hp} {Q Q' : List V → Hp → Prop}, wEs X es σ H Q → (∀ v H', Q v H' → Q' v H') → wEs X es σ H Q'
  | [], _, _, _, _, h, q => q _ _ h
  | _ :: _, _, _, _, _, h, q => wE.mono h fun _ _ z => wEs.mono z fun _ _ y => q _ _ y
def wS (X : Cx) (st : Stmt) : TS := fun D σ H => ∀ pins s, Inv X pins σ H s → wpAny (model X.prog X.w) X.A (exec st X.env) (SP X pins D) X.xe s
theorem ps_w {st : Stmt} : PS X st (wS X st) := ⟨fun pins s σ H D I h => h pins s I⟩
theorem _root_.L2.PS.w {st : Stmt} {t : TS} {σ : St} {H : Hp} {D : Ends} (h : PS X st t) (q : t D σ H) : wS X st D σ H := fun pins s I => h.run pins s σ H D I q
def wSs (X : Cx) (st : List Stmt) : TS := fun D σ H => ∀ pins s, Inv X pins σ H s → wpAny (model X.prog X.w) X.A (execs st X.env) (SP X pins D) X.xe s
theorem pss_w {st : List Stmt} : PSs X st (wSs X st) := ⟨fun pins s σ H D I h => h pins s I⟩
theorem _root_.L2.PSs.w {st : List Stmt} {t : TS} {σ : St} {H : Hp} {D : Ends} (h : PSs X st t) (q : t D σ H) : wSs X st D σ H := fun pins s I => h.run pins s σ H D I q
end

/-! ### the text's place -/
abbrev Calls := Str → List Slot → Out (Slot × List Slot)
/-- what is known of a text's names -/
structure Ctx where
  N : List Str
  sc : Scope
  np : Nat
  fns : List (Str × Nat)
  gints : List (Str × Int)
  gstrs : List (Str × Str)
  blts : List Str
  exs : List (Str × Str)

/-- lent objects -/
def lent (as : List Slot) (vs : List V) : Nat → Addr → Prop := fun i a => ∃ s : Slot, as[i]? = some s ∧ s.isOwn = true ∧ vs[i]? = some (.ref a)
/-- a callee's ground -/
abbrev bdOf (K : PySem.W.Frag) (F H : Hp) (as : List Slot) (vs : List V) : Bd := ⟨K, F, H, lent as vs, vs⟩
/-- what an argument has become -/
def OutIs (K : PySem.W.Frag) (F H : Hp) (a : Addr) (s : Slot) : Prop := (∃ d, s = .val d ∧ Rp K F d (.ref a)) ∨ (s.isOwn = true ∧ ∃ o, F a = none ∧ H a = some o ∧ OwnIs K F o s)
/-- a call's result: H the heap at the call -/
def RetIs (K : PySem.W.Frag) (H F' H' : Hp) (s : Slot) (v : V) : Prop := (∃ d, s = .val d ∧ Rp K F' d v) ∨ (s.isOwn = true ∧ ∃ a o, v = .ref a ∧ F' a = none ∧ H' a = some o ∧ OwnIs K F' o s ∧ H a = none)
/-- how an exception is told -/
def XcIs (mg : Str → Option Value) (x : Exc) (cls : Value) (d : Option Addr) (K : PySem.W.Frag) (F : Hp) (H : Hp) : Prop := mg x.cls = some cls ∧ match x.arg with
  | none => d = none
  | some v => ∃ a u f, d = some a ∧ H a = some (.xd [(f, u)]) ∧ Rp K F v u
structure Back (K : PySem.W.Frag) (F H : Hp) (as : List Slot) (vs : List V) (F' H' : Hp) (r : Slot) (outs : List Slot) (v : V) : Prop where
  kept : Kept (bdOf K F H as vs) F' H'
  outs : ∀ (i : Nat) (s : Slot) (a : Addr), as[i]? = some s → s.isOwn = true → vs[i]? = some (.ref a) → ∃ s', outs[i]? = some s' ∧ OutIs K F' H' a s'
  ret : RetIs K H F' H' r v
/-- a def's promise by what it gives -/
def SpF (mg : Str → Option Value) (K : PySem.W.Frag) (n : Nat) (φ : List Slot → Out (Slot × List Slot)) : Sp := fun vs H Q E =>
  vs.length = n ∧ ∃ (F : Hp) (as : List Slot), Ex F H ∧ as.length = n ∧ Sl (bdOf K F H as vs) F H as (vs.map some) ∧ (∀ s ∈ as, s ≠ .un) ∧
    (φ as).wp (fun r => ∀ v F' H', Back K F H as vs F' H' r.1 r.2 v → Q v H') (fun x => ∀ F' H' cls d, Kept (bdOf K F H as vs) F' H' → XcIs mg x cls d K F' H' → E cls d H')

/-- what a class of the text's own refusals says -/
structure ExF (K : PySem.W.Frag) (C : Addr) : Prop where
  ok : PySem.W.excIn K C [.type "ValueError", .type "Exception", .type "BaseException", .type "object"] "ValueError.__new__" = true
  kp : PySem.W.keepIn K (.ref C) = true
  bs : PySem.W.subIn K (.ref C) (.type "BaseException") = some true
  tp : PySem.W.typeIn K (.ref C) = some (.type "type")
  is : ExcC K C
/-- the def that tells a refusal's mark -/
def FnM (P : Program) (w : World) (K : PySem.W.Frag) (mg : Str → Option Value) (base : Heap) (f : Addr) (fd : FuncData) (exs : List (Str × Str)) : Prop := ∀ p ∈ exs, ∀ D : Addr, mg p.1 = some (.ref D) →
  ∀ (A : Around) (outer : List PySem.Env) (s : Shared) (H : Hp) (q : Addr × Obj) (args : Args) (Q : VK) (E : XK), L2H.RoomH 1 A → L2H.Hot1 A q → L2H.PinOk outer H s q → Env0 P w K mg base A outer s H → BindsTo s fd args [("e", .ref q.1)] →
    q.2.cls = .ref D → q.2.dict = none → (∃ vs, q.2.data = .fields vs) → (∀ H', Ex H H' → Q (.str p.2) H') → codeAny (model P w) A (.call (.ref f) args) (CR (L2N.CX P w) outer P w H s Q E) s
/-- what the suite behind a refusal calls -/
def HotOk (P : Program) (w : World) (K : PySem.W.Frag) (mg : Str → Option Value) (base : Heap) (exs : List (Str × Str)) : Prop := ∃ (f : Addr) (fd : FuncData) (R : Addr),
  mg "_law_marks" = some (.ref f) ∧ PySem.W.keepIn K (.ref f) = true ∧ Binds K fd ["e"] [] ∧ mg "RankError" = some (.ref R) ∧ (∀ p ∈ exs, ∀ C : Addr, mg p.1 = some (.ref C) → PySem.W.exmOne K (.ref C) (.ref R) = some true) ∧ FnM P w K mg base f fd exs
structure CtxOk (Γ : Ctx) (Φ : Calls) (X : Cx) : Prop where
  nm : X.N = Γ.N
  sc : X.env.scope = Γ.sc
  nd : Γ.N.Nodup
  calm : X.calm = true
  room : Room 0 X.A
  grd : X.A.guards = some []
  fns : ∀ p ∈ Γ.fns, ∃ (f : Addr) (fd : FuncData) (ps : List Str) (k : Nat), X.mg p.1 = some (.ref f) ∧ ps.length = p.2 ∧ PySem.W.keepIn X.K (.ref f) = true ∧ Binds X.K fd ps [] ∧ FnG X.prog X.w X.K X.mg X.base (L2N.CX X.prog X.w) k f fd ps (SpF X.mg X.K p.2 (Φ p.1)) ∧ Room k X.A
  gints : ∀ p ∈ Γ.gints, ∃ t, X.mg p.1 = some (.int p.2 t)
  gstrs : ∀ p ∈ Γ.gstrs, ∃ t, X.mg p.1 = some (.str p.2 t)
  blt : ∀ x ∈ Γ.blts, X.mg x = none
  exs : ∀ p ∈ Γ.exs, ∃ C : Addr, X.mg p.1 = some (.ref C) ∧ ExF X.K C
  hot : Γ.exs ≠ [] → L2H.RoomH 1 X.A ∧ HotOk X.prog X.w X.K X.mg X.base Γ.exs

theorem takesN {X : Cx} : L2N.Takes X (fun _ _ _ _ => False) := fun _ _ x => by
  obtain ⟨_, _, _, _, _, _, _, _, _, _, _, _, _, _, _, _, z⟩ := x
  exact z.elim
/-! ### judgements -/
abbrev Den := Calls → Env → Out (Slot × Env)
abbrev DenO := Calls → Env → Out (PyData × Env)
abbrev DenOs := Calls → Env → Out (List PyData × Env)
/-- behind an expression -/
def EvP (B : Bd) (F H : Hp) (σ : St) (p : Bool) (Q : VK) : Slot × Env → Prop := fun r => ∀ v F' H', Rel B F' H' r.2 σ → Ex F F' → (p = true → Ex H H') → Res B F' H' r.2 σ r.1 v → Q v H'
def ExP (X : Cx) (B : Bd) (F : Hp) (σ : St) (W : WX) : Exc → Prop := fun x => ∀ F' H' cls d, Kept B F' H' → Ex F F' → XcIs X.mg x cls d X.K F' H' → W cls d σ H'
/-- an operand: its top stands in H, its parts in F -/
def Bp (K : PySem.W.Frag) (F H : Hp) (d : PyData) (v : V) : Prop := Rp K F d v ∨ ∃ a o s, v = .ref a ∧ H a = some o ∧ OwnIs K F o s ∧ s.ice = .val d
inductive BpAll (K : PySem.W.Frag) (F H : Hp) : List PyData → List V → Prop
  | nil : BpAll K F H [] []
  | cons {d : PyData} {ds : List PyData} {v : V} {vs : List V} : Bp K F H d v → BpAll K F H ds vs → BpAll K F H (d :: ds) (v :: vs)
theorem Bp.mono {K : PySem.W.Frag} {F H F' H' : Hp} {d : PyData} {v : V} (f : Ex F F') (h : Ex H H') (b : Bp K F H d v) : Bp K F' H' d v := by
  rcases b with b | ⟨a, o, s, h1, h2, h3, h4⟩
  · exact .inl (b.mono f)
  · exact .inr ⟨a, o, s, h1, h _ _ h2, h3.mono f, h4⟩
/-- m: it may be borrowed -/
def Vp (m : Bool) (K : PySem.W.Frag) (F H : Hp) (d : PyData) (v : V) : Prop := if m = true then Bp K F H d v else Rp K F d v
theorem Vp.mono {m : Bool} {K : PySem.W.Frag} {F H F' H' : Hp} {d : PyData} {v : V} (f : Ex F F') (h : m = true → Ex H H') (b : Vp m K F H d v) : Vp m K F' H' d v := by
  cases m with
  | true => exact Bp.mono f (h rfl) b
  | false => exact Rp.mono f _ _ b
theorem Vp.bp {m : Bool} {K : PySem.W.Frag} {F H : Hp} {d : PyData} {v : V} (b : Vp m K F H d v) : Bp K F H d v := by
  cases m with
  | true => exact b
  | false => exact .inl b
def OpP (B : Bd) (F H : Hp) (σ : St) (p m : Bool) (Q : VK) : PyData × Env → Prop := fun r => ∀ v F' H', Rel B F' H' r.2 σ → Ex F F' → (p = true → Ex H H') → Vp m B.K F' H' r.1 v → Q v H'
def OpsP (B : Bd) (F H : Hp) (σ : St) (p : Bool) (Q : List V → Hp → Prop) : List PyData × Env → Prop := fun r => ∀ vs F' H', Rel B F' H' r.2 σ → Ex F F' → (p = true → Ex H H') → BpAll B.K F' H' r.1 vs → Q vs H'

/-- e means d -/
def SndE (Γ : Ctx) (e : Expr) (d : Den) (p : Bool) : Prop := ∀ (X : Cx) (Φ : Calls) (B : Bd) (F H : Hp) (ρ : Env) (σ : St) (Q : VK) (W : WX), CtxOk Γ Φ X → B.K = X.K → L2N.Takes X W → Rel B F H ρ σ →
  (d Φ ρ).wp (EvP B F H σ p Q) (ExP X B F σ W) → wE X e σ H Q
def SndO (Γ : Ctx) (e : Expr) (d : DenO) (p m : Bool) : Prop := ∀ (X : Cx) (Φ : Calls) (B : Bd) (F H : Hp) (ρ : Env) (σ : St) (Q : VK) (W : WX), CtxOk Γ Φ X → B.K = X.K → L2N.Takes X W → Rel B F H ρ σ →
  (d Φ ρ).wp (OpP B F H σ p m Q) (ExP X B F σ W) → wE X e σ H Q
def SndOs (Γ : Ctx) (es : List Expr) (d : DenOs) (p : Bool) : Prop := ∀ (X : Cx) (Φ : Calls) (B : Bd) (F H : Hp) (ρ : Env) (σ : St) (Q : List V → Hp → Prop) (W : WX), CtxOk Γ Φ X → B.K = X.K → L2N.Takes X W → Rel B F H ρ σ →
  (d Φ ρ).wp (OpsP B F H σ p Q) (ExP X B F σ W) → wEs X es σ H Q
/-- as a test -/
def SndT (Γ : Ctx) (e : Expr) (d : Den) (p : Bool) : Prop := ∀ (X : Cx) (Φ : Calls) (B : Bd) (F H : Hp) (ρ : Env) (σ : St) (Q : Bool → Hp → Prop) (W : WX), CtxOk Γ Φ X → B.K = X.K → L2N.Takes X W → Rel B F H ρ σ →
  (d Φ ρ).wp (fun r => ∃ b, r.1 = .val (.bool b) ∧ ∀ F' H', Rel B F' H' r.2 σ → Ex F F' → (p = true → Ex H H') → Q b H') (ExP X B F σ W) → wT X e σ H Q

section
variable {X : Cx} {B : Bd} {F F' H H' : Hp} {σ : St} {W : WX} {ρ : Env}
theorem ExP.mono (e : Ex F F') : ∀ x, ExP X B F σ W x → ExP X B F' σ W x := fun x h F2 H2 c d k e2 i => h F2 H2 c d k (e.trans e2) i
end

/-! ### names, constants -/
def dVar (i : Nat) : Den := fun _ ρ => match ρ[i]? with
  | some (.val d) => .ok (.val d, ρ)
  | some (.own ds) => .ok (.val (.list ds), ρ.set i (.val (.list ds)))
  | some (.odc false es) => .ok (.val (.dict es), ρ.set i (.val (.dict es)))
  | _ => .stuck
def dLit (d : PyData) : Den := fun _ ρ => .ok (.val d, ρ)
/-- a name as an operand: as it stands -/
def oVar (i : Nat) : DenO := fun _ ρ => match ρ[i]? with
  | some (.val d) => .ok (d, ρ)
  | some (.own ds) => .ok (.list ds, ρ)
  | some (.odc false es) => .ok (.dict es, ρ)
  | _ => .stuck
def oOf (d : Den) : DenO := fun Φ ρ => (d Φ ρ).bind fun r => match r.1 with
  | .val x => .ok (x, r.2)
  | .own ds => .ok (.list ds, r.2)
  | .odc false es => .ok (.dict es, r.2)
  | _ => .stuck

def visB (sc : Scope) (x : Str) : Bool := sc.names.lookup x == some .local || sc.names.lookup x == some .cell || sc.names.lookup x == some .free
theorem vis_of {sc : Scope} {x : Str} (h : visB sc x = true) : Vis sc x := by
  unfold visB at h
  simp only [Bool.or_eq_true, beq_iff_eq] at h
  rcases h with (h | h) | h
  · exact .inl h
  · exact .inr (.inl h)
  · exact .inr (.inr h)
def okName (x : Str) : Bool := !(x == ("__debug__" : Str)) && !(x == ("__classdict__" : Str)) && !(x == ("__name__" : Str))
theorem okName_d {x : Str} (h : okName x = true) : (x == ("__debug__" : Str)) = false := by
  unfold okName at h
  simp only [Bool.and_eq_true, Bool.not_eq_true'] at h
  exact h.1.1
theorem okName_c {x : Str} (h : okName x = true) : (x == ("__classdict__" : Str)) = false := by
  unfold okName at h
  simp only [Bool.and_eq_true, Bool.not_eq_true'] at h
  exact h.1.2
theorem okName_n {x : Str} (h : okName x = true) : x ≠ "__name__" := by
  unfold okName at h
  simp only [Bool.and_eq_true, Bool.not_eq_true'] at h
  intro e
  subst e
  simp at h

section
variable {Γ : Ctx} {x : Str} {pos : Pos} {i : Nat}
theorem snd_var (hN : Γ.N[i]? = some x) (hv : visB Γ.sc x = true) (hx : okName x = true) : SndE Γ (.Name x pos) (dVar i) true := by
  intro X Φ B F H ρ σ Q W C hK T R h
  have P : PE X (.Name x pos) (tVar i) := pe_var (by rw [C.nm]; exact hN) (by rw [C.sc]; exact vis_of hv) (okName_d hx) (okName_c hx)
  unfold dVar at h
  cases e : ρ[i]? with
  | none => rw [e] at h; exact h.elim
  | some s =>
    rw [e] at h
    cases s with
    | val d =>
      obtain ⟨v, h1, h2⟩ := R.sl.val i d e
      exact P.w ⟨v, h1, h v F H R (.refl F) (fun _ => .refl H) h2⟩
    | own ds =>
      obtain ⟨F', d, v, R', e1, e2, e3, e4⟩ := R.iceAt e rfl rfl
      cases e2
      exact P.w ⟨v, e3, h v F' H R' e1 (fun _ => .refl H) e4⟩
    | odc t es =>
      cases t with
      | true => exact h.elim
      | false =>
        obtain ⟨F', d, v, R', e1, e2, e3, e4⟩ := R.iceAt e rfl rfl
        cases e2
        exact P.w ⟨v, e3, h v F' H R' e1 (fun _ => .refl H) e4⟩
    | un => exact h.elim
    | scr ns => exact h.elim
theorem snd_oVar (hN : Γ.N[i]? = some x) (hv : visB Γ.sc x = true) (hx : okName x = true) : SndO Γ (.Name x pos) (oVar i) true true := by
  intro X Φ B F H ρ σ Q W C hK T R h
  have P : PE X (.Name x pos) (tVar i) := pe_var (by rw [C.nm]; exact hN) (by rw [C.sc]; exact vis_of hv) (okName_d hx) (okName_c hx)
  unfold oVar at h
  cases e : ρ[i]? with
  | none => rw [e] at h; exact h.elim
  | some s =>
    rw [e] at h
    cases s with
    | val d =>
      obtain ⟨v, h1, h2⟩ := R.sl.val i d e
      exact P.w ⟨v, h1, h v F H R (.refl F) (fun _ => .refl H) (.inl h2)⟩
    | own ds =>
      obtain ⟨a, o, e1, e2, e3, e4, e5⟩ := R.sl.own i _ e rfl
      exact P.w ⟨_, e1, h _ F H R (.refl F) (fun _ => .refl H) (.inr ⟨a, o, _, rfl, e3, e4, rfl⟩)⟩
    | odc t es =>
      cases t with
      | true => exact h.elim
      | false =>
        obtain ⟨a, o, e1, e2, e3, e4, e5⟩ := R.sl.own i _ e rfl
        exact P.w ⟨_, e1, h _ F H R (.refl F) (fun _ => .refl H) (.inr ⟨a, o, _, rfl, e3, e4, rfl⟩)⟩
    | un => exact h.elim
    | scr ns => exact h.elim
theorem snd_oOf {e : Expr} {d : Den} {p : Bool} (h : SndE Γ e d p) : SndO Γ e (oOf d) p false := by
  intro X Φ B F H ρ σ Q W C hK T R hq
  refine h X Φ B F H ρ σ Q W C hK T R (wp_mono (wp_bind (c := d Φ ρ) hq) (fun r q v F' H' R' e1 e2 hr => ?_) fun _ q => q)
  obtain ⟨s, ρ'⟩ := r
  have sf : s.soft = true := by
    cases s with
    | odc t es =>
      cases t with
      | true => exact q.elim
      | false => rfl
    | _ => rfl
  obtain ⟨F2, x, R2, e3, e4, e5⟩ := hr.freeze R' sf
  cases s with
  | val y => cases e4; exact q v F2 H' R2 (e1.trans e3) e2 e5
  | own ds => cases e4; exact q v F2 H' R2 (e1.trans e3) e2 e5
  | odc t es =>
    cases t with
    | true => cases sf
    | false => cases e4; exact q v F2 H' R2 (e1.trans e3) e2 e5
  | un => exact hr.elim
  | scr ns => exact hr.elim
def litOf : Const → Option PyData
  | .none => some .none
  | .bool b => some (.bool b)
  | .int i => some (.int i)
  | .str s => some (.str s)
  | _ => none
theorem snd_lit {c : Const} {d : PyData} {k : Nat} (hc : litOf c = some d) : SndE Γ (.Constant c k pos) (dLit d) true := by
  intro X Φ B F H ρ σ Q W C hK T R h
  have h' := fun v (r : Rp B.K F d v) => h v F H R (.refl F) (fun _ => .refl H) r
  cases c with
  | none => cases hc; exact PE.w pe_non (h' _ .non)
  | bool b => cases hc; exact PE.w pe_bl (h' _ (.bl b))
  | int i => cases hc; exact PE.w pe_int (h' _ (.int i))
  | str s => cases hc; exact PE.w pe_str (h' _ (.str s))
  | _ => cases hc
/-- a whole number, a text of the module -/
theorem snd_gint {n : Int} (hm : (x, n) ∈ Γ.gints) (hg : Γ.sc.names.lookup x = some .globalImplicit) (hx : okName x = true) : SndE Γ (.Name x pos) (dLit (.int n)) true := by
  intro X Φ B F H ρ σ Q W C hK T R h
  obtain ⟨t, e⟩ := C.gints _ hm
  exact PE.w (pe_glob (v := .int n) (by show X.env.scope.names.lookup x = _; rw [C.sc]; exact hg) e ⟨t, rfl⟩ (okName_d hx)) (h _ F H R (.refl F) (fun _ => .refl H) (.int n))
theorem snd_gstr {n : Str} (hm : (x, n) ∈ Γ.gstrs) (hg : Γ.sc.names.lookup x = some .globalImplicit) (hx : okName x = true) : SndE Γ (.Name x pos) (dLit (.str n)) true := by
  intro X Φ B F H ρ σ Q W C hK T R h
  obtain ⟨t, e⟩ := C.gstrs _ hm
  exact PE.w (pe_glob (v := .str n) (by show X.env.scope.names.lookup x = _; rw [C.sc]; exact hg) e ⟨t, rfl⟩ (okName_d hx)) (h _ F H R (.refl F) (fun _ => .refl H) (.str n))
end

/-! ### lists of operands -/
def plainE : Expr → Bool
  | .Starred _ _ => false
  | _ => true
theorem star_of {e : Expr} {es : List Expr} {env : PySem.Env} (h : plainE e = true) : starEach (e :: es) env = (false, eval e env) :: starEach es env := by
  cases e <;> first | rfl | cases h
theorem plain_any {pos : Pos} {env : PySem.Env} : ∀ {es : List Expr}, es.all plainE = true → (backTo pos (starEach es env)).any (·.1) = false
  | [], _ => rfl
  | e :: es, h => by
    rw [List.all_cons, Bool.and_eq_true] at h
    rw [star_of h.1]
    show (false || (backTo pos (starEach es env)).any (·.1)) = false
    rw [plain_any h.2]
    rfl
theorem pa_ws {X : Cx} : ∀ {es : List Expr}, es.all plainE = true → PA X es (wEs X es)
  | [], _ => pa_nil
  | e :: es, h => by
    rw [List.all_cons, Bool.and_eq_true] at h
    exact pa_cons pe_w (pa_ws h.2) (star_of h.1)
def osNil : DenOs := fun _ ρ => .ok ([], ρ)
def osCons (a : DenO) (r : DenOs) : DenOs := fun Φ ρ => (a Φ ρ).bind fun x => (r Φ x.2).bind fun y => .ok (x.1 :: y.1, y.2)
section
variable {Γ : Ctx} {e : Expr} {es : List Expr} {a : DenO} {r : DenOs} {p m p' : Bool}
theorem snd_osNil : SndOs Γ [] osNil true := by
  intro X Φ B F H ρ σ Q W C hK T R h
  exact h [] F H R (.refl F) (fun _ => .refl H) .nil
theorem snd_osCons (h1 : SndO Γ e a p m) (h2 : SndOs Γ es r p') (hp : (p' || !m) = true) : SndOs Γ (e :: es) (osCons a r) (p && p') := by
  intro X Φ B F H ρ σ Q W C hK T R h
  refine h1 X Φ B F H ρ σ _ W C hK T R (wp_mono (wp_bind (c := a Φ ρ) h) (fun x q v F1 H1 R1 e1 e2 hv => ?_) fun _ q => q)
  refine h2 X Φ B F1 H1 x.2 σ _ W C hK T R1 (wp_mono (wp_bind (c := r Φ x.2) q) (fun y q' vs F2 H2 R2 e3 e4 hvs => ?_) (ExP.mono e1))
  refine q' (v :: vs) F2 H2 R2 (e1.trans e3) (fun z => ?_) (.cons (Vp.bp (m := m) (hv.mono e3 fun hm => ?_)) hvs)
  · rw [Bool.and_eq_true] at z
    exact (e2 z.1).trans (e4 z.2)
  · rw [hm] at hp
    simp only [Bool.not_true, Bool.or_false] at hp
    exact e4 hp
end

/-! ### lists of frozen things -/
def fsNil : DenOs := fun _ ρ => .ok ([], ρ)
def fsCons (a : Den) (r : DenOs) : DenOs := fun Φ ρ => (oOf a Φ ρ).bind fun x => (r Φ x.2).bind fun y => .ok (x.1 :: y.1, y.2)
def FsP (B : Bd) (F H : Hp) (σ : St) (p : Bool) (Q : List V → Hp → Prop) : List PyData × Env → Prop := fun r => ∀ vs F' H', Rel B F' H' r.2 σ → Ex F F' → (p = true → Ex H H') → RpAll B.K F' r.1 vs → Q vs H'
def SndFs (Γ : Ctx) (es : List Expr) (d : DenOs) (p : Bool) : Prop := ∀ (X : Cx) (Φ : Calls) (B : Bd) (F H : Hp) (ρ : Env) (σ : St) (Q : List V → Hp → Prop) (W : WX), CtxOk Γ Φ X → B.K = X.K → L2N.Takes X W → Rel B F H ρ σ →
  (d Φ ρ).wp (FsP B F H σ p Q) (ExP X B F σ W) → wEs X es σ H Q
section
variable {Γ : Ctx} {e : Expr} {es : List Expr} {a : Den} {r : DenOs} {p p' : Bool} {pos : Pos}
theorem snd_fsNil : SndFs Γ [] fsNil true := by
  intro X Φ B F H ρ σ Q W C hK T R h
  exact h [] F H R (.refl F) (fun _ => .refl H) .nil
theorem snd_fsCons (h1 : SndE Γ e a p) (h2 : SndFs Γ es r p') : SndFs Γ (e :: es) (fsCons a r) (p && p') := by
  intro X Φ B F H ρ σ Q W C hK T R h
  refine snd_oOf h1 X Φ B F H ρ σ _ W C hK T R (wp_mono (wp_bind (c := oOf a Φ ρ) h) (fun x q v F1 H1 R1 e1 e2 hv => ?_) fun _ q => q)
  refine h2 X Φ B F1 H1 x.2 σ _ W C hK T R1 (wp_mono (wp_bind (c := r Φ x.2) q) (fun y q' vs F2 H2 R2 e3 e4 hvs => ?_) (ExP.mono e1))
  refine q' (v :: vs) F2 H2 R2 (e1.trans e3) (fun z => ?_) (.cons (Rp.mono e3 _ _ hv) hvs)
  rw [Bool.and_eq_true] at z
  exact (e2 z.1).trans (e4 z.2)
/-- (a, b, ..) | [a, b, ..] -/
def dTup (a : DenOs) : Den := fun Φ ρ => (a Φ ρ).bind fun x => guard' (decide (x.1.length ≤ 1000)) (.ok (.val (.tuple x.1), x.2))
def dLst (a : DenOs) : Den := fun Φ ρ => (a Φ ρ).bind fun x => guard' (decide (x.1.length ≤ 1000)) (.ok (.own x.1, x.2))
theorem RpAll.length {K : PySem.W.Frag} {H : Hp} : ∀ {ds : List PyData} {vs : List V}, RpAll K H ds vs → ds.length = vs.length
  | [], _, h => by cases h; rfl
  | _ :: _, _, h => by
    cases h with
    | cons _ h2 => exact congrArg Nat.succ (RpAll.length h2)
theorem le_line {n : Nat} (h : n ≤ 1000000) : n ≤ sizeLine := Nat.le_trans h (by decide)
theorem lt_line {n : Nat} (h : n ≤ 1000000) : n < sizeLine := Nat.lt_of_le_of_lt h (by decide)
end
/-! ### operations on values -/
/-- what an operation's outcome must be good for -/
def PQ (K : PySem.W.Frag) (F H : Hp) (Q : VK) : Slot → Prop
  | .val d => ∀ v F' H', Grow F H F' H' → Rp K F' d v → Q v H'
  | .own ds => ∀ p vs, H p = none → RpAll K F ds vs → Q (.ref p) (upd H p (.lst vs))
  | .odc false es => ∀ p kvs, H p = none → RpK K F es kvs → Q (.ref p) (upd H p (.dK kvs))
  | .odc true es => ∀ p kvs, H p = none → RpI K F es kvs → Q (.ref p) (upd H p (tabO p kvs))
  | _ => True
/-- an operation on values -/
abbrev Prim := List PyData → Option Slot
def Rule (K : PySem.W.Frag) (r : List V → Hp → VK → Prop) (f : Prim) : Prop := ∀ (F H : Hp) (ds : List PyData) (vs : List V) (Q : VK) (s : Slot), Ex F H → BpAll K F H ds vs → f ds = some s → PQ K F H Q s → r vs H Q
def opt {α : Type} (o : Option α) : Out α := match o with
  | some a => .ok a
  | none => .stuck
@[simp] theorem opt_some {α : Type} (a : α) : opt (some a) = .ok a := rfl
/-- an operation on operands -/
def dP (f : Prim) (a : DenOs) : Den := fun Φ ρ => (a Φ ρ).bind fun x => (opt (f x.1)).bind fun s => .ok (s, x.2)
section
variable {X : Cx} {B : Bd} {F H F0 H0 : Hp} {ρ : Env} {σ : St} {Q : VK} {W : WX} {p : Bool}
/-- new things do no harm -/
theorem pq_of {s : Slot} (R : Rel B F H ρ σ) (e1 : Ex F0 F) (e2 : p = true → Ex H0 H) (h : EvP B F0 H0 σ p Q (s, ρ)) : PQ B.K F H Q s := by
  have nw : ∀ {a : Addr}, H a = none → B.H0 a = none := fun {a} hp => by
    cases q : B.H0 a with
    | none => rfl
    | some o => exact absurd hp (R.kept.live a (by rw [q]; exact fun z => by cases z))
  have ap : ∀ {a : Addr}, H a = none → ∀ (i : Nat) (t : Slot), ρ[i]? = some t → t.isOwn = true → σ[i]? ≠ some (some (.ref a)) := fun {a} hp i t q qs z => by
    obtain ⟨b, o, g1, g2, g3, _⟩ := R.sl.own i t q qs
    rw [g1] at z
    cases z
    rw [hp] at g3; cases g3
  cases s with
  | val d => exact fun v F' H' g r => h v F' H' (R.add g) (e1.trans g.ff) (fun z => (e2 z).trans g.hh) r
  | own ds => exact fun q vs hp r => h _ F _ (R.grow (.new hp)) e1 (fun z => (e2 z).trans (.new hp)) ⟨q, _, rfl, R.kept.ex.free hp, upd_same, ⟨vs, rfl, r⟩, nw hp, ap hp⟩
  | odc t es =>
    cases t with
    | false => exact fun q vs hp r => h _ F _ (R.grow (.new hp)) e1 (fun z => (e2 z).trans (.new hp)) ⟨q, _, rfl, R.kept.ex.free hp, upd_same, ⟨vs, rfl, r⟩, nw hp, ap hp⟩
    | true => exact fun q vs hp r => h _ F _ (R.grow (.new hp)) e1 (fun z => (e2 z).trans (.new hp)) ⟨q, _, rfl, R.kept.ex.free hp, upd_same, ⟨q, vs, rfl, r⟩, nw hp, ap hp⟩
  | un => exact trivial
  | scr ns => exact trivial
end
section
variable {Γ : Ctx} {es : List Expr} {a : DenOs} {p : Bool} {pos : Pos}
/-- a tuple display, its object known (so it has no dict of its own) -/
def tTupF (t : TA) : TE := fun σ H Q => t σ H fun xs H1 => xs.length ≤ sizeLine ∧ ∀ p o, H1 p = none → o.dict = none → Q (.ref p) (upd H1 p (.frz o (.tup xs)))
theorem laid_tup {X : Cx} {pins : List (Addr × Obj)} {σ : St} {H : Hp} {s : Shared} {us : List Value} {xs : List V} {t' : Nat} (I : Inv X pins σ H s) (r : Vals xs us) (z : xs.length ≤ sizeLine) :
    Inv X pins σ (upd H s.heap.objs.size (.frz { cls := .type "tuple", data := .seq us.toArray } (.tup xs))) { s with heap := s.heap.push { cls := .type "tuple", data := .seq us.toArray }, toks := t' } :=
  I.laid (t' := t') (fun b u e => Heap.get?_push_of_some _ e) (Nat.le_refl _) ⟨Heap.get?_push_size _ rfl, z, us, r, ⟨_, Heap.get?_push_size _ rfl, rfl, _, rfl⟩⟩
theorem pe_tupF {X : Cx} {t : TA} {x1 : Nat} (h : PA X es t) : PE X (.Tuple es x1 pos) (tTupF t) := by
  refine ⟨fun pins s σ H Q I hq => ?_⟩
  refine wpAny_Tuple_spliced (thn (h.run pos pins s σ H _ I hq) fun us s1 ⟨xs, H1, I1, r, z, q⟩ => ⟨by rw [← r.length]; exact z, ?_⟩)
  exact ⟨.ref s1.heap.objs.size, _, laid_tup (t' := s1.toks) I1 r z, rfl, q _ _ (I1.hok.fresh (Nat.le_refl _)) rfl⟩
theorem snd_tup {k : Nat} (h : SndFs Γ es a p) (he : es.all plainE = true) : SndE Γ (.Tuple es k pos) (dTup a) p := by
  intro X Φ B F H ρ σ Q W C hK T R hq
  refine PE.w (pe_tupF (pa_ws he)) ?_
  refine h X Φ B F H ρ σ _ W C hK T R (wp_mono (wp_bind (c := a Φ ρ) hq) (fun x q vs F1 H1 R1 e1 e2 hv => ?_) fun _ q => q)
  obtain ⟨hl, q⟩ := wp_guard q
  have hl := of_decide_eq_true hl
  refine ⟨le_line (by have := hv.length; omega), fun t o ht ho => ?_⟩
  exact pq_of R1 e1 e2 q _ _ _ (Grow.new (o := .frz o (.tup vs)) R1.kept.ex ht) (.tup upd_same ho (hv.mono (.new (R1.kept.ex.free ht))))
theorem snd_lst (h : SndFs Γ es a p) (he : es.all plainE = true) : SndE Γ (.List es pos) (dLst a) p := by
  intro X Φ B F H ρ σ Q W C hK T R hq
  refine PE.w (pe_lst (pa_ws he)) ?_
  refine h X Φ B F H ρ σ _ W C hK T R (wp_mono (wp_bind (c := a Φ ρ) hq) (fun x q vs F1 H1 R1 e1 e2 hv => ?_) fun _ q => q)
  obtain ⟨hl, q⟩ := wp_guard q
  have hl := of_decide_eq_true hl
  refine ⟨le_line (by have := hv.length; omega), fun t ht => ?_⟩
  exact pq_of R1 e1 e2 q _ _ ht hv
end

/-! ### where an operation stands in the text -/
def rr2 (r : R2) : List V → Hp → VK → Prop := fun vs H Q => ∃ x y, vs = [x, y] ∧ r x y H Q
def rr1 (r : V → Hp → VK → Prop) : List V → Hp → VK → Prop := fun vs H Q => ∃ x, vs = [x] ∧ r x H Q
def rrm (r : V → List V → Hp → VK → Prop) : List V → Hp → VK → Prop := fun vs H Q => ∃ x xs, vs = x :: xs ∧ r x xs H Q
section
variable {Γ : Ctx} {f : Prim} {d : DenOs} {p : Bool} {pos apos ppos : Pos} {a b c : Expr} {es : List Expr}
theorem ops_run {r : PySem.W.Frag → List V → Hp → VK → Prop} {X : Cx} {Φ : Calls} {B : Bd} {F H : Hp} {ρ : Env} {σ : St} {Q : VK} {W : WX} (hr : ∀ K, Rule K (r K) f) (h : SndOs Γ es d p) (C : CtxOk Γ Φ X) (hK : B.K = X.K) (T : L2N.Takes X W) (R : Rel B F H ρ σ)
    (hq : (dP f d Φ ρ).wp (EvP B F H σ p Q) (ExP X B F σ W)) : wEs X es σ H fun vs H' => r X.K vs H' Q := by
  refine h X Φ B F H ρ σ _ W C hK T R (wp_mono (wp_bind (c := d Φ ρ) hq) (fun x q vs F1 H1 R1 e1 e2 hv => ?_) fun _ q => q)
  rw [← hK]
  cases g : f x.1 with
  | some s =>
    rw [g] at q
    exact hr B.K F1 H1 x.1 vs Q s R1.kept.ex hv g (pq_of R1 e1 e2 q)
  | none => rw [g] at q; exact q.elim
theorem two_w {X : Cx} {r : R2} {σ : St} {H : Hp} {Q : VK} (h : wEs X [a, b] σ H fun vs H' => rr2 r vs H' Q) : tOp r (wE X a) (wE X b) σ H Q :=
  wE.mono h fun x H1 h1 => wE.mono h1 fun y H2 ⟨x', y', e, q⟩ => by cases e; exact q
theorem snd_bin {op : Operator} {r : PySem.W.Frag → R2} (ho : ∀ (X : Cx), X.calm = true → Room 0 X.A → OpR X (binaryOp op) (r X.K)) (hr : ∀ K, Rule K (rr2 (r K)) f) (h : SndOs Γ [a, b] d p) : SndE Γ (.BinOp a op b pos) (dP f d) p := by
  intro X Φ B F H ρ σ Q W C hK T R hq
  exact PE.w (pe_op (ho X C.calm C.room) pe_w pe_w) (two_w (ops_run (r := fun K => rr2 (r K)) hr h C hK T R hq))
theorem snd_un {op : UnaryOp} {r : V → Hp → VK → Prop} (ho : ∀ (X : Cx), UnR X (unaryOp op) r) (hr : ∀ K, Rule K (rr1 r) f) (h : SndOs Γ [a] d p) : SndE Γ (.UnaryOp op a pos) (dP f d) p := by
  intro X Φ B F H ρ σ Q W C hK T R hq
  refine PE.w (pe_un (ho X) pe_w) ?_
  exact wE.mono (ops_run (r := fun _ => rr1 r) hr h C hK T R hq) fun x H1 ⟨x', e, q⟩ => by cases e; exact q
def notSet : Expr → Bool
  | .Set _ _ _ => false
  | _ => true
theorem nomark' {op : CmpOp} {b : Expr} (h : notSet b = true) : behindInMarks op b = false := by
  cases b <;> first | rfl | cases h
/-- one comparison, as a value and as a test -/
theorem snd_cmp {op : CmpOp} {r : PySem.W.Frag → R2} (ho : ∀ (X : Cx), X.calm = true → Room 0 X.A → OpR X (compareOp op) (r X.K)) (hr : ∀ K, Rule K (rr2 (r K)) f) (h : SndOs Γ [a, b] d p) (hb : notSet b = true) : SndE Γ (.Compare a [op] [b] pos) (dP f d) p := by
  intro X Φ B F H ρ σ Q W C hK T R hq
  exact PE.w (pe_cmpR (ho X C.calm C.room) pe_w pe_w (nomark' hb)) (two_w (ops_run (r := fun K => rr2 (r K)) hr h C hK T R hq))
/-- a test from a value, whatever gives it -/
theorem evp_test {B : Bd} {F H : Hp} {σ : St} {p : Bool} {Q : Bool → Hp → Prop} {r : Slot × Env} (h : ∃ b, r.1 = .val (.bool b) ∧ ∀ F' H', Rel B F' H' r.2 σ → Ex F F' → (p = true → Ex H H') → Q b H') : EvP B F H σ p (fun x H' => ∃ k, x = .bl k ∧ Q k H') r := by
  obtain ⟨b, e, q⟩ := h
  intro v F' H' R e1 e2 hr
  rw [e] at hr
  cases (show Rp B.K F' (.bool b) v from hr)
  exact ⟨b, rfl, q F' H' R e1 e2⟩
theorem snd_cmpT {op : CmpOp} {r : PySem.W.Frag → R2} (ho : ∀ (X : Cx), X.calm = true → Room 0 X.A → OpR X (compareOp op) (r X.K)) (hr : ∀ K, Rule K (rr2 (r K)) f) (h : SndOs Γ [a, b] d p) (hb : notSet b = true) : SndT Γ (.Compare a [op] [b] pos) (dP f d) p := by
  intro X Φ B F H ρ σ Q W C hK T R hq
  refine PT.w (pt_cmpR (ho X C.calm C.room) pe_w pe_w (nomark' hb)) ?_
  exact two_w (ops_run (r := fun K => rr2 (r K)) hr h C hK T R (wp_mono hq (fun _ z => evp_test z) fun _ z => z))
/-- forms whose test is the truth of their value -/
def plainT : Expr → Bool
  | .UnaryOp .Not _ _ => false
  | .BoolOp _ _ _ => false
  | .IfExp _ _ _ _ => false
  | .Compare _ _ _ _ => false
  | _ => true
theorem plainT_eq {e : Expr} {env : PySem.Env} (h : plainT e = true) (whole : Sem Value) : isTrue e env whole = (do let v ← whole; standAt e.pos; holding [v] (truthy v)) := by
  cases e with
  | UnaryOp op x p => cases op <;> first | rfl | cases h
  | BoolOp op x p => cases h
  | IfExp op x p => cases h
  | Compare op x p => cases h
  | _ => rfl
theorem snd_plainT {e : Expr} {d : Den} (h : SndE Γ e d p) (he : plainT e = true) : SndT Γ e d p := by
  intro X Φ B F H ρ σ Q W C hK T R hq
  refine PT.w (pt_val pe_w (plainT_eq he)) ?_
  exact h X Φ B F H ρ σ _ W C hK T R (wp_mono hq (fun _ z => evp_test z) fun _ z => z)

/-! ### and, or, not -/
def dNot (d : Den) : Den := fun Φ ρ => (d Φ ρ).bind fun x => match x.1 with
  | .val (.bool b) => .ok (.val (.bool !b), x.2)
  | _ => .stuck
def dAnd (d e : Den) : Den := fun Φ ρ => (d Φ ρ).bind fun x => match x.1 with
  | .val (.bool true) => e Φ x.2
  | .val (.bool false) => .ok (.val (.bool false), x.2)
  | _ => .stuck
def dOr (d e : Den) : Den := fun Φ ρ => (d Φ ρ).bind fun x => match x.1 with
  | .val (.bool true) => .ok (.val (.bool true), x.2)
  | .val (.bool false) => e Φ x.2
  | _ => .stuck
/-- t's outcome is a truth -/
theorem snd_not {d : Den} (h : SndE Γ a d p) : SndE Γ (.UnaryOp .Not a pos) (dNot d) p := by
  intro X Φ B F H ρ σ Q W C hK T R hq
  refine PE.w (pe_not pe_w) ?_
  refine h X Φ B F H ρ σ _ W C hK T R (wp_mono (wp_bind (c := d Φ ρ) hq) (fun x q v F1 H1 R1 e1 e2 hv => ?_) fun _ q => q)
  obtain ⟨s, ρ1⟩ := x
  cases s with
  | val y =>
    cases y with
    | bool b =>
      cases (show Rp B.K F1 (.bool b) v from hv)
      exact ⟨b, rfl, q _ F1 H1 R1 e1 e2 (Rp.bl _)⟩
    | _ => exact q.elim
  | _ => exact q.elim
theorem snd_notT {d : Den} (h : SndT Γ a d p) : SndT Γ (.UnaryOp .Not a pos) (dNot d) p := by
  intro X Φ B F H ρ σ Q W C hK T R hq
  refine PT.w (pt_not pt_w) ?_
  refine h X Φ B F H ρ σ _ W C hK T R (wp_mono (wp_bind (c := d Φ ρ) hq) (fun x q => ?_) fun _ q => q)
  obtain ⟨s, ρ1⟩ := x
  cases s with
  | val y =>
    cases y with
    | bool b =>
      obtain ⟨b', e, q⟩ := q
      cases e
      exact ⟨b, rfl, q⟩
    | _ => exact q.elim
  | _ => exact q.elim
theorem snd_one {op : BoolOp} {d : Den} (h : SndE Γ a d p) : SndE Γ (.BoolOp op [a] pos) d p := by
  intro X Φ B F H ρ σ Q W C hK T R hq
  exact PE.w (pe_one pe_w) (h X Φ B F H ρ σ Q W C hK T R hq)
theorem snd_and {d e : Den} {p' : Bool} (h : SndE Γ a d p) (h' : SndE Γ (.BoolOp .And (b :: es) pos) e p') : SndE Γ (.BoolOp .And (a :: b :: es) pos) (dAnd d e) (p && p') := by
  intro X Φ B F H ρ σ Q W C hK T R hq
  refine PE.w (pe_and pe_w pe_w) ?_
  refine h X Φ B F H ρ σ _ W C hK T R (wp_mono (wp_bind (c := d Φ ρ) hq) (fun x q v F1 H1 R1 e1 e2 hv => ?_) fun _ q => q)
  obtain ⟨s, ρ1⟩ := x
  cases s with
  | val y =>
    cases y with
    | bool c =>
      cases (show Rp B.K F1 (.bool c) v from hv)
      refine ⟨c, rfl, ?_⟩
      cases c with
      | true => exact iteT (h' X Φ B F1 H1 ρ1 σ _ W C hK T R1 (wp_mono q (fun y q' v F2 H2 R2 e3 e4 hv => q' v F2 H2 R2 (e1.trans e3) (fun z => by rw [Bool.and_eq_true] at z; exact (e2 z.1).trans (e4 z.2)) hv) (ExP.mono e1)))
      | false => exact iteF (q _ F1 H1 R1 e1 (fun z => by rw [Bool.and_eq_true] at z; exact e2 z.1) (Rp.bl _))
    | _ => exact q.elim
  | _ => exact q.elim
theorem snd_or {d e : Den} {p' : Bool} (h : SndE Γ a d p) (h' : SndE Γ (.BoolOp .Or (b :: es) pos) e p') : SndE Γ (.BoolOp .Or (a :: b :: es) pos) (dOr d e) (p && p') := by
  intro X Φ B F H ρ σ Q W C hK T R hq
  refine PE.w (pe_or pe_w pe_w) ?_
  refine h X Φ B F H ρ σ _ W C hK T R (wp_mono (wp_bind (c := d Φ ρ) hq) (fun x q v F1 H1 R1 e1 e2 hv => ?_) fun _ q => q)
  obtain ⟨s, ρ1⟩ := x
  cases s with
  | val y =>
    cases y with
    | bool c =>
      cases (show Rp B.K F1 (.bool c) v from hv)
      refine ⟨c, rfl, ?_⟩
      cases c with
      | false => exact iteF (h' X Φ B F1 H1 ρ1 σ _ W C hK T R1 (wp_mono q (fun y q' v F2 H2 R2 e3 e4 hv => q' v F2 H2 R2 (e1.trans e3) (fun z => by rw [Bool.and_eq_true] at z; exact (e2 z.1).trans (e4 z.2)) hv) (ExP.mono e1)))
      | true => exact iteT (q _ F1 H1 R1 e1 (fun z => by rw [Bool.and_eq_true] at z; exact e2 z.1) (Rp.bl _))
    | _ => exact q.elim
  | _ => exact q.elim
theorem w_of_pt {X : Cx} {op : BoolOp} : PW X (.BoolOp op es pos) (wT X (.BoolOp op es pos)) := ⟨fun wh pins s σ H Q I h => h pins s I⟩
theorem snd_oneT {op : BoolOp} {d : Den} (h : SndT Γ a d p) : SndT Γ (.BoolOp op [a] pos) d p := by
  intro X Φ B F H ρ σ Q W C hK T R hq
  cases op with
  | And => exact PT.w (PW.pt (pw_and1 pt_w)) (h X Φ B F H ρ σ Q W C hK T R hq)
  | Or => exact PT.w (PW.pt (pw_or1 pt_w)) (h X Φ B F H ρ σ Q W C hK T R hq)
theorem snd_andT {d e : Den} {p' : Bool} (h : SndT Γ a d p) (h' : SndT Γ (.BoolOp .And (b :: es) pos) e p') : SndT Γ (.BoolOp .And (a :: b :: es) pos) (dAnd d e) (p && p') := by
  intro X Φ B F H ρ σ Q W C hK T R hq
  refine PT.w (PW.pt (pw_and pt_w w_of_pt)) ?_
  refine h X Φ B F H ρ σ _ W C hK T R (wp_mono (wp_bind (c := d Φ ρ) hq) (fun x q => ?_) fun _ q => q)
  obtain ⟨s, ρ1⟩ := x
  cases s with
  | val y =>
    cases y with
    | bool c =>
      refine ⟨c, rfl, fun F1 H1 R1 e1 e2 => ?_⟩
      cases c with
      | true =>
        exact iteT (h' X Φ B F1 H1 ρ1 σ _ W C hK T R1 (wp_mono q (fun y ⟨c, e, q'⟩ => ⟨c, e, fun F2 H2 R2 e3 e4 => q' F2 H2 R2 (e1.trans e3) fun z => by rw [Bool.and_eq_true] at z; exact (e2 z.1).trans (e4 z.2)⟩) (ExP.mono e1)))
      | false =>
        obtain ⟨c, e, q⟩ := q
        cases e
        exact iteF (q F1 H1 R1 e1 fun z => by rw [Bool.and_eq_true] at z; exact e2 z.1)
    | _ => exact q.elim
  | _ => exact q.elim
theorem snd_orT {d e : Den} {p' : Bool} (h : SndT Γ a d p) (h' : SndT Γ (.BoolOp .Or (b :: es) pos) e p') : SndT Γ (.BoolOp .Or (a :: b :: es) pos) (dOr d e) (p && p') := by
  intro X Φ B F H ρ σ Q W C hK T R hq
  refine PT.w (PW.pt (pw_or pt_w w_of_pt)) ?_
  refine h X Φ B F H ρ σ _ W C hK T R (wp_mono (wp_bind (c := d Φ ρ) hq) (fun x q => ?_) fun _ q => q)
  obtain ⟨s, ρ1⟩ := x
  cases s with
  | val y =>
    cases y with
    | bool c =>
      refine ⟨c, rfl, fun F1 H1 R1 e1 e2 => ?_⟩
      cases c with
      | false =>
        exact iteF (h' X Φ B F1 H1 ρ1 σ _ W C hK T R1 (wp_mono q (fun y ⟨c, e, q'⟩ => ⟨c, e, fun F2 H2 R2 e3 e4 => q' F2 H2 R2 (e1.trans e3) fun z => by rw [Bool.and_eq_true] at z; exact (e2 z.1).trans (e4 z.2)⟩) (ExP.mono e1)))
      | true =>
        obtain ⟨c, e, q⟩ := q
        cases e
        exact iteT (q F1 H1 R1 e1 fun z => by rw [Bool.and_eq_true] at z; exact e2 z.1)
    | _ => exact q.elim
  | _ => exact q.elim
/-- a if t else b -/
def dIf (t a b : Den) : Den := fun Φ ρ => (t Φ ρ).bind fun x => match x.1 with
  | .val (.bool true) => a Φ x.2
  | .val (.bool false) => b Φ x.2
  | _ => .stuck
theorem snd_ifx {t x y : Den} {p1 p2 p3 : Bool} (ht : SndT Γ c t p1) (ha : SndE Γ a x p2) (hb : SndE Γ b y p3) : SndE Γ (.IfExp c a b pos) (dIf t x y) (p1 && (p2 && p3)) := by
  intro X Φ B F H ρ σ Q W C hK T R hq
  refine PE.w (pe_ifExp pt_w pe_w pe_w) ?_
  refine ht X Φ B F H ρ σ _ W C hK T R (wp_mono (wp_bind (c := t Φ ρ) hq) (fun r q => ?_) fun _ q => q)
  obtain ⟨s, ρ1⟩ := r
  cases s with
  | val z =>
    cases z with
    | bool k =>
      refine ⟨k, rfl, fun F1 H1 R1 e1 e2 => ?_⟩
      cases k with
      | true => exact iteT (ha X Φ B F1 H1 ρ1 σ _ W C hK T R1 (wp_mono q (fun y q' v F2 H2 R2 e3 e4 hv => q' v F2 H2 R2 (e1.trans e3) (fun z => by simp only [Bool.and_eq_true] at z; exact (e2 z.1).trans (e4 z.2.1)) hv) (ExP.mono e1)))
      | false => exact iteF (hb X Φ B F1 H1 ρ1 σ _ W C hK T R1 (wp_mono q (fun y q' v F2 H2 R2 e3 e4 hv => q' v F2 H2 R2 (e1.trans e3) (fun z => by simp only [Bool.and_eq_true] at z; exact (e2 z.1).trans (e4 z.2.2)) hv) (ExP.mono e1)))
    | _ => exact q.elim
  | _ => exact q.elim
end
end Dn

/-! Den3: subscripts, slices, chains, built-in calls, methods, isinstance, calls of defs. -/
namespace Dn
open PySem PySem.Spec L2
open PyProof.Rows hiding St

/-! ### what an operand can be -/
section
variable {K : PySem.W.Frag} {F H : Hp} {v : V}
theorem ownIs_no {o : HO} {s : Slot} {d : PyData} (h : OwnIs K F o s) (e : s.ice = .val d) : (∃ ds vs, s = .own ds ∧ d = .list ds ∧ o = .lst vs ∧ RpAll K F ds vs) ∨ (∃ t es, s = .odc t es ∧ d = .dict es) := by
  cases s with
  | own ds => obtain ⟨vs, h1, h2⟩ := h; cases e; exact .inl ⟨ds, vs, rfl, rfl, h1, h2⟩
  | odc t es =>
    cases t with
    | true => cases e
    | false => cases e; exact .inr ⟨false, es, rfl, rfl⟩
  | un => exact h.elim
  | val d => exact h.elim
  | scr ns => exact h.elim
theorem Bp.non (b : Bp K F H .none v) : v = .non := by
  rcases b with b | ⟨a, o, s, h1, h2, h3, h4⟩
  · cases b; rfl
  · rcases ownIs_no h3 h4 with ⟨_, _, _, z, _⟩ | ⟨_, _, _, z⟩ <;> cases z
theorem Bp.bool {k : Bool} (b : Bp K F H (.bool k) v) : v = .bl k := by
  rcases b with b | ⟨a, o, s, h1, h2, h3, h4⟩
  · cases b; rfl
  · rcases ownIs_no h3 h4 with ⟨_, _, _, z, _⟩ | ⟨_, _, _, z⟩ <;> cases z
theorem Bp.int {k : Int} (b : Bp K F H (.int k) v) : v = .int k := by
  rcases b with b | ⟨a, o, s, h1, h2, h3, h4⟩
  · cases b; rfl
  · rcases ownIs_no h3 h4 with ⟨_, _, _, z, _⟩ | ⟨_, _, _, z⟩ <;> cases z
theorem Bp.str {k : Str} (b : Bp K F H (.str k) v) : v = .str k := by
  rcases b with b | ⟨a, o, s, h1, h2, h3, h4⟩
  · cases b; rfl
  · rcases ownIs_no h3 h4 with ⟨_, _, _, z, _⟩ | ⟨_, _, _, z⟩ <;> cases z
theorem Bp.lst {ds : List PyData} (e : Ex F H) (b : Bp K F H (.list ds) v) : ∃ a vs, v = .ref a ∧ H a = some (.lst vs) ∧ RpAll K F ds vs := by
  rcases b with b | ⟨a, o, s, h1, h2, h3, h4⟩
  · cases b with
    | lst h1 h2 => exact ⟨_, _, rfl, e _ _ h1, h2⟩
  · rcases ownIs_no h3 h4 with ⟨_, vs, _, z, z2, z3⟩ | ⟨_, _, _, z⟩
    · cases z; subst z2; exact ⟨a, vs, h1, h2, z3⟩
    · cases z
theorem Bp.tup {ds : List PyData} (b : Bp K F H (.tuple ds) v) : ∃ a o vs, v = .ref a ∧ F a = some (.frz o (.tup vs)) ∧ o.dict = none ∧ RpAll K F ds vs := by
  rcases b with b | ⟨a, o, s, h1, h2, h3, h4⟩
  · cases b with
    | tup h1 h2 h3 => exact ⟨_, _, _, rfl, h1, h2, h3⟩
  · rcases ownIs_no h3 h4 with ⟨_, vs, _, z, z2, z3⟩ | ⟨_, _, _, z⟩ <;> cases z
theorem Bp.rp {d : PyData} (b : Bp K F H d v) (e : Ex F H) : Rp K H d v := by
  rcases b with b | ⟨a, o, s, rfl, h2, h3, h4⟩
  · exact Rp.mono e _ _ b
  · cases s with
    | own ds => obtain ⟨vs, z1, z2⟩ := h3; cases h4; subst z1; exact .lst h2 (z2.mono e)
    | odc t es =>
      cases t with
      | false => obtain ⟨vs, z1, z2⟩ := h3; cases h4; subst z1; exact .dK h2 (z2.mono e)
      | true => cases h4
    | un => exact h3.elim
    | val d => exact h3.elim
    | scr ns => exact h3.elim
theorem BpAll.one {d : PyData} {vs : List V} (h : BpAll K F H [d] vs) : ∃ v, vs = [v] ∧ Bp K F H d v := by
  cases h with
  | cons h1 h2 => cases h2; exact ⟨_, rfl, h1⟩
theorem BpAll.two {d e : PyData} {vs : List V} (h : BpAll K F H [d, e] vs) : ∃ v w, vs = [v, w] ∧ Bp K F H d v ∧ Bp K F H e w := by
  cases h with
  | cons h1 h2 =>
    obtain ⟨w, rfl, h3⟩ := h2.one
    exact ⟨_, w, rfl, h1, h3⟩
theorem BpAll.three {d e g : PyData} {vs : List V} (h : BpAll K F H [d, e, g] vs) : ∃ v w x, vs = [v, w, x] ∧ Bp K F H d v ∧ Bp K F H e w ∧ Bp K F H g x := by
  cases h with
  | cons h1 h2 =>
    obtain ⟨w, x, rfl, h3, h4⟩ := h2.two
    exact ⟨_, w, x, rfl, h1, h3, h4⟩
theorem BpAll.nil' {vs : List V} (h : BpAll K F H [] vs) : vs = [] := by cases h; rfl
end

section
variable {Γ : Ctx} {f : Prim} {d : DenOs} {p : Bool} {pos apos ppos : Pos} {a b c : Expr} {es : List Expr}
/-! ### subscripts -/
def notSlice : Expr → Bool
  | .Slice _ _ _ _ => false
  | _ => true
theorem plainIx {b : Expr} (h : notSlice b = true) : PlainIx b := by
  intro o i
  cases b <;> first | rfl | cases h
theorem snd_ix {r : PySem.W.Frag → R2} (ho : ∀ (X : Cx), IxR X (r X.K)) (hr : ∀ K, Rule K (rr2 (r K)) f) (h : SndOs Γ [a, b] d p) (hb : notSlice b = true) : SndE Γ (.Subscript a b pos) (dP f d) p := by
  intro X Φ B F H ρ σ Q W C hK T R hq
  exact PE.w (pe_ix (ho X) pe_w pe_w (plainIx hb)) (two_w (ops_run (r := fun K => rr2 (r K)) hr h C hK T R hq))
/-- an item of the script -/
def dScrAt (i : Nat) (e : DenO) : Den := fun Φ ρ => match ρ[i]? with
  | some (.scr ns) => (e Φ ρ).bind fun x => match x.1 with
    | .int k => (opt (atI ns k)).bind fun n => .ok (.val (.int n), x.2)
    | _ => .stuck
  | _ => .stuck
theorem snd_scrAt {i : Nat} {x : Str} {xpos : Pos} {e : DenO} {m : Bool} (hN : Γ.N[i]? = some x) (hv : visB Γ.sc x = true) (hx : okName x = true) (h : SndO Γ b e p m) (hb : notSlice b = true) : SndE Γ (.Subscript (.Name x xpos) b pos) (dScrAt i e) p := by
  intro X Φ B F H ρ σ Q W C hK T R hq
  have P : PE X (.Name x xpos) (tVar i) := pe_var (by rw [C.nm]; exact hN) (by rw [C.sc]; exact vis_of hv) (okName_d hx) (okName_c hx)
  unfold dScrAt at hq
  cases e1 : ρ[i]? with
  | none => rw [e1] at hq; exact hq.elim
  | some s =>
    rw [e1] at hq
    cases s with
    | scr ns =>
      obtain ⟨l, e2, e3⟩ := R.sl.scr i ns e1
      refine PE.w (pe_ix ix_list P pe_w (plainIx hb)) ⟨_, e2, ?_⟩
      refine h X Φ B F H ρ σ _ W C hK T R (wp_mono (wp_bind (c := e Φ ρ) hq) (fun y q v F1 H1 R1 g1 g2 hv => ?_) fun _ q => q)
      obtain ⟨y, ρ1⟩ := y
      cases y with
      | int k =>
        have ev : v = .int k := hv.bp.int
        subst ev
        replace q : ((opt (atI ns k)).bind fun n => Out.ok (Slot.val (PyData.int n), ρ1)).wp (EvP B F H σ p Q) (ExP X B F σ W) := q
        cases g : atI ns k with
        | none => rw [g] at q; exact q.elim
        | some n =>
          rw [g] at q
          refine ⟨l, _, k, .int n, rfl, rfl, R1.kept.ex.sqL (g1.sqL (hK ▸ e3)), ?_, q _ F1 H1 R1 g1 g2 (Rp.int n)⟩
          unfold atI at g ⊢
          rw [List.length_map]
          cases z : ixN ns.length k with
          | none => rw [z] at g; cases g
          | some j =>
            rw [z] at g
            show (ns.map V.int)[j]? = _
            rw [List.getElem?_map, show ns[j]? = some n from g]
            rfl
      | _ => exact q.elim
    | _ => exact hq.elim
/-- the script's length -/
def dScrLen (i : Nat) : Den := fun _ ρ => match ρ[i]? with
  | some (.scr ns) => .ok (.val (.int ns.length), ρ)
  | _ => .stuck
theorem snd_scrLen {i : Nat} {x : Str} {xpos fpos : Pos} (hN : Γ.N[i]? = some x) (hv : visB Γ.sc x = true) (hx : okName x = true) (hg : Γ.sc.names.lookup ("len" : Str) = some .globalImplicit) (hf : ("len" : Str) ∈ Γ.blts) :
    SndE Γ (.Call (.Name "len" fpos) [.Name x xpos] [] pos) (dScrLen i) true := by
  intro X Φ B F H ρ σ Q W C hK T R hq
  have P : PE X (.Name x xpos) (tVar i) := pe_var (by rw [C.nm]; exact hN) (by rw [C.sc]; exact vis_of hv) (okName_d hx) (okName_c hx)
  unfold dScrLen at hq
  cases e1 : ρ[i]? with
  | none => rw [e1] at hq; exact hq.elim
  | some s =>
    rw [e1] at hq
    cases s with
    | scr ns =>
      obtain ⟨l, e2, e3⟩ := R.sl.scr i ns e1
      refine PE.w (pe_callB call_len_seq (by show X.env.scope.names.lookup ("len" : Str) = _; rw [C.sc]; exact hg) (C.blt _ hf) PySem.boot_len (pa_cons P pa_nil)) ⟨_, e2, l, _, rfl, .inl (R.kept.ex.sqL (hK ▸ e3)), ?_⟩
      have := hq (.int (ns.map V.int).length) F H R (.refl F) (fun _ => .refl H) (by rw [List.length_map]; exact Rp.int _)
      exact this
    | _ => exact hq.elim
/-! ### slices -/
def oPart (d : Option DenO) : Calls → Env → Out (Option Int × Env) := fun Φ ρ => match d with
  | none => .ok (none, ρ)
  | some d => (d Φ ρ).bind fun x => match x.1 with
    | .int k => .ok (some k, x.2)
    | _ => .stuck
def tO (X : Cx) : Option Expr → TO
  | none => tNoPart
  | some e => tPart (wE X e)
theorem po_w {X : Cx} : ∀ {e : Option Expr}, PO X e (tO X e)
  | none => po_none
  | some _ => po_some pe_w
def SndP (Γ : Ctx) (e : Option Expr) (d : Option DenO) (p : Bool) : Prop := ∀ (X : Cx) (Φ : Calls) (B : Bd) (F H : Hp) (ρ : Env) (σ : St) (Q : Option Int → Hp → Prop) (W : WX), CtxOk Γ Φ X → B.K = X.K → L2N.Takes X W → Rel B F H ρ σ →
  (oPart d Φ ρ).wp (fun r => ∀ F' H', Rel B F' H' r.2 σ → Ex F F' → (p = true → Ex H H') → Q r.1 H') (ExP X B F σ W) → tO X e σ H Q
theorem snd_part0 : SndP Γ none none true := fun X Φ B F H ρ σ Q W C hK T R h => h F H R (.refl F) fun _ => .refl H
theorem snd_part1 {d : DenO} {m : Bool} (h : SndO Γ a d p m) : SndP Γ (some a) (some d) p := by
  intro X Φ B F H ρ σ Q W C hK T R hq
  refine h X Φ B F H ρ σ _ W C hK T R (wp_mono (wp_bind (c := d Φ ρ) hq) (fun y q v F1 H1 R1 g1 g2 hv => ?_) fun _ q => q)
  obtain ⟨y, ρ1⟩ := y
  cases y with
  | int k => exact ⟨k, hv.bp.int, q F1 H1 R1 g1 g2⟩
  | _ => exact q.elim
def dSl (f : PyData → Option Int → Option Int → Option Slot) (a : DenO) (lo hi : Option DenO) : Den := fun Φ ρ => (a Φ ρ).bind fun x => (oPart lo Φ x.2).bind fun l => (oPart hi Φ l.2).bind fun u => (opt (f x.1 l.1 u.1)).bind fun s => .ok (s, u.2)
def RuleS (K : PySem.W.Frag) (r : V → Option Int → Option Int → Hp → VK → Prop) (f : PyData → Option Int → Option Int → Option Slot) : Prop := ∀ (F H : Hp) (x : PyData) (v : V) (l u : Option Int) (Q : VK) (s : Slot), Ex F H → Bp K F H x v → f x l u = some s → PQ K F H Q s → r v l u H Q
theorem snd_slice {g : PyData → Option Int → Option Int → Option Slot} {r : PySem.W.Frag → V → Option Int → Option Int → Hp → VK → Prop} {lo hi : Option Expr} {x : DenO} {l u : Option DenO} {m p1 p2 : Bool} (ho : ∀ (X : Cx), SlR X (r X.K)) (hr : ∀ K, RuleS K (r K) g)
    (ha : SndO Γ a x p m) (hl : SndP Γ lo l p1) (hu : SndP Γ hi u p2) (hp : ((p1 && p2) || !m) = true) : SndE Γ (.Subscript a (.Slice lo hi none ppos) pos) (dSl g x l u) (p && (p1 && p2)) := by
  intro X Φ B F H ρ σ Q W C hK T R hq
  refine PE.w (pe_slice (ho X) pe_w po_w po_w) ?_
  refine ha X Φ B F H ρ σ _ W C hK T R (wp_mono (wp_bind (c := x Φ ρ) hq) (fun y q v F1 H1 R1 e1 e2 hv => ?_) fun _ q => q)
  refine hl X Φ B F1 H1 y.2 σ _ W C hK T R1 (wp_mono (wp_bind (c := oPart l Φ y.2) q) (fun z q F2 H2 R2 e3 e4 => ?_) (ExP.mono e1))
  refine hu X Φ B F2 H2 z.2 σ _ W C hK T R2 (wp_mono (wp_bind (c := oPart u Φ z.2) q) (fun z' q F3 H3 R3 e5 e6 => ?_) (ExP.mono (e1.trans e3)))
  cases g' : g y.1 z.1 z'.1 with
  | none => rw [g'] at q; exact q.elim
  | some s =>
    rw [g'] at q
    rw [← hK]
    refine hr B.K F3 H3 y.1 v z.1 z'.1 Q s R3.kept.ex (Vp.bp (m := m) (hv.mono (e3.trans e5) fun hm => ?_)) g' (pq_of R3 ((e1.trans e3).trans e5) (fun hp' => ?_) q)
    · rw [hm] at hp
      simp only [Bool.not_true, Bool.or_false, Bool.and_eq_true] at hp
      exact (e4 hp.1).trans (e6 hp.2)
    · simp only [Bool.and_eq_true] at hp'
      exact ((e2 hp'.1).trans (e4 hp'.2.1)).trans (e6 hp'.2.2)
/-! ### a < b < c, whole numbers -/
def dCh (f g : Int → Int → Bool) (a b c : DenO) : Den := fun Φ ρ => (a Φ ρ).bind fun x => (b Φ x.2).bind fun y => match x.1, y.1 with
  | .int i, .int j => if f i j then (c Φ y.2).bind fun z => match z.1 with
      | .int k => .ok (.val (.bool (g j k)), z.2)
      | _ => .stuck
    else .ok (.val (.bool false), y.2)
  | _, _ => .stuck
def IntCmp (op : CmpOp) (f : Int → Int → Bool) : Prop := ∀ X : Cx, OpR X (compareOp op) (rI0 fun i j => .bl (f i j))
theorem lastM {op op' : CmpOp} {b c : Expr} (h : notSet c = true) : lastMarks [op, op'] [b, c] = false := nomark' (op := op') h
theorem ch_run {op op' : CmpOp} {f g : Int → Int → Bool} {x y z : DenO} {m1 m2 m3 p1 p2 p3 : Bool} {X : Cx} {Φ : Calls} {B : Bd} {F H : Hp} {ρ : Env} {σ : St} {Q : VK} {W : WX}
    (ha : SndO Γ a x p1 m1) (hb : SndO Γ b y p2 m2) (hc : SndO Γ c z p3 m3) (C : CtxOk Γ Φ X) (hK : B.K = X.K) (T : L2N.Takes X W) (R : Rel B F H ρ σ) (hq : (dCh f g x y z Φ ρ).wp (EvP B F H σ (p1 && (p2 && p3)) Q) (ExP X B F σ W)) :
    tChain (rI0 fun i j => .bl (f i j)) (rI0 fun i j => .bl (g i j)) (wE X a) (wE X b) (wE X c) σ H Q := by
  refine ha X Φ B F H ρ σ _ W C hK T R (wp_mono (wp_bind (c := x Φ ρ) hq) (fun u q v F1 H1 R1 e1 e2 hv => ?_) fun _ q => q)
  refine hb X Φ B F1 H1 u.2 σ _ W C hK T R1 (wp_mono (wp_bind (c := y Φ u.2) q) (fun u' q w F2 H2 R2 e3 e4 hw => ?_) (ExP.mono e1))
  obtain ⟨u, ρ1⟩ := u
  obtain ⟨u', ρ2⟩ := u'
  cases u with
  | int i =>
    cases u' with
    | int j =>
      have q : (if f i j then (z Φ ρ2).bind fun z => match z.1 with
        | .int k => .ok (.val (.bool (g j k)), z.2)
        | _ => .stuck
       else .ok (.val (.bool false), ρ2) : Out (Slot × Env)).wp (EvP B F H σ (p1 && (p2 && p3)) Q) (ExP X B F σ W) := q
      refine ⟨i, j, hv.bp.int, hw.bp.int, _, rfl, ?_⟩
      cases k : f i j with
      | true =>
        rw [k, if_pos rfl] at q
        refine iteT (hc X Φ B F2 H2 ρ2 σ _ W C hK T R2 (wp_mono (wp_bind (c := z Φ ρ2) q) (fun s q w' F3 H3 R3 e5 e6 hw' => ?_) (ExP.mono (e1.trans e3))))
        obtain ⟨s, ρ3⟩ := s
        cases s with
        | int l =>
          refine ⟨j, l, hw.bp.int, hw'.bp.int, q _ F3 H3 R3 ((e1.trans e3).trans e5) (fun h => ?_) (Rp.bl _)⟩
          simp only [Bool.and_eq_true] at h
          exact ((e2 h.1).trans (e4 h.2.1)).trans (e6 h.2.2)
        | _ => exact q.elim
      | false =>
        rw [k, if_neg Bool.false_ne_true] at q
        refine iteF (q _ F2 H2 R2 (e1.trans e3) (fun h => ?_) (Rp.bl _))
        simp only [Bool.and_eq_true] at h
        exact (e2 h.1).trans (e4 h.2.1)
    | _ => exact q.elim
  | _ => exact q.elim
theorem snd_chain {op op' : CmpOp} {f g : Int → Int → Bool} {x y z : DenO} {m1 m2 m3 p1 p2 p3 : Bool} (ho : IntCmp op f) (ho' : IntCmp op' g) (ha : SndO Γ a x p1 m1) (hb : SndO Γ b y p2 m2) (hc : SndO Γ c z p3 m3) (hs : notSet c = true) : SndE Γ (.Compare a [op, op'] [b, c] pos) (dCh f g x y z) (p1 && (p2 && p3)) := by
  intro X Φ B F H ρ σ Q W C hK T R hq
  exact PE.w (pe_chain (ho X) (ho' X) pe_w pe_w pe_w (lastM hs)) (ch_run (op := op) (op' := op') ha hb hc C hK T R hq)
theorem snd_chainT {op op' : CmpOp} {f g : Int → Int → Bool} {x y z : DenO} {m1 m2 m3 p1 p2 p3 : Bool} (ho : IntCmp op f) (ho' : IntCmp op' g) (ha : SndO Γ a x p1 m1) (hb : SndO Γ b y p2 m2) (hc : SndO Γ c z p3 m3) (hs : notSet c = true) : SndT Γ (.Compare a [op, op'] [b, c] pos) (dCh f g x y z) (p1 && (p2 && p3)) := by
  intro X Φ B F H ρ σ Q W C hK T R hq
  refine PT.w (pt_chain (ho X) (ho' X) pe_w pe_w pe_w (lastM hs)) ?_
  exact ch_run (op := op) (op' := op') ha hb hc C hK T R (wp_mono hq (fun _ z => evp_test z) fun _ z => z)
/-! ### built-ins by their names -/
theorem gl_of {X : Cx} {Φ : Calls} {x : Str} (C : CtxOk Γ Φ X) (hg : Γ.sc.names.lookup x = some .globalImplicit) : Gl X x := by
  show X.env.scope.names.lookup x = _
  rw [C.sc]
  exact hg
theorem snd_callB {id : String} {x : Str} {fpos : Pos} {r : PySem.W.Frag → List V → Hp → VK → Prop} (ho : ∀ (X : Cx), X.calm = true → Room 0 X.A → CallR X (.builtin id) (r X.K)) (hr : ∀ K, Rule K (r K) f) (hv : bootBuiltins x = some (.builtin id)) (h : SndOs Γ (a :: es) d p)
    (he : (a :: es).all plainE = true) (hg : Γ.sc.names.lookup x = some .globalImplicit) (hf : x ∈ Γ.blts) (hx : okName x = true) : SndE Γ (.Call (.Name x fpos) (a :: es) [] pos) (dP f d) p := by
  intro X Φ B F H ρ σ Q W C hK T R hq
  have he' := he
  rw [List.all_cons, Bool.and_eq_true] at he'
  exact PE.w (pe_callB (ho X C.calm C.room) (gl_of C hg) (C.blt _ hf) hv (pa_ws he) (okName_n hx) (okName_d hx) (star_of he'.1) (plain_any he'.2)) (ops_run (r := r) hr h C hK T R hq)
theorem snd_callTy {id : String} {x : Str} {fpos : Pos} {r : PySem.W.Frag → List V → Hp → VK → Prop} (ho : ∀ (X : Cx), X.calm = true → Room 0 X.A → CallR X (.type id) (r X.K)) (hr : ∀ K, Rule K (r K) f) (hv : bootBuiltins x = some (.type id)) (h : SndOs Γ (a :: es) d p)
    (he : (a :: es).all plainE = true) (hg : Γ.sc.names.lookup x = some .globalImplicit) (hf : x ∈ Γ.blts) (hx : okName x = true) : SndE Γ (.Call (.Name x fpos) (a :: es) [] pos) (dP f d) p := by
  intro X Φ B F H ρ σ Q W C hK T R hq
  have he' := he
  rw [List.all_cons, Bool.and_eq_true] at he'
  exact PE.w (pe_callTy (ho X C.calm C.room) (gl_of C hg) (C.blt _ hf) hv (pa_ws he) (okName_n hx) (okName_d hx) (star_of he'.1) (plain_any he'.2)) (ops_run (r := r) hr h C hK T R hq)
/-- isinstance(e, T) -/
def isT (T : String) : PyData → Bool
  | .none => T == "NoneType"
  | .bool _ => T == "bool" || T == "int"
  | .int _ => T == "int"
  | .str _ => T == "str"
  | .list _ => T == "list"
  | .tuple _ => T == "tuple"
  | .dict _ => T == "dict"
def pIs (T : String) : Prim
  | [x] => some (.val (.bool (isT T x)))
  | _ => none
/-- the type of a value, by what it is -/
def tyD : PyData → String
  | .none => "NoneType"
  | .bool _ => "bool"
  | .int _ => "int"
  | .str _ => "str"
  | .list _ => "list"
  | .tuple _ => "tuple"
  | .dict _ => "dict"
theorem tyX_of {K : PySem.W.Frag} {F H : Hp} {x : PyData} {v : V} (e : Ex F H) (h : Bp K F H x v) : TyX K H v (.type (tyD x)) := by
  have r := h.rp e
  cases x with
  | none => cases r; exact .base .non
  | bool b => cases r; exact .base (.bl b)
  | int i => cases r; exact .base (.int i)
  | str s => cases r; exact .base (.str s)
  | list ds => cases r with | lst h1 _ => exact .base (.lst h1)
  | tuple ds =>
    cases r with
    | tup h1 _ _ => exact .fTuple h1
  | dict es =>
    cases r with
    | dK h1 _ => exact .base (.dK h1)
    | dT h1 _ => exact .fDict h1
def isTs : List String := ["int", "bool", "str", "list", "tuple"]
theorem kit_all : (["NoneType", "bool", "int", "str", "list", "tuple", "dict"] : List String).all (fun a => isTs.all fun b => kitB a b == some (if a == "bool" then b == "bool" || b == "int" else b == a)) = true := by decide +kernel
theorem kit_is {K : PySem.W.Frag} {T : String} (hT : T ∈ isTs) (x : PyData) : PySem.W.kitOne K (.type (tyD x)) (.type T) = some (isT T x) := by
  refine kit_ty ?_
  have h := List.all_eq_true.mp kit_all
  have g : ∀ a ∈ (["NoneType", "bool", "int", "str", "list", "tuple", "dict"] : List String), kitB a T = some (if a == "bool" then T == "bool" || T == "int" else T == a) := fun a ha =>
    beq_iff_eq.mp (List.all_eq_true.mp (h a ha) T hT)
  cases x with
  | none => rw [show tyD .none = "NoneType" from rfl, g _ (by simp)]; rw [show isT T .none = (T == "NoneType") from rfl]; rfl
  | bool b => rw [show tyD (.bool b) = "bool" from rfl, g _ (by simp)]; rfl
  | int b => rw [show tyD (.int b) = "int" from rfl, g _ (by simp)]; rw [show isT T (.int b) = (T == "int") from rfl]; rfl
  | str b => rw [show tyD (.str b) = "str" from rfl, g _ (by simp)]; rw [show isT T (.str b) = (T == "str") from rfl]; rfl
  | list b => rw [show tyD (.list b) = "list" from rfl, g _ (by simp)]; rw [show isT T (.list b) = (T == "list") from rfl]; rfl
  | tuple b => rw [show tyD (.tuple b) = "tuple" from rfl, g _ (by simp)]; rw [show isT T (.tuple b) = (T == "tuple") from rfl]; rfl
  | dict b => rw [show tyD (.dict b) = "dict" from rfl, g _ (by simp)]; rw [show isT T (.dict b) = (T == "dict") from rfl]; rfl
theorem boot_isinstance' : bootBuiltins "isinstance" = some (.builtin "isinstance") := by decide +kernel
theorem snd_isi {T : String} {x : Str} {fpos tpos : Pos} (hT : T ∈ isTs) (hv : bootBuiltins x = some (.type T)) (h : SndOs Γ [a] d p)
    (he : plainE a = true) (hg : Γ.sc.names.lookup ("isinstance" : Str) = some .globalImplicit) (hf : ("isinstance" : Str) ∈ Γ.blts) (hg2 : Γ.sc.names.lookup x = some .globalImplicit) (hf2 : x ∈ Γ.blts) (hx : okName x = true) :
    SndE Γ (.Call (.Name "isinstance" fpos) [a, .Name x tpos] [] pos) (dP (pIs T) d) p := by
  intro X Φ B F H ρ σ Q W C hK Tk R hq
  have PT : PE X (.Name x tpos) (tC (.ty T)) := pe_bltn (v := .ty T) (gl_of C hg2) (C.blt _ hf2) hv rfl (okName_n hx) (okName_d hx)
  refine PE.w (pe_callB call_isi (gl_of C hg) (C.blt _ hf) boot_isinstance' (pa_cons pe_w (pa_cons PT pa_nil) (star_of he)) (he := star_of he)) ?_
  have run := ops_run (f := pIs T) (r := fun K vs H Q => ∃ x, vs = [x] ∧ rIsi K [x, .ty T] H Q) (fun K F H ds vs Q s e hb hs q => by
    cases hb with
    | nil => cases hs
    | cons h1 h2 =>
      cases h2 with
      | nil =>
        cases hs
        exact ⟨_, rfl, _, _, _, _, _, rfl, .ty T, tyX_of e h1, kit_is hT _, q _ F H (.refl e) (Rp.bl _)⟩
      | cons _ _ => cases hs) h C hK Tk R hq
  exact wE.mono run fun v H1 ⟨x, e, q⟩ => by cases e; exact q
/-! ### methods that read -/
def notCall : Expr → Bool
  | .Call _ _ _ _ => false
  | _ => true
theorem base_of {o : Expr} {n : Str} {env : PySem.Env} {w : Sem Value} (h : notCall o = true) : attributeBase o n env w = w := by
  unfold attributeBase
  cases o <;> first | rfl | cases h
theorem few_of {cpos : Pos} {env : PySem.Env} {es : List Expr} (h : es.all plainE = true) (hl : es.length < 20) : ((backTo cpos (starEach es env)).all (fun x => !x.1) && (backToKw cpos (keywordEach [] env)).all (fun x => x.1.isSome)
      && decide (es.length + ([] : List Keyword).length + (if ([] : List Keyword).isEmpty then 0 else 1) < 30)) = true := by
  have h1 : (backTo cpos (starEach es env)).all (fun x => !x.1) = true := by
    have z := plain_any (pos := cpos) (env := env) h
    rw [List.any_eq_false] at z
    rw [List.all_eq_true]
    intro x hx
    have := z x hx
    simpa using this
  have h2 : decide (es.length + ([] : List Keyword).length + (if ([] : List Keyword).isEmpty then 0 else 1) < 30) = true := by
    apply decide_eq_true
    show es.length + 0 + 0 < 30
    omega
  rw [h1, h2]
  rfl
/-- the receiver's type, its dict none -/
def tyW (K : PySem.W.Frag) (T : String) (x : V) (H : Hp) : Prop := tyV K T x H ∨ (T = "tuple" ∧ ∃ p o xs, x = .ref p ∧ H p = some (.frz o (.tup xs)) ∧ o.dict = none)
theorem tyW_is {X : Cx} {pins : List (Addr × Obj)} {σ : St} {H : Hp} {s : Shared} {T : String} {x : V} {v : Value} (I : Inv X pins σ H s) (r : RelV x v) (ty : tyW X.K T x H) :
    s.TypeIs v T ∧ ∀ a, v = .ref a → ∃ ob, s.heap.get? a = some ob ∧ ob.dict = none := by
  rcases ty with ty | ⟨rfl, p, o, xs, rfl, h1, h2⟩
  · exact tyV_is I r ty
  · cases r
    obtain ⟨g, _, its, rv, o', g', c, _⟩ := (show ObjOk X.prog X.w H s.heap p (.frz o (.tup xs)) from I.hok p _ h1)
    rw [g] at g'
    cases g'
    exact ⟨⟨o, g, c⟩, fun a e => by cases e; exact ⟨o, g, h2⟩⟩
def tBMW (K : PySem.W.Frag) (T : String) (r : V → List V → Hp → VK → Prop) (to : TE) (t : TA) : TE := fun σ H Q => to σ H fun x H1 => tyW K T x H1 ∧ t σ H1 fun xs H2 => r x xs H2 Q
theorem pe_bmW {X : Cx} {o e : Expr} {to : TE} {t : TA} {name : Str} {cpos : Pos} {T id : String} {r : V → List V → Hp → VK → Prop} (pa : PlainAttrs T) (slot : PySem.Slot T name id) (hty : typeOf (.builtin id) = pure (.type "method_descriptor")) (hm : MtR X id r) (ho : PE X o to) (ha : PA X (e :: es) t)
    (hbase : attributeBase o name X.env (eval o X.env) = eval o X.env)
    (hfew : ((backTo cpos (starEach (e :: es) X.env)).all (fun x => !x.1) && (backToKw cpos (keywordEach [] X.env)).all (fun x => x.1.isSome)
      && decide ((e :: es).length + ([] : List Keyword).length + (if ([] : List Keyword).isEmpty then 0 else 1) < 30)) = true)
    (hline : (apos.endLine == cpos.line) = true) (hs : starEach (e :: es) X.env = (false, eval e X.env) :: starEach es X.env) (hplain : (backTo cpos (starEach es X.env)).any (·.1) = false) :
    PE X (.Call (.Attribute o name apos) (e :: es) [] cpos) (tBMW X.K T r to t) := by
  refine ⟨fun pins s σ H Q I h => ?_⟩
  refine wpAny_Call_method_late hbase hfew hline rfl (thn (ho.run pins s σ H _ I h) fun v s1 ⟨x, H1, I1, r1, ty, q1⟩ => ?_)
  obtain ⟨h1, h2⟩ := tyW_is I1 r1 ty
  refine ⟨T, id, pa, slot, hty, h1, h2, ?_⟩
  have hA := ha.run cpos pins s1 σ H1 _ I1 q1
  rw [hs] at hA ⊢
  refine Calls.callWith_builtin (by show (false || (backTo cpos (starEach es X.env)).any (·.1)) = false; rw [hplain] <;> rfl) (Calls.evalArgs_plain ?_)
  exact thn hA fun us s2 ⟨vs, H2, I2, r2, q2⟩ => hm pins s2 σ H2 x vs v us Q I2 r1 r2 q2
theorem tyW_of {K : PySem.W.Frag} {F H : Hp} {x : PyData} {v : V} {T : String} (e : Ex F H) (h : Bp K F H x v) (ht : tyD x = T) (hn : (["int", "str", "list", "tuple"] : List String).contains T = true) : tyW K T v H := by
  have r := h.rp e
  subst ht
  cases x with
  | none => simp [tyD] at hn
  | bool b => simp [tyD] at hn
  | int i => cases r; exact .inl rfl
  | str s => cases r; exact .inl rfl
  | list ds => cases r with | lst h1 _ => exact .inl (.inl ⟨rfl, _, .inl (.inl h1)⟩)
  | tuple ds => cases r with | tup h1 h2 _ => exact .inr ⟨rfl, _, _, _, rfl, h1, h2⟩
  | dict es => simp [tyD] at hn
/-- o.m(e, ..): a built-in type's method that changes nothing; T the receiver's type -/
def dM (T : String) (f : Prim) (x : DenO) (ds : DenOs) : Den := fun Φ ρ => (x Φ ρ).bind fun o => guard' (tyD o.1 == T) ((ds Φ o.2).bind fun a => (opt (f (o.1 :: a.1))).bind fun s => .ok (s, a.2))
theorem snd_meth {T id : String} {m : Str} {r : PySem.W.Frag → V → List V → Hp → VK → Prop} {x : DenO} {pm : Bool} {p' : Bool} {o : Expr} (pa : PlainAttrs T) (slot : PySem.Slot T m id) (hty : typeOf (.builtin id) = pure (.type "method_descriptor"))
    (ho : ∀ (X : Cx), X.calm = true → Room 0 X.A → MtR X id (r X.K)) (hr : ∀ K, Rule K (rrm (r K)) f) (hT : (["int", "str", "list", "tuple"] : List String).contains T = true) (h1 : SndO Γ o x p pm) (h2 : SndOs Γ (a :: es) d p') (hp : (p' || !pm) = true)
    (he : (a :: es).all plainE = true) (hl : (a :: es).length < 20) (hc : notCall o = true) (hline : (apos.endLine == pos.line) = true) : SndE Γ (.Call (.Attribute o m apos) (a :: es) [] pos) (dM T f x d) (p && p') := by
  intro X Φ B F H ρ σ Q W C hK Tk R hq
  have he' := he
  rw [List.all_cons, Bool.and_eq_true] at he'
  refine PE.w (pe_bmW pa slot hty (ho X C.calm C.room) pe_w (pa_ws he) (base_of hc) (few_of he hl) hline (star_of he'.1) (plain_any he'.2)) ?_
  refine h1 X Φ B F H ρ σ _ W C hK Tk R (wp_mono (wp_bind (c := x Φ ρ) hq) (fun y q v F1 H1 R1 e1 e2 hv => ?_) fun _ q => q)
  obtain ⟨ht, q⟩ := wp_guard q
  refine ⟨tyW_of R1.kept.ex hv.bp (beq_iff_eq.mp ht) hT |> fun z => hK ▸ z, ?_⟩
  refine h2 X Φ B F1 H1 y.2 σ _ W C hK Tk R1 (wp_mono (wp_bind (c := d Φ y.2) q) (fun z q vs F2 H2 R2 e3 e4 hvs => ?_) (ExP.mono e1))
  cases g : f (y.1 :: z.1) with
  | none =>
    replace q : ((opt (f (y.1 :: z.1))).bind fun s => Out.ok (s, z.2)).wp (EvP B F H σ (p && p') Q) (ExP X B F σ W) := q
    rw [g] at q; exact q.elim
  | some s =>
    replace q : ((opt (f (y.1 :: z.1))).bind fun s => Out.ok (s, z.2)).wp (EvP B F H σ (p && p') Q) (ExP X B F σ W) := q
    rw [g] at q
    have := hr B.K F2 H2 (y.1 :: z.1) (v :: vs) Q s R2.kept.ex (.cons (Vp.bp (m := pm) (hv.mono e3 fun hm => ?_)) hvs) g (pq_of R2 (e1.trans e3) (fun hp' => ?_) q)
    · obtain ⟨x', xs', e, q⟩ := this
      cases e
      rw [← hK]
      exact q
    · rw [hm] at hp
      simp only [Bool.not_true, Bool.or_false] at hp
      exact e4 hp
    · simp only [Bool.and_eq_true] at hp'
      exact (e2 hp'.1).trans (e4 hp'.2)

/-! ### calls of defs -/
/-- one argument: where it comes from (a slot that is lent), what it is -/
abbrev DenA := Calls → Env → Out (List (Option Nat × Slot) × Env)
def asNil : DenA := fun _ ρ => .ok ([], ρ)
/-- a name: what it owns is lent -/
def asVar (i : Nat) (r : DenA) : DenA := fun Φ ρ => match ρ[i]? with
  | some (.val d) => (r Φ ρ).bind fun y => .ok ((none, .val d) :: y.1, y.2)
  | some (.scr ns) => (r Φ ρ).bind fun y => .ok ((none, .scr ns) :: y.1, y.2)
  | some (.own ds) => (r Φ (ρ.set i .un)).bind fun y => .ok ((some i, .own ds) :: y.1, y.2)
  | some (.odc t es) => (r Φ (ρ.set i .un)).bind fun y => .ok ((some i, .odc t es) :: y.1, y.2)
  | _ => .stuck
def asExp (d : Den) (r : DenA) : DenA := fun Φ ρ => (d Φ ρ).bind fun x => (r Φ x.2).bind fun y => .ok ((none, x.1) :: y.1, y.2)
/-- lent things come back -/
def giveBack : List (Option Nat × Slot) → List Slot → Env → Env
  | (some i, _) :: as, s :: ss, ρ => giveBack as ss (ρ.set i s)
  | (none, _) :: as, _ :: ss, ρ => giveBack as ss ρ
  | _, _, ρ => ρ
def dCall (x : Str) (n : Nat) (as : DenA) : Den := fun Φ ρ => (as Φ ρ).bind fun y => guard' (y.1.length == n) ((Φ x (y.1.map (·.2))).bind fun r => guard' (r.2.length == n) (.ok (r.1, giveBack y.1 r.2 y.2)))
end
end Dn

/-! Den4: calls of defs. -/
namespace Dn
open PySem PySem.Spec L2
open PyProof.Rows hiding St

/-! ### another ground -/
/-- the addresses that slots own -/
def ownedI (ρ : Env) (σ : St) : Nat → Addr → Prop := fun i a => ∃ t : Slot, ρ[i]? = some t ∧ t.isOwn = true ∧ σ[i]? = some (some (.ref a))
def owned (ρ : Env) (σ : St) : Addr → Prop := fun a => ∃ (i : Nat) (t : Slot), ρ[i]? = some t ∧ t.isOwn = true ∧ σ[i]? = some (some (.ref a))
def Bd.re (B : Bd) (F H : Hp) (ρ : Env) (σ : St) : Bd := ⟨B.K, F, H, ownedI ρ σ, B.vs⟩
theorem re_La {B : Bd} {F H : Hp} {ρ : Env} {σ : St} {a : Addr} : (B.re F H ρ σ).La a ↔ owned ρ σ a := Iff.rfl
section
variable {B : Bd} {F H F' H' : Hp} {ρ ρ' : Env} {σ : St} {L : Nat → Addr → Prop} {us : List V} {X : Cx} {W : WX}
theorem Kept.trans (k : Kept B F H) (k' : Kept ⟨B.K, F, H, L, us⟩ F' H') (hL : ∀ a, (∃ i, L i a) → B.La a ∨ B.H0 a = none) : Kept B F' H' := by
  have no : ∀ {a : Addr}, B.H0 a ≠ none → ¬ B.La a → ¬ ∃ i, L i a := fun {a} h1 h2 h3 => by
    rcases hL a h3 with z | z
    · exact h2 z
    · exact h1 z
  refine ⟨k.ff.trans k'.ff, k'.ex, fun a o h n => k'.keep a o (k.keep a o h n) (no (by rw [h]; exact fun z => by cases z) n), fun a h1 h2 h3 => k'.nof a (k.live a h1) (k.nof a h1 h2 h3) (no h1 h3), fun a h => k'.live a (k.live a h)⟩
theorem Rel.re (k : Rel B F H ρ σ) : Rel (B.re F H ρ σ) F H ρ σ := by
  refine ⟨⟨.refl F, k.kept.ex, fun _ _ h _ => h, fun _ _ h _ => h, fun _ h => h⟩, ⟨k.sl.len, k.sl.val, k.sl.scr, fun i s h hs => ?_, k.sl.par, k.sl.dis⟩⟩
  obtain ⟨a, o, h1, h2, h3, h4, h5⟩ := k.sl.own i s h hs
  exact ⟨a, o, h1, h2, h3, h4, .inl ⟨s, h, hs, h1⟩⟩
theorem Rel.lentI (k : Rel B F H ρ σ) : ∀ i a, ownedI ρ σ i a → B.L i a ∨ B.H0 a = none := fun i a ⟨t, h1, h2, h3⟩ => by
  obtain ⟨b, o, g1, _, _, _, g5⟩ := k.sl.own i t h1 h2
  rw [h3] at g1
  cases g1
  exact g5
theorem Rel.lents (k : Rel B F H ρ σ) : ∀ a, owned ρ σ a → B.La a ∨ B.H0 a = none := fun a ⟨i, t, h1, h2, h3⟩ => (k.lentI i a ⟨t, h1, h2, h3⟩).imp (fun z => ⟨i, z⟩) id
theorem Kept.old (k : Kept B F H) {a : Addr} (h : H a = none) : B.H0 a = none := by
  cases q : B.H0 a with
  | none => rfl
  | some o => exact absurd h (k.live a (by rw [q]; exact fun z => by cases z))
theorem Rel.un (k : Rel B F H ρ σ) (k' : Rel (B.re F H ρ σ) F' H' ρ' σ) : Rel B F' H' ρ' σ := by
  refine ⟨k.kept.trans k'.kept k.lents, ⟨k'.sl.len, k'.sl.val, k'.sl.scr, fun i s h hs => ?_, k'.sl.par, k'.sl.dis⟩⟩
  obtain ⟨a, o, h1, h2, h3, h4, h5⟩ := k'.sl.own i s h hs
  refine ⟨a, o, h1, h2, h3, h4, ?_⟩
  rcases h5 with z | z
  · exact k.lentI i a z
  · exact .inr (k.kept.old z)
theorem ExP.re {F0 : Hp} (k : Rel B F H ρ σ) (e : Ex F0 F) : ∀ x, ExP X B F0 σ W x → ExP X (B.re F H ρ σ) F σ W x := fun x h F2 H2 c d k2 e2 i =>
  h F2 H2 c d (k.kept.trans k2 k.lents) (e.trans e2) i
/-- forgetting a slot -/
theorem Rel.unset (k : Rel B F H ρ σ) (i : Nat) : Rel B F H (ρ.set i .un) σ := by
  have g : ∀ {j : Nat} {t : Slot}, (ρ.set i .un)[j]? = some t → t ≠ .un → ρ[j]? = some t ∧ j ≠ i := fun {j t} q n => by
    rcases set_get q with ⟨_, z, _⟩ | ⟨z, z2⟩
    · exact absurd z n
    · exact ⟨z2, z⟩
  refine ⟨k.kept, ⟨by rw [List.length_set]; exact k.sl.len, fun j d q => k.sl.val j d (g q (fun z => by cases z)).1, fun j d q => k.sl.scr j d (g q (fun z => by cases z)).1, fun j s q qs => k.sl.own j s (g q (fun z => by rw [z] at qs; cases qs)).1 qs, k.sl.par,
    fun j m t u a ne q qs q' qs' e => k.sl.dis j m t u a ne (g q (fun z => by rw [z] at qs; cases qs)).1 qs (g q' (fun z => by rw [z] at qs'; cases qs')).1 qs' e⟩⟩
end

/-! ### arguments -/
structure ArgsOk (B : Bd) (F H : Hp) (ρ : Env) (σ : St) (as : List (Option Nat × Slot)) (vs : List V) : Prop where
  len : as.length = vs.length
  val : ∀ (j : Nat) (w : Option Nat) (d : PyData), as[j]? = some (w, Slot.val d) → ∃ v, vs[j]? = some v ∧ Rp B.K F d v
  scr : ∀ (j : Nat) (w : Option Nat) (ns : List Int), as[j]? = some (w, Slot.scr ns) → ∃ a, vs[j]? = some (.ref a) ∧ SqL B.K F a (ns.map V.int)
  own : ∀ (j : Nat) (w : Option Nat) (s : Slot), as[j]? = some (w, s) → s.isOwn = true → ∃ a o, vs[j]? = some (.ref a) ∧ F a = none ∧ H a = some o ∧ OwnIs B.K F o s ∧ ((∃ i, w = some i ∧ B.L i a) ∨ B.H0 a = none) ∧ ¬ owned ρ σ a
  dis : ∀ (j k : Nat) (w w' : Option Nat) (s t : Slot) (a : Addr), j ≠ k → as[j]? = some (w, s) → s.isOwn = true → as[k]? = some (w', t) → t.isOwn = true → vs[j]? = some (.ref a) → vs[k]? ≠ some (.ref a)
  ret : ∀ (j i : Nat) (s : Slot), as[j]? = some (some i, s) → s.isOwn = true ∧ ∃ v, vs[j]? = some v ∧ σ[i]? = some (some v)
  no : ∀ p ∈ as, p.2 ≠ .un
def SndA (Γ : Ctx) (es : List Expr) (d : DenA) : Prop := ∀ (X : Cx) (Φ : Calls) (B : Bd) (F H : Hp) (ρ : Env) (σ : St) (Q : List V → Hp → Prop) (W : WX), CtxOk Γ Φ X → B.K = X.K → L2N.Takes X W → Rel B F H ρ σ →
  (d Φ ρ).wp (fun r => ∀ vs F' H', Rel B F' H' r.2 σ → Ex F F' → ArgsOk B F' H' r.2 σ r.1 vs → Q vs H') (ExP X B F σ W) → wEs X es σ H Q
section
variable {Γ : Ctx} {e : Expr} {es : List Expr} {d : Den} {r : DenA} {p : Bool} {pos fpos : Pos}
variable {B : Bd} {F H F' H' : Hp} {ρ ρ' : Env} {σ : St}
theorem snd_asNil : SndA Γ [] asNil := by
  intro X Φ B F H ρ σ Q W C hK T R h
  refine h [] F H R (.refl F) ⟨rfl, fun j w d q => ?_, fun j w d q => ?_, fun j w d q => ?_, fun j _ _ _ _ _ _ _ q => ?_, fun j w d q => ?_, fun p hp => ?_⟩
  all_goals first | (simp at q; done) | (simp at hp; done)
/-- one more argument, ahead -/
theorem args_cons {w : Option Nat} {s : Slot} {v : V} {as : List (Option Nat × Slot)} {vs : List V} (R : Rel B F H ρ σ) (R' : Rel (B.re F H ρ σ) F' H' ρ' σ) (A : ArgsOk (B.re F H ρ σ) F' H' ρ' σ as vs) (hs : s ≠ .un)
    (hv : ∀ d, s = .val d → Rp B.K F d v) (hc : ∀ ns, s = .scr ns → ∃ a, v = .ref a ∧ SqL B.K F a (ns.map V.int))
    (ho : s.isOwn = true → ∃ a o, v = .ref a ∧ F a = none ∧ H a = some o ∧ OwnIs B.K F o s ∧ ((∃ i, w = some i ∧ B.L i a) ∨ B.H0 a = none) ∧ ¬ owned ρ σ a) (hw : ∀ i, w = some i → s.isOwn = true ∧ σ[i]? = some (some v)) :
    ArgsOk B F' H' ρ' σ ((w, s) :: as) (v :: vs) := by
  have apart : ∀ {a : Addr} {o : HO}, H a = some o → ¬ owned ρ σ a → ∀ b, (owned ρ σ b ∨ H b = none) → b ≠ a := fun {a o} h n b hb z => by
    subst z
    rcases hb with q | q
    · exact n q
    · rw [h] at q; cases q
  have ownA : ∀ {j : Nat} {w : Option Nat} {t : Slot}, as[j]? = some (w, t) → t.isOwn = true → ∃ a, vs[j]? = some (.ref a) ∧ (owned ρ σ a ∨ H a = none) := fun {j w t} q qs => by
    obtain ⟨a, o, g1, _, _, _, g5, _⟩ := A.own j w t q qs
    exact ⟨a, g1, g5.imp (fun ⟨i, _, t, z⟩ => ⟨i, t, z⟩) id⟩
  refine ⟨by simp [A.len], fun j w' d q => ?_, fun j w' d q => ?_, fun j w' t q qs => ?_, fun j k w1 w2 t u a ne q qs q' qs' e1 e2 => ?_, fun j i t q => ?_, fun x hx => ?_⟩
  · cases j with
    | zero =>
      simp only [List.getElem?_cons_zero, Option.some.injEq, Prod.mk.injEq] at q
      exact ⟨v, rfl, (hv d q.2).mono R'.kept.ff⟩
    | succ j => exact A.val j w' d (by simpa using q)
  · cases j with
    | zero =>
      simp only [List.getElem?_cons_zero, Option.some.injEq, Prod.mk.injEq] at q
      obtain ⟨a, g1, g2⟩ := hc d q.2
      exact ⟨a, by rw [g1]; rfl, R'.kept.ff.sqL g2⟩
    | succ j => exact A.scr j w' d (by simpa using q)
  · cases j with
    | zero =>
      simp only [List.getElem?_cons_zero, Option.some.injEq, Prod.mk.injEq] at q
      obtain ⟨q1, q2⟩ := q
      subst q2
      subst q1
      obtain ⟨a, o, g1, g2, g3, g4, g5, g6⟩ := ho qs
      refine ⟨a, o, by rw [g1]; rfl, R'.kept.nof a (by show H a ≠ none; rw [g3]; exact fun z => by cases z) g2 g6, R'.kept.keep a o g3 g6, g4.mono R'.kept.ff, g5, fun ⟨i, t, k1, k2, k3⟩ => ?_⟩
      obtain ⟨b, _, m1, _, _, _, m5⟩ := R'.sl.own i t k1 k2
      rw [k3] at m1
      cases m1
      exact apart g3 g6 a (m5.imp (fun z => ⟨i, z⟩) id) rfl
    | succ j =>
      obtain ⟨a, o, g1, g2, g3, g4, g5, g6⟩ := A.own j w' t (by simpa using q) qs
      refine ⟨a, o, by simpa using g1, g2, g3, g4, ?_, g6⟩
      rcases g5 with ⟨i, z1, z⟩ | z
      · exact (R.lentI i a z).imp (fun y => ⟨i, z1, y⟩) id
      · exact .inr (R.kept.old z)
  · cases j with
    | zero =>
      simp only [List.getElem?_cons_zero, Option.some.injEq, Prod.mk.injEq] at q e1
      obtain ⟨_, q2⟩ := q
      subst q2
      obtain ⟨b, o, g1, g2, g3, g4, g5, g6⟩ := ho qs
      rw [g1] at e1
      cases e1
      cases k with
      | zero => exact ne rfl
      | succ k =>
        obtain ⟨c, k1, k2⟩ := ownA (j := k) (by simpa using q') qs'
        have e2' : vs[k]? = some (.ref a) := by simpa using e2
        rw [k1] at e2'
        cases e2'
        exact apart g3 g6 _ k2 rfl
    | succ j =>
      cases k with
      | zero =>
        simp only [List.getElem?_cons_zero, Option.some.injEq, Prod.mk.injEq] at q' e2
        obtain ⟨_, q2⟩ := q'
        subst q2
        obtain ⟨b, o, g1, g2, g3, g4, g5, g6⟩ := ho qs'
        rw [g1] at e2
        cases e2
        obtain ⟨c, k1, k2⟩ := ownA (j := j) (by simpa using q) qs
        have e1' : vs[j]? = some (.ref a) := by simpa using e1
        rw [k1] at e1'
        cases e1'
        exact apart g3 g6 _ k2 rfl
      | succ k => exact A.dis j k w1 w2 t u a (fun z => ne (by rw [z])) (by simpa using q) qs (by simpa using q') qs' (by simpa using e1) (by simpa using e2)
  · cases j with
    | zero =>
      simp only [List.getElem?_cons_zero, Option.some.injEq, Prod.mk.injEq] at q
      obtain ⟨q1, q2⟩ := q
      subst q2
      exact ⟨(hw i q1).1, v, rfl, (hw i q1).2⟩
    | succ j => exact A.ret j i t (by simpa using q)
  · rcases List.mem_cons.mp hx with z | z
    · rw [z]; exact hs
    · exact A.no x z
theorem snd_asExp (h1 : SndE Γ e d p) (h2 : SndA Γ es r) : SndA Γ (e :: es) (asExp d r) := by
  intro X Φ B F H ρ σ Q W C hK T R h
  refine h1 X Φ B F H ρ σ _ W C hK T R (wp_mono (wp_bind (c := d Φ ρ) h) (fun x q v F1 H1 R1 e1 e2 hv => ?_) fun _ q => q)
  refine h2 X Φ (B.re F1 H1 x.2 σ) F1 H1 x.2 σ _ W C hK T R1.re (wp_mono (wp_bind (c := r Φ x.2) q) (fun y q' vs F2 H2 R2 e3 A => ?_) (ExP.re R1 e1))
  obtain ⟨s, ρ1⟩ := x
  refine q' (v :: vs) F2 H2 (R1.un R2) (e1.trans e3) (args_cons R1 R2 A (fun z => ?_) (fun d z => ?_) (fun ns z => ?_) (fun z => ?_) (fun i z => by cases z))
  · rw [show s = .un from z] at hv; exact hv.elim
  · rw [show s = .val d from z] at hv; exact hv
  · rw [show s = .scr ns from z] at hv; exact hv.elim
  · obtain ⟨a, o, g1, g2, g3, g4, g5, g6⟩ := (Res.of_own z).mp hv
    exact ⟨a, o, g1, g2, g3, g4, .inr g5, fun ⟨i, t, k1, k2, k3⟩ => g6 i t k1 k2 k3⟩
theorem snd_asVar {x : Str} {i : Nat} (hN : Γ.N[i]? = some x) (hv : visB Γ.sc x = true) (hx : okName x = true) (h2 : SndA Γ es r) : SndA Γ (.Name x pos :: es) (asVar i r) := by
  intro X Φ B F H ρ σ Q W C hK T R h
  have P : PE X (.Name x pos) (tVar i) := pe_var (by rw [C.nm]; exact hN) (by rw [C.sc]; exact vis_of hv) (okName_d hx) (okName_c hx)
  unfold asVar at h
  have lend : ∀ s : Slot, s.isOwn = true → ρ[i]? = some s → ((r Φ (ρ.set i .un)).bind fun y => Out.ok ((some i, s) :: y.1, y.2)).wp (fun r => ∀ vs F' H', Rel B F' H' r.2 σ → Ex F F' → ArgsOk B F' H' r.2 σ r.1 vs → Q vs H') (ExP X B F σ W) → wEs X (.Name x pos :: es) σ H Q := fun s hs e hq => by
    obtain ⟨a, o, e1, e2, e3, e4, e5⟩ := R.sl.own i s e hs
    have R1 := R.unset i
    refine P.w ⟨_, e1, ?_⟩
    refine h2 X Φ (B.re F H (ρ.set i .un) σ) F H (ρ.set i .un) σ _ W C hK T R1.re (wp_mono (wp_bind hq) (fun y q' vs F2 H2 R2 e3' A => ?_) (ExP.re R1 (.refl F)))
    refine q' (_ :: vs) F2 H2 (R1.un R2) e3' (args_cons R1 R2 A (fun z => ?_) (fun d z => ?_) (fun ns z => ?_) (fun z => ⟨a, o, rfl, e2, e3, e4, e5.imp (fun z => ⟨i, rfl, z⟩) id, fun ⟨j, t, k1, k2, k3⟩ => ?_⟩) (fun j z => by cases z; exact ⟨hs, e1⟩))
    · rw [show s = .un from z] at hs; cases hs
    · rw [show s = .val d from z] at hs; cases hs
    · rw [show s = .scr ns from z] at hs; cases hs
    · rcases set_get k1 with ⟨_, z2, _⟩ | ⟨z1, z2⟩
      · rw [z2] at k2; cases k2
      · exact R.sl.dis j i t s a z1 z2 k2 e hs k3 e1
  cases e : ρ[i]? with
  | none => rw [e] at h; exact h.elim
  | some s =>
    rw [e] at h
    cases s with
    | val d =>
      obtain ⟨v, g1, g2⟩ := R.sl.val i d e
      refine P.w ⟨v, g1, ?_⟩
      refine h2 X Φ (B.re F H ρ σ) F H ρ σ _ W C hK T R.re (wp_mono (wp_bind (c := r Φ ρ) h) (fun y q' vs F2 H2 R2 e3' A => ?_) (ExP.re R (.refl F)))
      exact q' (v :: vs) F2 H2 (R.un R2) e3' (args_cons R R2 A (fun z => by cases z) (fun d z => by cases z; exact g2) (fun ns z => by cases z) (fun z => by cases z) (fun j z => by cases z))
    | scr ns =>
      obtain ⟨a, g1, g2⟩ := R.sl.scr i ns e
      refine P.w ⟨_, g1, ?_⟩
      refine h2 X Φ (B.re F H ρ σ) F H ρ σ _ W C hK T R.re (wp_mono (wp_bind (c := r Φ ρ) h) (fun y q' vs F2 H2 R2 e3' A => ?_) (ExP.re R (.refl F)))
      exact q' (_ :: vs) F2 H2 (R.un R2) e3' (args_cons R R2 A (fun z => by cases z) (fun d z => by cases z) (fun ns z => by cases z; exact ⟨a, rfl, g2⟩) (fun z => by cases z) (fun j z => by cases z))
    | own ds => exact lend _ rfl e h
    | odc t es => exact lend _ rfl e h
    | un => exact h.elim
/-! ### what was lent comes back -/
theorem Sl.setOut (k : Sl B F H ρ σ) {i : Nat} {a : Addr} {s : Slot} (hi : σ[i]? = some (some (.ref a))) (h : OutIs B.K F H a s) (hL : B.L i a ∨ B.H0 a = none) (hn : ∀ (j : Nat) (t : Slot), j ≠ i → ρ[j]? = some t → t.isOwn = true → σ[j]? ≠ some (some (.ref a))) : Sl B F H (ρ.set i s) σ := by
  refine ⟨by rw [List.length_set]; exact k.len, fun j d q => ?_, fun j ns q => ?_, fun j t q qs => ?_, k.par, fun j m t u b ne q qs q' qs' e1 e2 => ?_⟩
  · rcases set_get q with ⟨z1, z2, _⟩ | ⟨_, z⟩
    · subst z1
      rcases h with ⟨d', g1, g2⟩ | ⟨g1, _⟩
      · rw [g1] at z2; cases z2; exact ⟨_, hi, g2⟩
      · rw [← z2] at g1; cases g1
    · exact k.val j d z
  · rcases set_get q with ⟨z1, z2, _⟩ | ⟨_, z⟩
    · rcases h with ⟨d', g1, g2⟩ | ⟨g1, _⟩
      · rw [g1] at z2; cases z2
      · rw [← z2] at g1; cases g1
    · exact k.scr j ns z
  · rcases set_get q with ⟨z1, z2, _⟩ | ⟨_, z⟩
    · subst z1
      rcases h with ⟨d', g1, g2⟩ | ⟨g1, o, g2, g3, g4⟩
      · rw [z2, g1] at qs; cases qs
      · rw [z2]; exact ⟨a, o, hi, g2, g3, g4, hL⟩
    · exact k.own j t z qs
  · rcases set_get q with ⟨z1, z2, _⟩ | ⟨z1, z⟩
    · subst z1
      rcases set_get q' with ⟨z3, _, _⟩ | ⟨z3, z4⟩
      · exact ne z3.symm
      · rw [hi] at e1
        cases e1
        exact hn m u z3 z4 qs' e2
    · rcases set_get q' with ⟨z3, _, _⟩ | ⟨z3, z4⟩
      · subst z3
        rw [hi] at e2
        cases e2
        exact hn j t z1 z qs e1
      · exact k.dis j m t u b ne z qs z4 qs' e1 e2
theorem giveBack_ok : ∀ (as : List (Option Nat × Slot)) (vs : List V) (ss : List Slot) (ρ : Env), Sl B F H ρ σ → as.length = ss.length → as.length = vs.length →
    (∀ (j i : Nat) (s : Slot), as[j]? = some (some i, s) → ∃ a s', vs[j]? = some (.ref a) ∧ σ[i]? = some (some (.ref a)) ∧ ss[j]? = some s' ∧ OutIs B.K F H a s' ∧ (B.L i a ∨ B.H0 a = none) ∧ (∀ (m : Nat) (t : Slot), m ≠ i → ρ[m]? = some t → t.isOwn = true → σ[m]? ≠ some (some (.ref a)))) →
    (∀ (j k i i' : Nat) (s t : Slot) (a : Addr), j ≠ k → as[j]? = some (some i, s) → as[k]? = some (some i', t) → vs[j]? = some (.ref a) → vs[k]? ≠ some (.ref a)) →
    Sl B F H (giveBack as ss ρ) σ ∧ ∀ (m : Nat) (t : Slot), (giveBack as ss ρ)[m]? = some t → t.isOwn = true → (ρ[m]? = some t ∨ ∃ (j i : Nat) (s : Slot) (a : Addr), as[j]? = some (some i, s) ∧ vs[j]? = some (.ref a) ∧ σ[m]? = some (some (.ref a)))
  | [], _, _, ρ, k, _, _, _, _ => ⟨k, fun m t h _ => .inl h⟩
  | (none, s) :: as, v :: vs, s1 :: ss, ρ, k, h1, h2, h3, h4 => by
    obtain ⟨g1, g2⟩ := giveBack_ok as vs ss ρ k (by simpa using h1) (by simpa using h2) (fun j i t q => h3 (j + 1) i t (by simpa using q)) (fun j m i i' t u a ne q q' e1 e2 => h4 (j + 1) (m + 1) i i' t u a (by omega) (by simpa using q) (by simpa using q') (by simpa using e1) (by simpa using e2))
    refine ⟨g1, fun m t q qs => ?_⟩
    rcases g2 m t q qs with z | ⟨j, i, s, a, z1, z2, z3⟩
    · exact .inl z
    · exact .inr ⟨j + 1, i, s, a, by simpa using z1, by simpa using z2, z3⟩
  | (some i, s) :: as, v :: vs, s1 :: ss, ρ, k, h1, h2, h3, h4 => by
    obtain ⟨a, s', q1, q2, q3, q4, q5, q6⟩ := h3 0 i s rfl
    have e1 : v = .ref a := by simpa using q1
    have e2 : s1 = s' := by simpa using q3
    subst e1
    subst e2
    have k1 : Sl B F H (ρ.set i s1) σ := Sl.setOut k q2 q4 q5 q6
    obtain ⟨g1, g2⟩ := giveBack_ok as vs ss (ρ.set i s1) k1 (by simpa using h1) (by simpa using h2) (fun j i' t q => by
      obtain ⟨b, t', w1, w2, w3, w4, w5, w6⟩ := h3 (j + 1) i' t (by simpa using q)
      refine ⟨b, t', by simpa using w1, w2, by simpa using w3, w4, w5, fun m u ne qm qs em => ?_⟩
      rcases set_get qm with ⟨z1, z2, _⟩ | ⟨z1, z2⟩
      · subst z1
        rw [q2] at em
        cases em
        exact h4 0 (j + 1) m i' s t a (by omega) rfl (by simpa using q) rfl (by simpa using w1)
      · exact w6 m u ne z2 qs em) (fun j m i i' t u a ne q q' e1 e2 => h4 (j + 1) (m + 1) i i' t u a (by omega) (by simpa using q) (by simpa using q') (by simpa using e1) (by simpa using e2))
    refine ⟨g1, fun m t q qs => ?_⟩
    rcases g2 m t q qs with z | ⟨j, i', t', b, z1, z2, z3⟩
    · rcases set_get z with ⟨z1, z2, _⟩ | ⟨_, z2⟩
      · subst z1
        exact .inr ⟨0, m, s, a, rfl, rfl, q2⟩
      · exact .inl z2
    · exact .inr ⟨j + 1, i', t', b, by simpa using z1, by simpa using z2, z3⟩
  | (none, _) :: _, [], _, _, _, _, h2, _, _ => by simp at h2
  | (some _, _) :: _, [], _, _, _, _, h2, _, _ => by simp at h2
  | (none, _) :: _, _ :: _, [], _, _, h1, _, _, _ => by simp at h1
  | (some _, _) :: _, _ :: _, [], _, _, h1, _, _, _ => by simp at h1
/-- f(a, ..) -/
theorem snd_call {x : Str} {n : Nat} {a : Expr} (hf : (x, n) ∈ Γ.fns) (h : SndA Γ (a :: es) r) (he : (a :: es).all plainE = true) (hg : Γ.sc.names.lookup x = some .globalImplicit) (hx : okName x = true) : SndE Γ (.Call (.Name x fpos) (a :: es) [] pos) (dCall x n r) false := by
  intro X Φ B F H ρ σ Q W C hK T R hq
  obtain ⟨f, fd, ps, k, gm, gl, gk, gb, G, rm⟩ := C.fns _ hf
  have he' := he
  rw [List.all_cons, Bool.and_eq_true] at he'
  refine PE.w (pe_callG (E := WE W) G C.grd rm (gl_of C hg) gm gk gb (fun σ => L2N.passAt T σ) (pa_ws he) (okName_d hx) (star_of he'.1) (plain_any he'.2)) ?_
  refine h X Φ B F H ρ σ _ W C hK T R (wp_mono (wp_bind (c := r Φ ρ) hq) (fun y q vs F1 H1 R1 e1 A => ?_) fun _ q => q)
  obtain ⟨as, ρ1⟩ := y
  obtain ⟨hl, q⟩ := wp_guard q
  have hl : as.length = n := by simpa using hl
  have R1 : Rel B F1 H1 ρ1 σ := R1
  have A : ArgsOk B F1 H1 ρ1 σ as vs := A
  have hv : vs.length = n := by rw [← A.len]; exact hl
  have at' : ∀ {j : Nat} {s : Slot}, (as.map (·.2))[j]? = some s → ∃ w, as[j]? = some (w, s) := fun {j s} q => by
    rw [List.getElem?_map] at q
    cases z : as[j]? with
    | none => rw [z] at q; cases q
    | some y => rw [z] at q; cases q; exact ⟨y.1, rfl⟩
  have atm : ∀ {j : Nat} {w : Option Nat} {s : Slot}, as[j]? = some (w, s) → (as.map (·.2))[j]? = some s := fun {j w s} q => by
    rw [List.getElem?_map, q]
    rfl
  have lt : ∀ a, (∃ i, lent (as.map (·.2)) vs i a) → (B.La a ∨ B.H0 a = none) ∧ H1 a ≠ none ∧ ¬ owned ρ1 σ a := fun a ⟨j, s, q1, q2, q3⟩ => by
    obtain ⟨w, q1⟩ := at' q1
    obtain ⟨b, o, g1, g2, g3, g4, g5, g6⟩ := A.own j w s q1 q2
    rw [q3] at g1
    cases g1
    exact ⟨g5.imp (fun ⟨i, _, z⟩ => ⟨i, z⟩) id, (by rw [g3]; exact (fun z => nomatch z)), g6⟩
  have q := wp_bind q
  refine ⟨hv, F1, as.map (·.2), R1.kept.ex, by rw [List.length_map]; exact hl, ⟨by rw [List.length_map, List.length_map]; exact A.len, fun j d q => ?_, fun j ns q => ?_, fun j s q qs => ?_, fun j v q => ?_, fun j m s t a ne q qs q' qs' e2 e3 => ?_⟩, fun s hs => ?_, wp_mono (by rw [← hK] at *; exact q) (fun z q v F2 H2 bk => ?_) fun z q F2 H2 cls d k2 hx => ?_⟩
  · obtain ⟨w, q⟩ := at' q
    obtain ⟨v, g1, g2⟩ := A.val j w d q
    exact ⟨v, by rw [List.getElem?_map, g1]; rfl, hK ▸ g2⟩
  · obtain ⟨w, q⟩ := at' q
    obtain ⟨v, g1, g2⟩ := A.scr j w ns q
    exact ⟨v, by rw [List.getElem?_map, g1]; rfl, hK ▸ g2⟩
  · obtain ⟨w, q'⟩ := at' q
    obtain ⟨b, o, g1, g2, g3, g4, g5, g6⟩ := A.own j w s q' qs
    exact ⟨b, o, by rw [List.getElem?_map, g1]; rfl, g2, g3, hK ▸ g4, .inl ⟨s, q, qs, g1⟩⟩
  · rw [List.getElem?_map, show vs[j]? = some v from q]; rfl
  · obtain ⟨w, q⟩ := at' q
    obtain ⟨w', q'⟩ := at' q'
    rw [List.getElem?_map] at e2 e3
    have e2' : vs[j]? = some (.ref a) := by
      cases z : vs[j]? with
      | none => rw [z] at e2; cases e2
      | some y => rw [z] at e2; cases e2; rfl
    have e3' : vs[m]? = some (.ref a) := by
      cases z : vs[m]? with
      | none => rw [z] at e3; cases e3
      | some y => rw [z] at e3; cases e3; rfl
    exact A.dis j m w w' s t a ne q qs q' qs' e2' e3'
  · obtain ⟨p, hp, rfl⟩ := List.mem_map.mp hs
    exact A.no p hp
  · -- behind the call
    obtain ⟨r1, outs⟩ := z
    obtain ⟨ho, q⟩ := wp_guard q
    have ho : outs.length = n := by simpa using ho
    rw [← hK] at bk
    obtain ⟨k2, bo, br⟩ := bk
    have K2 : Kept B F2 H2 := R1.kept.trans k2 fun a ha => (lt a ha).1
    -- the slots as they stand
    have S1 : Sl B F2 H2 ρ1 σ := by
      refine ⟨R1.sl.len, fun i d q => ?_, fun i d q => ?_, fun i s q qs => ?_, R1.sl.par, R1.sl.dis⟩
      · obtain ⟨v, g1, g2⟩ := R1.sl.val i d q; exact ⟨v, g1, g2.mono k2.ff⟩
      · obtain ⟨v, g1, g2⟩ := R1.sl.scr i d q; exact ⟨v, g1, k2.ff.sqL g2⟩
      · obtain ⟨a, o, g1, g2, g3, g4, g5⟩ := R1.sl.own i s q qs
        have nl : ¬ ∃ i, lent (as.map (·.2)) vs i a := fun z => (lt a z).2.2 ⟨i, s, q, qs, g1⟩
        exact ⟨a, o, g1, k2.nof a (by show H1 a ≠ none; rw [g3]; exact fun z => by cases z) g2 nl, k2.keep a o g3 nl, g4.mono k2.ff, g5⟩
    obtain ⟨S2, own2⟩ := giveBack_ok (B := B) (F := F2) (H := H2) (σ := σ) as vs outs ρ1 S1 (by omega) A.len (fun j i s q => by
      obtain ⟨qs, v, g1, g2⟩ := A.ret j i s q
      obtain ⟨a, o, k1, k2', k3, k4, k5, k6⟩ := A.own j _ s q qs
      rw [g1] at k1
      cases k1
      obtain ⟨s', z1, z2⟩ := bo j s a (atm q) qs g1
      exact ⟨a, s', g1, g2, z1, z2, k5.imp (fun ⟨_, z, y⟩ => by cases z; exact y) id, fun m t _ qm qt em => k6 ⟨m, t, qm, qt, em⟩⟩) (fun j m i i' s t a ne q q' e2 => A.dis j m _ _ s t a ne q (A.ret j i s q).1 q' (A.ret m i' t q').1 e2)
    refine q v F2 H2 ⟨K2, S2⟩ (e1.trans k2.ff) (fun z => by cases z) ?_
    rcases br with ⟨d, z1, z2⟩ | ⟨z1, a, o, z2, z3, z4, z5, z6⟩
    · show Res B F2 H2 _ σ r1 v
      rw [show r1 = .val d from z1]
      exact z2
    · refine (Res.of_own z1).mpr ⟨a, o, z2, z3, z4, z5, R1.kept.old z6, fun i t qt qs em => ?_⟩
      rcases own2 i t qt qs with y | ⟨j, i', s, b, y1, y2, y3⟩
      · obtain ⟨b, o', g1, _, g3, _⟩ := R1.sl.own i t y qs
        rw [em] at g1
        cases g1
        rw [z6] at g3; cases g3
      · rw [em] at y3
        cases y3
        obtain ⟨qs', _⟩ := A.ret j i' s y1
        obtain ⟨b, o', g1, _, g3, _⟩ := A.own j _ s y1 qs'
        rw [y2] at g1
        cases g1
        rw [z6] at g3; cases g3
  · rw [← hK] at k2 hx
    exact q F2 H2 cls d (R1.kept.trans k2 fun a ha => (lt a ha).1) (e1.trans k2.ff) (hK ▸ hx)
end
end Dn

/-! Den5: statements. -/
namespace Dn
open PySem PySem.Spec L2
open PyProof.Rows hiding St

inductive Fl | nx | brk | cnt | ret (s : Slot)
abbrev DenS := Calls → Env → Out (Fl × Env)
def StP (B : Bd) (F : Hp) (D : Ends) : Fl × Env → Prop := fun r => match r.1 with
  | .nx => ∀ σ' F' H', Rel B F' H' r.2 σ' → Ex F F' → D.nx σ' H'
  | .brk => ∀ σ' F' H', Rel B F' H' r.2 σ' → Ex F F' → D.bk σ' H'
  | .cnt => ∀ σ' F' H', Rel B F' H' r.2 σ' → Ex F F' → D.ct σ' H'
  | .ret s => ∀ σ' v F' H', Rel B F' H' r.2 σ' → Ex F F' → Res B F' H' r.2 σ' s v → D.rt v H'
def ExS (X : Cx) (B : Bd) (F : Hp) (W : WX) : Exc → Prop := fun x => ∀ σ' F' H' cls d, Kept B F' H' → Ex F F' → XcIs X.mg x cls d X.K F' H' → W cls d σ' H'
/-- a def's body -/
structure BodyOk (X : Cx) : Prop where
  fn : ∀ x, X.fn x = true
  fk : X.env.scope.kind = .function
  hp : PassesOwn (model X.prog X.w) X.A X.env X.xe
  stk : X.stack = X.env :: X.outer ∧ X.env.frame = some X.env.locals
/-- the parameters' slots stand first -/
structure BdOk (Γ : Ctx) (B : Bd) : Prop where
  vs : B.vs.length ≤ Γ.np
  L : ∀ i a, B.L i a → i < Γ.np
def SndS (Γ : Ctx) (st : Stmt) (d : DenS) : Prop := ∀ (X : Cx) (Φ : Calls) (B : Bd) (F H : Hp) (ρ : Env) (σ : St) (D : Ends) (W : WX), CtxOk Γ Φ X → BodyOk X → BdOk Γ B → B.K = X.K → L2N.Takes X W → Rel B F H ρ σ →
  (d Φ ρ).wp (StP B F D) (ExS X B F W) → wS X st D σ H
def SndSs (Γ : Ctx) (st : List Stmt) (d : DenS) : Prop := ∀ (X : Cx) (Φ : Calls) (B : Bd) (F H : Hp) (ρ : Env) (σ : St) (D : Ends) (W : WX), CtxOk Γ Φ X → BodyOk X → BdOk Γ B → B.K = X.K → L2N.Takes X W → Rel B F H ρ σ →
  (d Φ ρ).wp (StP B F D) (ExS X B F W) → wSs X st D σ H
section
variable {X : Cx} {B : Bd} {F F' H H' : Hp} {σ : St} {W : WX} {ρ : Env} {D : Ends}
theorem ExS.mono (e : Ex F F') : ∀ x, ExS X B F W x → ExS X B F' W x := fun x h σ' F2 H2 c d k e2 i => h σ' F2 H2 c d k (e.trans e2) i
theorem ExS.ex : ∀ x, ExS X B F W x → ExP X B F σ W x := fun x h F2 H2 c d k e2 i => h σ F2 H2 c d k e2 i
theorem StP.mono (e : Ex F F') : ∀ r, StP B F D r → StP B F' D r := fun r h => by
  obtain ⟨f, ρ⟩ := r
  cases f with
  | nx => exact fun s F2 H2 k e2 => h s F2 H2 k (e.trans e2)
  | brk => exact fun s F2 H2 k e2 => h s F2 H2 k (e.trans e2)
  | cnt => exact fun s F2 H2 k e2 => h s F2 H2 k (e.trans e2)
  | ret x => exact fun s v F2 H2 k e2 => h s v F2 H2 k (e.trans e2)
end
def dStop : DenS := fun _ _ => .stuck
def dSkip : DenS := fun _ ρ => .ok (.nx, ρ)
def dBrk : DenS := fun _ ρ => .ok (.brk, ρ)
def dCnt : DenS := fun _ ρ => .ok (.cnt, ρ)
def dSeq (a b : DenS) : DenS := fun Φ ρ => (a Φ ρ).bind fun r => match r.1 with
  | .nx => b Φ r.2
  | f => .ok (f, r.2)
def dDo (d : Den) : DenS := fun Φ ρ => (d Φ ρ).bind fun r => .ok (.nx, r.2)
def dIfS (t : Den) (a b : DenS) : DenS := fun Φ ρ => (t Φ ρ).bind fun r => match r.1 with
  | .val (.bool true) => a Φ r.2
  | .val (.bool false) => b Φ r.2
  | _ => .stuck
def dSet (i : Nat) (d : Den) : DenS := fun Φ ρ => (d Φ ρ).bind fun r => .ok (.nx, r.2.set i r.1)
/-- what a name's slot gives when the frame ends: an own thing moves -/
def dRetV (i : Nat) : DenS := fun _ ρ => match ρ[i]? with
  | some (.val d) => .ok (.ret (.val d), ρ)
  | some (.own ds) => .ok (.ret (.own ds), ρ.set i .un)
  | some (.odc t es) => .ok (.ret (.odc t es), ρ.set i .un)
  | _ => .stuck
def dRet (d : Den) : DenS := fun Φ ρ => (d Φ ρ).bind fun r => .ok (.ret r.1, r.2)
def dRetN : DenS := fun _ ρ => .ok (.ret (.val .none), ρ)
def setAll : List Nat → List PyData → Env → Option Env
  | [], [], ρ => some ρ
  | i :: is, d :: ds, ρ => setAll is ds (ρ.set i (.val d))
  | _, _, _ => none
def dUnp (is : List Nat) (d : Den) : DenS := fun Φ ρ => (d Φ ρ).bind fun r => match r.1 with
  | .val (.tuple ds) => (opt (setAll is ds r.2)).bind fun ρ => .ok (.nx, ρ)
  | _ => .stuck

section
variable {Γ : Ctx} {st : Stmt} {sts sts' : List Stmt} {a b : DenS} {d : Den} {e c : Expr} {p : Bool} {pos pos' : Pos} {i : Nat} {x : Str}
theorem snd_stop : SndS Γ st dStop := fun X Φ B F H ρ σ D W C BO bo hK T R h => h.elim
theorem snd_stops : SndSs Γ sts dStop := fun X Φ B F H ρ σ D W C BO bo hK T R h => h.elim
theorem snd_nil : SndSs Γ [] dSkip := fun X Φ B F H ρ σ D W C BO bo hK T R h => PSs.w pss_nil (h σ F H R (.refl F))
theorem snd_cons (h1 : SndS Γ st a) (h2 : SndSs Γ sts b) : SndSs Γ (st :: sts) (dSeq a b) := by
  intro X Φ B F H ρ σ D W C BO bo hK T R h
  refine PSs.w (pss_cons ps_w pss_w) ?_
  refine h1 X Φ B F H ρ σ { D with nx := wSs X sts D } W C BO bo hK T R (wp_mono (wp_bind (c := a Φ ρ) h) (fun r q => ?_) fun _ q => q)
  obtain ⟨f, ρ1⟩ := r
  cases f with
  | nx => exact fun σ1 F1 H1 R1 e1 => h2 X Φ B F1 H1 ρ1 σ1 D W C BO bo hK T R1 (wp_mono q (StP.mono e1) (ExS.mono e1))
  | brk => exact q
  | cnt => exact q
  | ret s => exact q
theorem snd_one' (h1 : SndS Γ st a) : SndSs Γ [st] a := by
  intro X Φ B F H ρ σ D W C BO bo hK T R h
  exact PSs.w (pss_one ps_w) (h1 X Φ B F H ρ σ D W C BO bo hK T R h)
theorem snd_pass : SndS Γ (.Pass pos) dSkip := fun X Φ B F H ρ σ D W C BO bo hK T R h => PS.w ps_pass (h σ F H R (.refl F))
theorem snd_brk : SndS Γ (.Break pos) dBrk := fun X Φ B F H ρ σ D W C BO bo hK T R h => PS.w ps_break (h σ F H R (.refl F))
theorem snd_cnt : SndS Γ (.Continue pos) dCnt := fun X Φ B F H ρ σ D W C BO bo hK T R h => PS.w ps_continue (h σ F H R (.refl F))
def notComp : Expr → Bool
  | .ListComp _ _ _ _ => false
  | .SetComp _ _ _ _ => false
  | .DictComp _ _ _ _ _ => false
  | _ => true
theorem swap_of {t : Option Expr} {l : Nat} {env : PySem.Env} (h : notComp e = true) : swapsWith e t l env = pure false := by
  unfold swapsWith
  cases e <;> first | rfl | cases h
theorem snd_doc {s : Str} {k : Nat} : SndS Γ (.Expr (.Constant (.str s) k pos') pos) dSkip := fun X Φ B F H ρ σ D W C BO bo hK T R h => PS.w ps_doc (h σ F H R (.refl F))
theorem snd_do (h : SndE Γ e d p) (he : notComp e = true) : SndS Γ (.Expr e pos) (dDo d) := by
  intro X Φ B F H ρ σ D W C BO bo hK T R hq
  refine PS.w (ps_expr pe_w (swap_of he)) ?_
  exact h X Φ B F H ρ σ _ W C hK T R (wp_mono (wp_bind (c := d Φ ρ) hq) (fun r q v F1 H1 R1 e1 _ _ => q σ F1 H1 R1 e1) ExS.ex)
theorem snd_if {t : Den} (ht : SndT Γ c t p) (ha : SndSs Γ sts a) (hb : SndSs Γ sts' b) : SndS Γ (.If c sts sts' pos) (dIfS t a b) := by
  intro X Φ B F H ρ σ D W C BO bo hK T R hq
  refine PS.w (ps_if pt_w pss_w pss_w) ?_
  refine ht X Φ B F H ρ σ _ W C hK T R (wp_mono (wp_bind (c := t Φ ρ) hq) (fun r q => ?_) ExS.ex)
  obtain ⟨s, ρ1⟩ := r
  cases s with
  | val z =>
    cases z with
    | bool k =>
      refine ⟨k, rfl, fun F1 H1 R1 e1 _ => ?_⟩
      cases k with
      | true => exact iteT (ha X Φ B F1 H1 ρ1 σ D W C BO bo hK T R1 (wp_mono q (StP.mono e1) (ExS.mono e1)))
      | false => exact iteF (hb X Φ B F1 H1 ρ1 σ D W C BO bo hK T R1 (wp_mono q (StP.mono e1) (ExS.mono e1)))
    | _ => exact q.elim
  | _ => exact q.elim
/-- a name gets a new content -/
theorem Rel.put {B : Bd} {F H : Hp} {ρ : Env} {σ : St} {s : Slot} {v : V} (R : Rel B F H ρ σ) (h : Res B F H ρ σ s v) (i : Nat) (hi : B.vs.length ≤ i) : Rel B F H (ρ.set i s) (σ.set i (some v)) := by
  have len : (ρ.set i s).length = (σ.set i (some v)).length := by rw [List.length_set, List.length_set]; exact R.sl.len
  have lt : i < ρ.length → i < σ.length := fun z => by rw [← R.sl.len]; exact z
  refine ⟨R.kept, ⟨len, fun j d q => ?_, fun j ns q => ?_, fun j t q qs => ?_, fun j w q => ?_, fun j m t u b ne q qs q' qs' e1 e2 => ?_⟩⟩
  · rcases set_get q with ⟨z1, z2, z3⟩ | ⟨z1, z⟩
    · subst z1
      rw [← z2] at h
      exact ⟨v, List.getElem?_set_self (lt z3), h⟩
    · obtain ⟨w, g1, g2⟩ := R.sl.val j d z
      exact ⟨w, by rw [List.getElem?_set_ne (Ne.symm z1)]; exact g1, g2⟩
  · rcases set_get q with ⟨z1, z2, z3⟩ | ⟨z1, z⟩
    · rw [← z2] at h; exact h.elim
    · obtain ⟨w, g1, g2⟩ := R.sl.scr j ns z
      exact ⟨w, by rw [List.getElem?_set_ne (Ne.symm z1)]; exact g1, g2⟩
  · rcases set_get q with ⟨z1, z2, z3⟩ | ⟨z1, z⟩
    · subst z1
      subst z2
      obtain ⟨a, o, rfl, g2, g3, g4, g5, _⟩ := (Res.of_own qs).mp h
      exact ⟨a, o, List.getElem?_set_self (lt z3), g2, g3, g4, .inr g5⟩
    · obtain ⟨a, o, g1, g2⟩ := R.sl.own j t z qs
      exact ⟨a, o, by rw [List.getElem?_set_ne (Ne.symm z1)]; exact g1, g2⟩
  · have lj : j < B.vs.length := (List.getElem?_eq_some_iff.mp q).1
    rw [List.getElem?_set_ne (by omega)]
    exact R.sl.par j w q
  · rcases set_get q with ⟨z1, z2, z3⟩ | ⟨z1, z⟩
    · subst z1
      subst z2
      obtain ⟨a, o, rfl, g2, g3, g4, g5, g6⟩ := (Res.of_own qs).mp h
      rw [List.getElem?_set_self (lt z3)] at e1
      cases e1
      rcases set_get q' with ⟨z3, _, _⟩ | ⟨z3, z4⟩
      · exact ne z3.symm
      · rw [List.getElem?_set_ne ne] at e2
        exact g6 m u z4 qs' e2
    · rw [List.getElem?_set_ne (Ne.symm z1)] at e1
      rcases set_get q' with ⟨z3, z4, z5⟩ | ⟨z3, z4⟩
      · subst z3
        subst z4
        obtain ⟨a, o, rfl, g2, g3, g4, g5, g6⟩ := (Res.of_own qs').mp h
        rw [List.getElem?_set_self (lt z5)] at e2
        cases e2
        exact g6 j t z qs e1
      · rw [List.getElem?_set_ne (Ne.symm z3)] at e2
        exact R.sl.dis j m t u b ne z qs z4 qs' e1 e2
def locB (sc : Scope) (x : Str) : Bool := sc.names.lookup x == some .local || sc.names.lookup x == some .cell
theorem loc_of {sc : Scope} {x : Str} (h : locB sc x = true) : Loc sc x := by
  unfold locB at h
  simp only [Bool.or_eq_true, beq_iff_eq] at h
  exact h
theorem snd_set (hN : Γ.N[i]? = some x) (hl : locB Γ.sc x = true) (hi : Γ.np ≤ i) (h : SndE Γ e d p) (he : notComp e = true) : SndS Γ (.Assign [.Name x pos'] e pos) (dSet i d) := by
  intro X Φ B F H ρ σ D W C BO bo hK T R hq
  refine PS.w (ps_set (i := i) (by rw [C.nm]; exact C.nd) (by rw [C.nm]; exact hN) (by rw [C.sc]; exact loc_of hl) pe_w (swap_of he) (.inl (BO.fn x))) ?_
  exact h X Φ B F H ρ σ _ W C hK T R (wp_mono (wp_bind (c := d Φ ρ) hq) (fun r q v F1 H1 R1 e1 _ hv => q (σ.set i (some v)) F1 H1 (R1.put hv i (Nat.le_trans bo.vs hi)) e1) ExS.ex)
theorem snd_ret (h : SndE Γ e d p) : SndS Γ (.Return (some e) pos) (dRet d) := by
  intro X Φ B F H ρ σ D W C BO bo hK T R hq
  refine PS.w (ps_ret pe_w) ?_
  exact h X Φ B F H ρ σ _ W C hK T R (wp_mono (wp_bind (c := d Φ ρ) hq) (fun r q v F1 H1 R1 e1 _ hv => q σ v F1 H1 R1 e1 hv) ExS.ex)
theorem snd_retN : SndS Γ (.Return none pos) dRetN := by
  intro X Φ B F H ρ σ D W C BO bo hK T R hq
  exact PS.w ps_retN (hq σ _ F H R (.refl F) Rp.non)
/-- return x, x no parameter -/
theorem snd_retV (hN : Γ.N[i]? = some x) (hv : visB Γ.sc x = true) (hx : okName x = true) (hi : Γ.np ≤ i) : SndS Γ (.Return (some (.Name x pos')) pos) (dRetV i) := by
  intro X Φ B F H ρ σ D W C BO bo hK T R h
  have P : PE X (.Name x pos') (tVar i) := pe_var (by rw [C.nm]; exact hN) (by rw [C.sc]; exact vis_of hv) (okName_d hx) (okName_c hx)
  unfold dRetV at h
  have mv : ∀ s : Slot, s.isOwn = true → ρ[i]? = some s → (Out.ok (Fl.ret s, ρ.set i .un)).wp (StP B F D) (ExS X B F W) → wS X (.Return (some (.Name x pos')) pos) D σ H := fun s hs e hq => by
    obtain ⟨a, o, e1, e2, e3, e4, e5⟩ := R.sl.own i s e hs
    have e6 : B.H0 a = none := by
      rcases e5 with z | z
      · exact absurd (bo.L i a z) (by omega)
      · exact z
    refine PS.w (ps_ret P) ⟨_, e1, hq σ _ F H (R.unset i) (.refl F) ((Res.of_own hs).mpr ⟨a, o, rfl, e2, e3, e4, e6, fun j t k1 k2 k3 => ?_⟩)⟩
    rcases set_get k1 with ⟨_, z2, _⟩ | ⟨z1, z2⟩
    · rw [z2] at k2; cases k2
    · exact R.sl.dis j i t s a z1 z2 k2 e hs k3 e1
  cases e : ρ[i]? with
  | none => rw [e] at h; exact h.elim
  | some s =>
    rw [e] at h
    cases s with
    | val d =>
      obtain ⟨v, h1, h2⟩ := R.sl.val i d e
      exact PS.w (ps_ret P) ⟨v, h1, h σ v F H R (.refl F) h2⟩
    | own ds => exact mv _ rfl e h
    | odc t es => exact mv _ rfl e h
    | un => exact h.elim
    | scr ns => exact h.elim

/-! ### several names at once -/
def tgsOf (is : List Nat) : TGs := is.foldr (fun i t => gCons (gName i) t) gNil
theorem setAll_ok {B : Bd} {F H : Hp} {Q : St → Hp → Prop} : ∀ (is : List Nat) (ds : List PyData) (vs : List V) (ρ ρ' : Env) (σ : St), setAll is ds ρ = some ρ' → RpAll B.K F ds vs → Rel B F H ρ σ → (∀ i ∈ is, B.vs.length ≤ i) → (∀ σ', Rel B F H ρ' σ' → Q σ' H) → tgsOf is vs σ H Q
  | [], [], vs, ρ, ρ', σ, h, hv, R, _, q => by
    cases hv
    cases h
    exact ⟨rfl, q σ R⟩
  | i :: is, d :: ds, vs, ρ, ρ', σ, h, hv, R, hb, q => by
    cases hv with
    | cons h1 h2 => exact ⟨_, _, rfl, setAll_ok is ds _ (ρ.set i (.val d)) ρ' _ h h2 (R.put (s := .val d) h1 i (hb i List.mem_cons_self)) (fun j hj => hb j (List.mem_cons_of_mem _ hj)) q⟩
  | [], _ :: _, _, _, _, _, h, _, _, _, _ => by cases h
  | _ :: _, [], _, _, _, _, h, _, _, _, _ => by cases h
theorem rpAll_len {K : PySem.W.Frag} {H : Hp} {ds : List PyData} {vs : List V} (h : RpAll K H ds vs) : ds.length = vs.length := RpAll.length h
theorem setAll_len : ∀ (is : List Nat) (ds : List PyData) (ρ ρ' : Env), setAll is ds ρ = some ρ' → is.length = ds.length
  | [], [], _, _, _ => rfl
  | i :: is, d :: ds, ρ, ρ', h => congrArg Nat.succ (setAll_len is ds _ ρ' h)
  | [], _ :: _, _, _, h => by cases h
  | _ :: _, [], _, _, h => by cases h
/-- plain names as targets -/
inductive Tgs (N : List Str) (g : Str → Bool) : List Expr → List Nat → Prop
  | nil : Tgs N g [] []
  | cons {i : Nat} {x : Str} {pos : Pos} {es : List Expr} {is : List Nat} : N[i]? = some x → g x = true → Tgs N g es is → Tgs N g (.Name x pos :: es) (i :: is)
/-- names that may be stored in X -/
def MayPut (X : Cx) (g : Str → Bool) : Prop := ∀ x, g x = true → Loc X.env.scope x ∧ (X.fn x = true ∨ X.env.scope.names.lookup x = some .local)
theorem Tgs.pgs {X : Cx} {Φ : Calls} {g : Str → Bool} (C : CtxOk Γ Φ X) (hf : MayPut X g) : ∀ {es : List Expr} {is : List Nat}, Tgs Γ.N g es is → PGs X es (tgsOf is)
  | _, _, .nil => pgs_nil
  | _, _, .cons h1 h2 h3 => pgs_cons (pg_name (by rw [C.nm]; exact C.nd) (by rw [C.nm]; exact h1) (hf _ h2).1 (hf _ h2).2) (Tgs.pgs C hf h3)
theorem mayPut_body {X : Cx} {Φ : Calls} (C : CtxOk Γ Φ X) (BO : BodyOk X) : MayPut X (locB Γ.sc) := fun x h => ⟨by rw [C.sc]; exact loc_of h, .inl (BO.fn x)⟩
theorem Tgs.each {N : List Str} {g : Str → Bool} {env : PySem.Env} : ∀ {es : List Expr} {is : List Nat}, Tgs N g es is → (assignEach es env).length = is.length ∧ (assignEach es env).findIdx? (·.1) = none
  | _, _, .nil => ⟨rfl, rfl⟩
  | _, _, .cons (x := x) (pos := pos) (es := es) _ _ h3 => by
    obtain ⟨g1, g2⟩ := Tgs.each (env := env) h3
    refine ⟨by show ((false, assign (.Name x pos) env) :: assignEach es env).length = _; rw [List.length_cons, g1]; rfl, ?_⟩
    show ((false, assign (.Name x pos) env) :: assignEach es env).findIdx? (·.1) = none
    rw [List.findIdx?_cons, g2]
    rfl
def notTuple : Expr → Bool
  | .Tuple _ _ _ => false
  | _ => true
theorem stores_of {ts : List Expr} {k : Nat} {tpos : Pos} {env : PySem.Env} (h : notTuple e = true) : swappedStores [.Tuple ts k tpos] e env = pure none := by
  unfold swappedStores
  cases e <;> first | rfl | cases h
theorem sole_of {t : Expr} {l : Nat} {env : PySem.Env} (h : notComp e = true) : swapsWithSole [t] e l env = pure false := swap_of h
theorem snd_unp {ts : List Expr} {is : List Nat} {k : Nat} {tpos : Pos} (ht : Tgs Γ.N (locB Γ.sc) ts is) (hi : is.all (fun i => decide (Γ.np ≤ i)) = true) (h : SndE Γ e d p) (he : notComp e = true) (hn : notTuple e = true) : SndS Γ (.Assign [.Tuple ts k tpos] e pos) (dUnp is d) := by
  intro X Φ B F H ρ σ D W C BO bo hK T R hq
  obtain ⟨hl, hz⟩ := ht.each (env := X.env)
  refine PS.w (ps_asg pe_w (pg_tup C.calm (ht.pgs C (mayPut_body C BO)) hl hz) (sole_of he) (stores_of hn) rfl) ?_
  refine h X Φ B F H ρ σ _ W C hK T R (wp_mono (wp_bind (c := d Φ ρ) hq) (fun r q v F1 H1 R1 e1 _ hv => ?_) ExS.ex)
  obtain ⟨s, ρ1⟩ := r
  cases s with
  | val y =>
    cases y with
    | tuple ds =>
      have hv : Rp B.K F1 (.tuple ds) v := hv
      replace q : ((opt (setAll is ds ρ1)).bind fun ρ => Out.ok (Fl.nx, ρ)).wp (StP B F D) (ExS X B F W) := q
      cases g : setAll is ds ρ1 with
      | none => rw [g] at q; exact q.elim
      | some ρ2 =>
        rw [g] at q
        cases hv with
        | tup h1 h2 h3 =>
          exact ⟨_, _, rfl, .inl (.inr ⟨_, R1.kept.ex _ _ h1⟩), by rw [← rpAll_len h3, ← setAll_len _ _ _ _ g], setAll_ok is ds _ ρ1 ρ2 σ g h3 R1 (fun i hi' => Nat.le_trans bo.vs (of_decide_eq_true (List.all_eq_true.mp hi i hi'))) fun σ' R' => q σ' F1 H1 R' e1⟩
    | _ => exact q.elim
  | _ => exact q.elim

/-! ### changes of own lists -/
theorem Rel.alter {B : Bd} {F H : Hp} {ρ : Env} {σ : St} {s s' : Slot} {a : Addr} {o' : HO} (R : Rel B F H ρ σ) {i : Nat} (h : ρ[i]? = some s) (hs : s.isOwn = true) (ha : σ[i]? = some (some (.ref a))) (ho : OwnIs B.K F o' s') : Rel B F (upd H a o') (ρ.set i s') σ := by
  obtain ⟨b, o, g1, g2, g3, g4, g5⟩ := R.sl.own i s h hs
  rw [ha] at g1
  cases g1
  have hs' := own_of_ownIs ho
  have hx : ∀ {c : Addr} {u : HO}, F c = some u → c ≠ a := fun {c u} q z => by subst z; rw [g2] at q; cases q
  refine ⟨⟨R.kept.ff, fun c u q => by rw [upd_ne (hx q)]; exact R.kept.ex _ _ q, fun c u q n => ?_, R.kept.nof, fun c q => ?_⟩, ⟨by rw [List.length_set]; exact R.sl.len, fun j d q => ?_, fun j ns q => ?_, fun j t q qs => ?_, R.sl.par, fun j m t u c ne q qs q' qs' e1 e2 => ?_⟩⟩
  · have : c ≠ a := fun z => by
      subst z
      rcases g5 with y | y
      · exact n ⟨i, y⟩
      · rw [q] at y; cases y
    rw [upd_ne this]
    exact R.kept.keep c u q n
  · by_cases z : c = a
    · subst z; rw [upd_same]; exact fun y => nomatch y
    · rw [upd_ne z]; exact R.kept.live c q
  · rcases set_get q with ⟨z1, z2, _⟩ | ⟨_, z⟩
    · rw [← z2] at hs'; cases hs'
    · exact R.sl.val j d z
  · rcases set_get q with ⟨z1, z2, _⟩ | ⟨_, z⟩
    · rw [← z2] at hs'; cases hs'
    · exact R.sl.scr j ns z
  · rcases set_get q with ⟨z1, z2, _⟩ | ⟨z1, z⟩
    · subst z1
      subst z2
      exact ⟨a, o', ha, g2, upd_same, ho, g5⟩
    · obtain ⟨c, u, k1, k2, k3, k4, k5⟩ := R.sl.own j t z qs
      have : c ≠ a := fun y => by subst y; exact R.sl.dis j i t s c z1 z qs h hs k1 ha
      exact ⟨c, u, k1, k2, by rw [upd_ne this]; exact k3, k4, k5⟩
  · rcases set_get q with ⟨z1, z2, _⟩ | ⟨z1, z⟩
    · subst z1
      rcases set_get q' with ⟨z3, _, _⟩ | ⟨z3, z4⟩
      · exact ne z3.symm
      · exact R.sl.dis j m s u c ne h hs z4 qs' e1 e2
    · rcases set_get q' with ⟨z3, _, _⟩ | ⟨z3, z4⟩
      · subst z3
        exact R.sl.dis j m t s c ne z qs h hs e1 e2
      · exact R.sl.dis j m t u c ne z qs z4 qs' e1 e2
theorem RpAll.app {K : PySem.W.Frag} {F : Hp} : ∀ {ds es : List PyData} {vs ws : List V}, RpAll K F ds vs → RpAll K F es ws → RpAll K F (ds ++ es) (vs ++ ws)
  | [], _, _, _, h, h' => by cases h; exact h'
  | _ :: _, _, _, _, h, h' => by
    cases h with
    | cons h1 h2 => exact .cons h1 (RpAll.app h2 h')
theorem RpAll.setAt {K : PySem.W.Frag} {F : Hp} {d : PyData} {v : V} (r : Rp K F d v) : ∀ {ds : List PyData} {vs : List V} (j : Nat), RpAll K F ds vs → RpAll K F (ds.set j d) (vs.set j v)
  | [], _, _, h => by cases h; exact .nil
  | _ :: _, _, 0, h => by
    cases h with
    | cons h1 h2 => exact .cons r h2
  | _ :: _, _, j + 1, h => by
    cases h with
    | cons h1 h2 => exact .cons h1 (RpAll.setAt r j h2)
theorem RpAll.at' {K : PySem.W.Frag} {F : Hp} : ∀ {ds : List PyData} {vs : List V} {j : Nat} {d : PyData}, RpAll K F ds vs → ds[j]? = some d → ∃ v, vs[j]? = some v ∧ Rp K F d v
  | [], _, _, _, _, q => by simp at q
  | _ :: _, _, 0, _, h, q => by
    cases h with
    | cons h1 h2 => simp at q; subst q; exact ⟨_, rfl, h1⟩
  | _ :: _, _, j + 1, _, h, q => by
    cases h with
    | cons h1 h2 =>
      obtain ⟨v, g1, g2⟩ := RpAll.at' (j := j) h2 (by simpa using q)
      exact ⟨v, by simpa using g1, g2⟩
theorem RpAll.rev {K : PySem.W.Frag} {F : Hp} : ∀ {ds : List PyData} {vs : List V}, RpAll K F ds vs → RpAll K F ds.reverse vs.reverse
  | [], _, h => by cases h; exact .nil
  | _ :: _, _, h => by
    cases h with
    | cons h1 h2 =>
      rw [List.reverse_cons, List.reverse_cons]
      exact (RpAll.rev h2).app (.cons h1 .nil)
theorem RpAll.take {K : PySem.W.Frag} {F : Hp} : ∀ {ds : List PyData} {vs : List V} (n : Nat), RpAll K F ds vs → RpAll K F (ds.take n) (vs.take n)
  | _, _, 0, _ => .nil
  | [], _, n + 1, h => by cases h; exact .nil
  | _ :: _, _, n + 1, h => by
    cases h with
    | cons h1 h2 => exact .cons h1 (RpAll.take n h2)
theorem RpAll.drop {K : PySem.W.Frag} {F : Hp} : ∀ {ds : List PyData} {vs : List V} (n : Nat), RpAll K F ds vs → RpAll K F (ds.drop n) (vs.drop n)
  | _, _, 0, h => h
  | [], _, n + 1, h => by cases h; exact .nil
  | _ :: _, _, n + 1, h => by
    cases h with
    | cons h1 h2 => exact RpAll.drop n h2
theorem RpAll.erase {K : PySem.W.Frag} {F : Hp} : ∀ {ds : List PyData} {vs : List V} (n : Nat), RpAll K F ds vs → RpAll K F (ds.eraseIdx n) (vs.eraseIdx n)
  | [], _, _, h => by cases h; exact .nil
  | _ :: _, _, 0, h => by
    cases h with
    | cons h1 h2 => exact h2
  | _ :: _, _, n + 1, h => by
    cases h with
    | cons h1 h2 => exact .cons h1 (RpAll.erase n h2)
def isOwnL (ρ : Env) (i : Nat) : Bool := match ρ[i]? with
  | some (.own _) => true
  | _ => false
theorem isOwnL_of {ρ : Env} {i : Nat} (h : isOwnL ρ i = true) : ∃ ds, ρ[i]? = some (.own ds) := by
  unfold isOwnL at h
  cases e : ρ[i]? with
  | none => rw [e] at h; cases h
  | some s =>
    rw [e] at h
    cases s with
    | own ds => exact ⟨ds, rfl⟩
    | _ => cases h
/-- x[k] = e, x an own list -/
def dSetIx (i : Nat) (k : DenO) (e : Den) : DenS := fun Φ ρ => (oOf e Φ ρ).bind fun r => guard' (isOwnL r.2 i) ((k Φ r.2).bind fun j => match j.1, j.2[i]? with
  | .int n, some (.own ds) => (opt (ixN ds.length n)).bind fun m => .ok (.nx, j.2.set i (.own (ds.set m r.1)))
  | _, _ => .stuck)
theorem snd_setIx {k : DenO} {pm : Bool} {p' : Bool} {xpos spos : Pos} (hN : Γ.N[i]? = some x) (hv : visB Γ.sc x = true) (hx : okName x = true) (h : SndE Γ e d p) (hk : SndO Γ c k p' pm) (he : notComp e = true) (hc : notSlice c = true) :
    SndS Γ (.Assign [.Subscript (.Name x xpos) c spos] e pos) (dSetIx i k d) := by
  intro X Φ B F H ρ σ D W C BO bo hK T R hq
  have P : PE X (.Name x xpos) (tVar i) := pe_var (by rw [C.nm]; exact hN) (by rw [C.sc]; exact vis_of hv) (okName_d hx) (okName_c hx)
  refine PS.w (ps_asg pe_w (pg_sub P pe_w set_list (by intro v; cases c <;> first | rfl | cases hc)) (sole_of he) (by unfold swappedStores; cases e <;> rfl) rfl) ?_
  refine snd_oOf h X Φ B F H ρ σ _ W C hK T R (wp_mono (wp_bind (c := oOf d Φ ρ) hq) (fun r q v F1 H1 R1 e1 _ hv => ?_) ExS.ex)
  obtain ⟨y, ρ1⟩ := r
  have hv : Rp B.K F1 y v := hv
  obtain ⟨ho, q⟩ := wp_guard q
  obtain ⟨ds, ho⟩ := isOwnL_of ho
  have R1 : Rel B F1 H1 ρ1 σ := R1
  obtain ⟨a, o, g1, g2, g3, g4, g5⟩ := R1.sl.own i _ ho rfl
  refine ⟨_, g1, ?_⟩
  refine hk X Φ B F1 H1 ρ1 σ _ W C hK T R1 (wp_mono (wp_bind (c := k Φ ρ1) q) (fun j q w F2 H2 R2 e3 _ hw => ?_) fun z q => ExS.ex z (ExS.mono e1 z q))
  obtain ⟨j, ρ2⟩ := j
  have R2 : Rel B F2 H2 ρ2 σ := R2
  cases j with
  | int n =>
    replace q : (match ρ2[i]? with
      | some (.own ds) => (opt (ixN ds.length n)).bind fun m => Out.ok (Fl.nx, ρ2.set i (.own (ds.set m y)))
      | _ => .stuck).wp (StP B F D) (ExS X B F W) := by
      cases z : ρ2[i]? with
      | none => simp only [z] at q; exact q
      | some s => simp only [z] at q; cases s <;> exact q
    cases z : ρ2[i]? with
    | none => rw [z] at q; exact q.elim
    | some s =>
      rw [z] at q
      cases s with
      | own ds2 =>
        obtain ⟨a', o', k1, k2, k3, k4, k5⟩ := R2.sl.own i _ z rfl
        rw [g1] at k1
        cases k1
        obtain ⟨vs, rfl, rv⟩ := k4
        replace q : ((opt (ixN ds2.length n)).bind fun m => Out.ok (Fl.nx, ρ2.set i (.own (ds2.set m y)))).wp (StP B F D) (ExS X B F W) := q
        cases hm : ixN ds2.length n with
        | none => rw [hm] at q; exact q.elim
        | some m =>
          rw [hm] at q
          exact ⟨a, vs, n, m, rfl, hw.bp.int, k3, by rw [← rpAll_len rv]; exact hm, q σ F2 _ (R2.alter z rfl g1 ⟨_, rfl, RpAll.setAt (hv.mono e3) m rv⟩) (e1.trans e3)⟩
      | _ => exact q.elim
  | _ =>
    cases z : ρ2[i]? with
    | none => simp only [z] at q; exact q.elim
    | some s => simp only [z] at q; cases s <;> exact q.elim
/-! ### methods that change an own list -/
abbrev MutF := List PyData → List PyData → Option (PyData × List PyData)
def RuleM (K : PySem.W.Frag) (r : V → List V → Hp → VK → Prop) (f : MutF) : Prop := ∀ (F H : Hp) (a : Addr) (ds as : List PyData) (vs avs : List V) (res : PyData) (ds' : List PyData) (Q : VK), Ex F H → F a = none → H a = some (.lst vs) → RpAll K F ds vs → RpAll K F as avs → f ds as = some (res, ds') →
  (∀ v vs', Rp K F res v → RpAll K F ds' vs' → Q v (upd H a (.lst vs'))) → r (.ref a) avs H Q
def dMut (i : Nat) (f : MutF) (as : DenOs) : Den := fun Φ ρ => guard' (isOwnL ρ i) ((as Φ ρ).bind fun r => match r.2[i]? with
  | some (.own ds) => (opt (f ds r.1)).bind fun m => .ok (.val m.1, r.2.set i (.own m.2))
  | _ => .stuck)
theorem mut_run {f : MutF} {r : V → List V → Hp → VK → Prop} {X : Cx} {B : Bd} {F H F1 H1 : Hp} {ρ1 : Env} {σ : St} {Q : VK} {W : WX} {as : List PyData} {avs : List V} {a : Addr} (hr : RuleM B.K r f) (R1 : Rel B F1 H1 ρ1 σ) (e1 : Ex F F1) (g1 : σ[i]? = some (some (.ref a))) (hv : RpAll B.K F1 as avs)
    (q : (match ρ1[i]? with
      | some (.own ds) => (opt (f ds as)).bind fun m => Out.ok (Slot.val m.1, ρ1.set i (.own m.2))
      | _ => .stuck).wp (EvP B F H σ false Q) (ExP X B F σ W)) : r (.ref a) avs H1 Q := by
  cases z : ρ1[i]? with
  | none => rw [z] at q; exact q.elim
  | some s =>
    rw [z] at q
    cases s with
    | own ds2 =>
      obtain ⟨a', o', k1, k2, k3, k4, k5⟩ := R1.sl.own i _ z rfl
      rw [g1] at k1
      cases k1
      obtain ⟨vs, rfl, rv⟩ := k4
      replace q : ((opt (f ds2 as)).bind fun m => Out.ok (Slot.val m.1, ρ1.set i (.own m.2))).wp (EvP B F H σ false Q) (ExP X B F σ W) := q
      cases hm : f ds2 as with
      | none => rw [hm] at q; exact q.elim
      | some m =>
        rw [hm] at q
        exact hr F1 H1 a ds2 as vs avs m.1 m.2 Q R1.kept.ex k2 k3 rv hv hm fun v vs' h1 h2 => q v F1 _ (R1.alter z rfl g1 ⟨_, rfl, h2⟩) e1 (fun z => nomatch z) h1
    | _ => exact q.elim
theorem snd_mut {f : MutF} {id : String} {m : Str} {r : V → List V → Hp → VK → Prop} {as : DenOs} {es : List Expr} {xpos apos : Pos} (slot : PySem.Slot "list" m id) (hty : typeOf (.builtin id) = pure (.type "method_descriptor")) (ho : ∀ (X : Cx), X.calm = true → MtR X id r) (hr : ∀ K, RuleM K r f)
    (hN : Γ.N[i]? = some x) (hv : visB Γ.sc x = true) (hx : okName x = true) (h : SndFs Γ (e :: es) as p) (he : (e :: es).all plainE = true) (hl : (e :: es).length < 20) (hline : (apos.endLine == pos.line) = true) : SndE Γ (.Call (.Attribute (.Name x xpos) m apos) (e :: es) [] pos) (dMut i f as) false := by
  intro X Φ B F H ρ σ Q W C hK T R hq
  have P : PE X (.Name x xpos) (tVar i) := pe_var (by rw [C.nm]; exact hN) (by rw [C.sc]; exact vis_of hv) (okName_d hx) (okName_c hx)
  have he' := he
  rw [List.all_cons, Bool.and_eq_true] at he'
  obtain ⟨h1, hq⟩ := wp_guard hq
  obtain ⟨ds, h1⟩ := isOwnL_of h1
  obtain ⟨a, o, g1, g2, g3, g4, g5⟩ := R.sl.own i _ h1 rfl
  obtain ⟨vs0, rfl, _⟩ := g4
  refine PE.w (pe_bm PySem.F.plainAttrs_list slot hty (ho X C.calm) P (pa_ws he) (base_of rfl) (few_of he hl) hline (star_of he'.1) (plain_any he'.2)) ⟨_, g1, .inl ⟨rfl, _, .inl (.inl g3)⟩, ?_⟩
  refine h X Φ B F H ρ σ _ W C hK T R (wp_mono (wp_bind (c := as Φ ρ) hq) (fun y q avs F1 H1 R1 e1 _ hv => ?_) fun _ z => z)
  exact mut_run (hr B.K) R1 e1 g1 hv q
theorem snd_mut0 {f : MutF} {id : String} {m : Str} {r : V → List V → Hp → VK → Prop} {xpos apos : Pos} (slot : PySem.Slot "list" m id) (hty : typeOf (.builtin id) = pure (.type "method_descriptor")) (ho : ∀ (X : Cx), X.calm = true → MtR X id r) (hr : ∀ K, RuleM K r f)
    (hN : Γ.N[i]? = some x) (hv : visB Γ.sc x = true) (hx : okName x = true) (hline : (apos.endLine == pos.line) = true) : SndE Γ (.Call (.Attribute (.Name x xpos) m apos) [] [] pos) (dMut i f fsNil) false := by
  intro X Φ B F H ρ σ Q W C hK T R hq
  have P : PE X (.Name x xpos) (tVar i) := pe_var (by rw [C.nm]; exact hN) (by rw [C.sc]; exact vis_of hv) (okName_d hx) (okName_c hx)
  obtain ⟨h1, hq⟩ := wp_guard hq
  obtain ⟨ds, h1⟩ := isOwnL_of h1
  obtain ⟨a, o, g1, g2, g3, g4, g5⟩ := R.sl.own i _ h1 rfl
  obtain ⟨vs0, rfl, _⟩ := g4
  refine PE.w (pe_bm0 PySem.F.plainAttrs_list slot hty (ho X C.calm) P (base_of rfl) hline) ⟨_, g1, .inl ⟨rfl, _, .inl (.inl g3)⟩, ?_⟩
  exact mut_run (hr B.K) R (.refl F) g1 .nil hq
end
end Dn

/-! Den6: loops and comprehensions. -/
namespace Dn
open PySem PySem.Spec L2
open PyProof.Rows hiding St

/-! ### targets -/
inductive Tgt | nm (i : Nat) | tp (is : List Nat)
def Tgt.isTp : Tgt → Bool
  | .nm _ => false
  | .tp _ => true
def Tgt.ix : Tgt → List Nat
  | .nm i => [i]
  | .tp is => is
def putT : Tgt → PyData → Env → Option Env
  | .nm i, d, ρ => some (ρ.set i (.val d))
  | .tp is, .tuple ds, ρ => setAll is ds ρ
  | .tp _, _, _ => none
/-- x stands for d as what a target takes -/
def Taken (tp : Bool) (K : PySem.W.Frag) (F H : Hp) (d : PyData) (x : V) : Prop := match tp with
  | false => Rp K F d x
  | true => ∀ ds, d = .tuple ds → ∃ a vs, x = .ref a ∧ SqT K H a vs ∧ RpAll K F ds vs
inductive TgtOk (N : List Str) (g : Str → Bool) : Expr → Tgt → Prop
  | nm {i : Nat} {x : Str} {pos : Pos} : N[i]? = some x → g x = true → TgtOk N g (.Name x pos) (.nm i)
  | tp {es : List Expr} {is : List Nat} {k : Nat} {pos : Pos} : Tgs N g es is → TgtOk N g (.Tuple es k pos) (.tp is)
def tgOf (K : PySem.W.Frag) : Tgt → TG
  | .nm i => gName i
  | .tp is => gTup K is.length (tgsOf is)
section
variable {Γ : Ctx} {X : Cx} {Φ : Calls} {g : Str → Bool} {tg : Expr} {t : Tgt}
theorem TgtOk.pg (C : CtxOk Γ Φ X) (hf : MayPut X g) (h : TgtOk Γ.N g tg t) : PG X tg (tgOf X.K t) := by
  cases h with
  | nm h1 h2 => exact pg_name (by rw [C.nm]; exact C.nd) (by rw [C.nm]; exact h1) (hf _ h2).1 (hf _ h2).2
  | tp h1 =>
    obtain ⟨hl, hz⟩ := h1.each (env := X.env)
    exact pg_tup C.calm (h1.pgs C hf) hl hz
theorem put_ok {B : Bd} {F H : Hp} {Q : St → Hp → Prop} {ρ ρ' : Env} {σ : St} {d : PyData} {x : V} (h : putT t d ρ = some ρ') (hx : Taken t.isTp B.K F H d x) (R : Rel B F H ρ σ) (hb : ∀ i ∈ t.ix, B.vs.length ≤ i) (q : ∀ σ', Rel B F H ρ' σ' → Q σ' H) : tgOf B.K t x σ H Q := by
  cases t with
  | nm i =>
    cases h
    exact q _ (R.put (s := .val d) hx i (hb i List.mem_cons_self))
  | tp is =>
    cases d with
    | tuple ds =>
      obtain ⟨a, vs, h1, h2, h3⟩ := hx ds rfl
      exact ⟨a, vs, h1, h2, by rw [← rpAll_len h3, ← setAll_len _ _ _ _ h], setAll_ok is ds vs ρ ρ' σ h h3 R hb q⟩
    | _ => cases h
end

/-! ### what is walked -/
/-- an iterator yields these -/
structure Src (tp : Bool) (K : PySem.W.Frag) (F : Hp) (J : It) (ds : List PyData) : Prop where
  go : ∀ (i : Nat) (H : Hp) (d : PyData), Ex F H → ds[i]? = some d → J.go i H ∧ ∀ x H', J.yld i H x H' → ∀ F2, Ex F F2 → Ex F2 H → (∀ a, H a ≠ none → H' a ≠ none) ∧ Grow F2 H F2 H' ∧ Taken tp K F2 H' d x
  stop : ∀ (i : Nat) (H : Hp), Ex F H → ds.length ≤ i → J.stop i H
def wI (X : Cx) (tg iter : Expr) : TI := fun σ H R => ∀ pins s, Inv X pins σ H s → wpAny (model X.prog X.w) X.A (eval iter X.env) (fun v s1 => wpAny (model X.prog X.w) X.A (pyIter v) (PIE X pins σ tg R) X.xe s1) X.xe s
theorem pi_w {X : Cx} {tg iter : Expr} : PI X tg iter (wI X tg iter) := ⟨fun pins s σ H R I h => h pins s I⟩
theorem _root_.L2.PI.w {X : Cx} {tg iter : Expr} {wi : TI} {σ : St} {H : Hp} {R : It → Hp → Prop} (h : PI X tg iter wi) (q : wi σ H R) : wI X tg iter σ H R := fun pins s I => h.run pins s σ H R I q
abbrev DenI := Calls → Env → Out (List PyData × Env)
def SrP (B : Bd) (F H : Hp) (σ : St) (p tp : Bool) (R : It → Hp → Prop) : List PyData × Env → Prop := fun r => ∀ J F' H', Rel B F' H' r.2 σ → Ex F F' → (p = true → Ex H H') → Src tp B.K F' J r.1 → R J H'
def SndI (Γ : Ctx) (tg iter : Expr) (d : DenI) (p tp : Bool) : Prop := ∀ (X : Cx) (Φ : Calls) (B : Bd) (F H : Hp) (ρ : Env) (σ : St) (R : It → Hp → Prop) (W : WX), CtxOk Γ Φ X → B.K = X.K → L2N.Takes X W → Rel B F H ρ σ →
  (d Φ ρ).wp (SrP B F H σ p tp R) (ExP X B F σ W) → wI X tg iter σ H R
/-- a list, a tuple -/
def iSeq (d : DenO) : DenI := fun Φ ρ => (d Φ ρ).bind fun r => match r.1 with
  | .list ds => .ok (ds, r.2)
  | .tuple ds => .ok (ds, r.2)
  | _ => .stuck
def rngD (lo : Int) (n : Nat) : List PyData := (List.range n).map fun i => .int (lo + (i : Nat))
@[irreducible] def small62 (i : Int) : Bool := decide (-(2 ^ 62) ≤ i) && decide (i < 2 ^ 62)
def iR1 (a : DenO) : DenI := fun Φ ρ => (a Φ ρ).bind fun r => match r.1 with
  | .int n => guard' (small62 n) (.ok (rngD 0 n.toNat, r.2))
  | _ => .stuck
def iR2 (a b : DenO) : DenI := fun Φ ρ => (a Φ ρ).bind fun r => (b Φ r.2).bind fun s => match r.1, s.1 with
  | .int i, .int j => guard' (small62 i && small62 j) (.ok (rngD i (j - i).toNat, s.2))
  | _, _ => .stuck
section
variable {Γ : Ctx} {tg e a b : Expr} {d d' : DenO} {p p' m m' tp : Bool} {fpos pos : Pos}
theorem taken_of {K : PySem.W.Frag} {F H : Hp} {d : PyData} {x : V} (e : Ex F H) (h : Rp K F d x) : Taken tp K F H d x := by
  cases tp with
  | false => exact h
  | true =>
    intro ds z
    subst z
    cases h with
    | tup h1 h2 h3 => exact ⟨_, _, rfl, .inl (.inr ⟨_, e _ _ h1⟩), h3⟩
theorem src_list {K : PySem.W.Frag} {F : Hp} {l : Addr} {vs : List V} {ds : List PyData} (h : F l = some (.lst vs)) (r : RpAll K F ds vs) : Src tp K F (Itl K l) ds := by
  refine ⟨fun i H d e q => ?_, fun i H e q => ⟨vs, .inl (.inl (e _ _ h)), by rw [← rpAll_len r]; exact q⟩⟩
  obtain ⟨v, h1, h2⟩ := RpAll.at' r q
  refine ⟨⟨vs, v, .inl (.inl (e _ _ h)), h1⟩, fun x H' y F2 e2 e3 => ?_⟩
  obtain ⟨z, y⟩ := y
  subst z
  have ex := y vs (.inl (.inl (e _ _ h)))
  rw [h1] at ex
  cases ex
  exact ⟨fun _ z => z, .refl e3, taken_of e3 (h2.mono e2)⟩
theorem src_tup {K : PySem.W.Frag} {F : Hp} {l : Addr} {o : Obj} {vs : List V} {ds : List PyData} (h : F l = some (.frz o (.tup vs))) (r : RpAll K F ds vs) : Src tp K F (Itt K l) ds := by
  have s : ∀ {H : Hp}, Ex F H → SqT K H l vs := fun e => .inl (.inr ⟨o, e _ _ h⟩)
  refine ⟨fun i H d e q => ?_, fun i H e q => ⟨vs, s e, by rw [← rpAll_len r]; exact q⟩⟩
  obtain ⟨v, h1, h2⟩ := RpAll.at' r q
  refine ⟨⟨vs, v, s e, h1⟩, fun x H' y F2 e2 e3 => ?_⟩
  obtain ⟨z, y⟩ := y
  subst z
  have ex := y vs (s e)
  rw [h1] at ex
  cases ex
  exact ⟨fun _ z => z, .refl e3, taken_of e3 (h2.mono e2)⟩
theorem src_rng {K : PySem.W.Frag} {F : Hp} {lo : Int} {n : Nat} : Src false K F (Itr lo n) (rngD lo n) := by
  have hl : (rngD lo n).length = n := by simp [rngD]
  refine ⟨fun i H d e q => ?_, fun i H e q => by show n ≤ i; rw [← hl]; exact q⟩
  have hi : i < n := by rw [← hl]; exact (List.getElem?_eq_some_iff.mp q).1
  refine ⟨hi, fun x H' y F2 e2 e3 => ?_⟩
  obtain ⟨z, y⟩ := y
  subst z
  subst y
  have : d = .int (lo + (i : Nat)) := by
    unfold rngD at q
    rw [List.getElem?_map, List.getElem?_range hi] at q
    exact (Option.some.inj q).symm
  subst this
  exact ⟨fun _ z => z, .refl e3, Rp.int _⟩
/-- a list or a tuple, whichever comes -/
theorem pi_seq {X : Cx} {l : Expr} {tl : TE} (hl : PE X l tl) : PI X tg l (fun σ H R => tl σ H fun x H1 => (∃ a, x = .ref a ∧ (∃ xs, SqL X.K H1 a xs) ∧ R (Itl X.K a) H1) ∨ (∃ a, x = .ref a ∧ (∃ xs, SqT X.K H1 a xs) ∧ R (Itt X.K a) H1)) := by
  refine ⟨fun pins s σ H R I h => ?_⟩
  refine thn (hl.run pins s σ H _ I h) fun v s1 ⟨x, H1, I1, r1, q1⟩ => ?_
  rcases q1 with ⟨a, e, ⟨xs, hq⟩, q⟩ | ⟨a, e, ⟨xs, hq⟩, q⟩
  · subst e
    cases r1
    obtain ⟨its, rv, p, hz⟩ := I1.list hq
    refine wpAny_pyIter_list p.isList ?_
    refine ⟨s1.heap.objs.size, [s1.heap.objs.size], _, _, H1, rfl, I1.kept (t' := s1.toks) fun b o e => Heap.get?_push_of_some _ e, turn_list a _, ⟨_, Heap.get?_push_size _ rfl, rfl, rfl⟩, fun b hb => ?_, q⟩
    have e : b = s1.heap.objs.size := by simpa using hb
    subst e
    exact I1.fpOk (Nat.le_refl _) (I1.hok.fresh (Nat.le_refl _))
  · subst e
    cases r1
    obtain ⟨its, rv, p, hz⟩ := I1.tuple hq
    refine wpAny_pyIter_tuple (show s1.heap.IsTuple a its.toArray from p) ?_
    refine ⟨s1.heap.objs.size, [s1.heap.objs.size], _, _, H1, rfl, I1.kept (t' := s1.toks) fun b o e => Heap.get?_push_of_some _ e, turn_tuple a _, ⟨_, Heap.get?_push_size _ rfl, rfl, rfl⟩, fun b hb => ?_, q⟩
    have e : b = s1.heap.objs.size := by simpa using hb
    subst e
    exact I1.fpOk (Nat.le_refl _) (I1.hok.fresh (Nat.le_refl _))
theorem snd_iSeq (h : SndO Γ e d p false) : SndI Γ tg e (iSeq d) p tp := by
  intro X Φ B F H ρ σ R W C hK T Rl hq
  refine PI.w (pi_seq pe_w) ?_
  refine h X Φ B F H ρ σ _ W C hK T Rl (wp_mono (wp_bind (c := d Φ ρ) hq) (fun y q v F1 H1 R1 e1 e2 hv => ?_) fun _ q => q)
  obtain ⟨y, ρ1⟩ := y
  have hv : Rp B.K F1 y v := hv
  cases y with
  | list ds =>
    cases hv with
    | lst h1 h2 => exact .inl ⟨_, rfl, ⟨_, .inl (.inl (R1.kept.ex _ _ h1))⟩, q _ F1 H1 R1 e1 e2 (hK ▸ src_list h1 h2)⟩
  | tuple ds =>
    cases hv with
    | tup h1 h2 h3 => exact .inr ⟨_, rfl, ⟨_, .inl (.inr ⟨_, R1.kept.ex _ _ h1⟩)⟩, q _ F1 H1 R1 e1 e2 (hK ▸ src_tup h1 h3)⟩
  | _ => exact q.elim
theorem small_of {i : Int} (h : small62 i = true) : -(2 ^ 62) ≤ i ∧ i < 2 ^ 62 := by
  unfold small62 at h
  simp only [Bool.and_eq_true, decide_eq_true_eq] at h
  exact h
theorem snd_iR1 (h : SndO Γ a d p m) (he : plainE a = true) (hg : Γ.sc.names.lookup ("range" : Str) = some .globalImplicit) (hf : ("range" : Str) ∈ Γ.blts) : SndI Γ tg (.Call (.Name "range" fpos) [a] [] pos) (iR1 d) p false := by
  intro X Φ B F H ρ σ R W C hK T Rl hq
  refine PI.w (pi_range1 (gl_of C hg) (C.blt _ hf) (pa_cons pe_w pa_nil (star_of he)) (star_of he)) ?_
  refine h X Φ B F H ρ σ _ W C hK T Rl (wp_mono (wp_bind (c := d Φ ρ) hq) (fun y q v F1 H1 R1 e1 e2 hv => ?_) fun _ q => q)
  obtain ⟨y, ρ1⟩ := y
  cases y with
  | int n =>
    obtain ⟨g, q⟩ := wp_guard q
    have := small_of g
    have hv := hv.bp.int
    subst hv
    exact ⟨n, rfl, this.1, this.2, q _ F1 H1 R1 e1 e2 src_rng⟩
  | _ => exact q.elim
theorem snd_iR2 (h : SndO Γ a d p m) (h' : SndO Γ b d' p' m') (he : plainE a = true) (he' : plainE b = true) (hg : Γ.sc.names.lookup ("range" : Str) = some .globalImplicit) (hf : ("range" : Str) ∈ Γ.blts) : SndI Γ tg (.Call (.Name "range" fpos) [a, b] [] pos) (iR2 d d') (p && p') false := by
  intro X Φ B F H ρ σ R W C hK T Rl hq
  refine PI.w (pi_range2 (gl_of C hg) (C.blt _ hf) (pa_cons pe_w (pa_cons pe_w pa_nil (star_of he')) (star_of he)) (by rw [star_of he, star_of he']; rfl) (star_of he')) ?_
  refine h X Φ B F H ρ σ _ W C hK T Rl (wp_mono (wp_bind (c := d Φ ρ) hq) (fun y q v F1 H1 R1 e1 e2 hv => ?_) fun _ q => q)
  refine h' X Φ B F1 H1 y.2 σ _ W C hK T R1 (wp_mono (wp_bind (c := d' Φ y.2) q) (fun z q w F2 H2 R2 e3 e4 hw => ?_) (ExP.mono e1))
  obtain ⟨y, ρ1⟩ := y
  obtain ⟨z, ρ2⟩ := z
  cases y with
  | int i =>
    cases z with
    | int j =>
      obtain ⟨g, q⟩ := wp_guard q
      rw [Bool.and_eq_true] at g
      have g1 := small_of g.1
      have g2 := small_of g.2
      have hv := hv.bp.int
      have hw := hw.bp.int
      subst hv
      subst hw
      exact ⟨i, j, rfl, ⟨g1.1, g1.2, g2.1, g2.2⟩, q _ F2 H2 R2 (e1.trans e3) (fun z => by rw [Bool.and_eq_true] at z; exact (e2 z.1).trans (e4 z.2)) src_rng⟩
    | _ => exact q.elim
  | _ => exact q.elim
end

/-! ### for -/
def forL (f : PyData → Env → Out (Fl × Env)) : List PyData → Env → Out (Fl × Env)
  | [], ρ => .ok (.nx, ρ)
  | d :: ds, ρ => (f d ρ).bind fun r => match r.1 with
    | .nx => forL f ds r.2
    | .cnt => forL f ds r.2
    | .brk => .ok (.nx, r.2)
    | .ret s => .ok (.ret s, r.2)
def dFor (t : Tgt) (s : DenI) (b : DenS) : DenS := fun Φ ρ => (s Φ ρ).bind fun r => forL (fun d ρ => (opt (putT t d ρ)).bind fun ρ => b Φ ρ) r.1 r.2
theorem folded_of {e : Expr} {env : PySem.Env} (h : notSet e = true) (x : Value) : foldedSetIterable e env x = pure x := by
  unfold foldedSetIterable
  cases e <;> first | rfl | cases h
section
variable {Γ : Ctx} {tg iter : Expr} {s : DenI} {b : DenS} {t : Tgt} {body : List Stmt} {p : Bool} {pos : Pos}
theorem snd_for (hs : SndI Γ tg iter s p t.isTp) (ht : TgtOk Γ.N (locB Γ.sc) tg t) (hi : t.ix.all (fun i => decide (Γ.np ≤ i)) = true) (hb : SndSs Γ body b) (hn : notSet iter = true) : SndS Γ (.For tg iter body [] pos) (dFor t s b) := by
  intro X Φ B F H ρ σ D W C BO bo hK T R hq
  refine PS.w (ps_for BO.hp C.calm pi_w (ht.pg C (mayPut_body C BO)) pss_w (folded_of hn)) ?_
  refine hs X Φ B F H ρ σ _ W C hK T R (wp_mono (wp_bind (c := s Φ ρ) hq) (fun r q J F1 H1 R1 e1 _ hJ => ?_) ExS.ex)
  obtain ⟨ds, ρ1⟩ := r
  have hvs : ∀ i ∈ t.ix, B.vs.length ≤ i := fun i hi' => Nat.le_trans bo.vs (of_decide_eq_true (List.all_eq_true.mp hi i hi'))
  refine ⟨fun i m σ H => m = ds.length - i ∧ i ≤ ds.length ∧ ∃ F' ρ', Rel B F' H ρ' σ ∧ Ex F1 F' ∧ (forL (fun d ρ => (opt (putT t d ρ)).bind fun ρ => b Φ ρ) (ds.drop i) ρ').wp (StP B F' D) (ExS X B F' W), ⟨_, rfl, Nat.zero_le _, F1, ρ1, R1, .refl F1, wp_mono (by rw [List.drop_zero]; exact q) (StP.mono e1) (ExS.mono e1)⟩, fun i m σ H hW => ?_⟩
  obtain ⟨rfl, hi, F', ρ', R', e', q'⟩ := hW
  by_cases hlt : i < ds.length
  · right
    obtain ⟨d, hd⟩ : ∃ d, ds[i]? = some d := ⟨_, List.getElem?_eq_getElem hlt⟩
    obtain ⟨go, yl⟩ := hJ.go i H d (e'.trans R'.kept.ex) hd
    refine ⟨go, fun σ H => ∃ F' ρ', Rel B F' H ρ' σ ∧ Ex F1 F' ∧ (forL (fun d ρ => (opt (putT t d ρ)).bind fun ρ => b Φ ρ) (ds.drop (i + 1)) ρ').wp (StP B F' D) (ExS X B F' W), fun σ' H' n => ⟨ds.length - (i + 1), by omega, rfl, hlt, n⟩, fun x H' y => ?_⟩
    obtain ⟨_, gr, tk⟩ := yl x H' y F' e' R'.kept.ex
    have ed : ds.drop i = d :: ds.drop (i + 1) := by
      have := List.drop_eq_getElem_cons hlt
      rw [this]
      rw [List.getElem?_eq_getElem hlt] at hd
      rw [Option.some.inj hd]
    rw [ed] at q'
    have q' := wp_bind (c := (opt (putT t d ρ')).bind fun ρ => b Φ ρ) q'
    have R2 := R'.add gr
    cases g : putT t d ρ' with
    | none => rw [g] at q'; exact q'.elim
    | some ρ2 =>
      rw [g] at q'
      replace q' : (b Φ ρ2).wp _ _ := q'
      rw [← hK]
      refine put_ok g tk R2 hvs fun σ2 R3 => ?_
      refine hb X Φ B F' H' ρ2 σ2 _ W C BO bo hK T R3 (wp_mono q' (fun r q2 => ?_) fun _ z => z)
      obtain ⟨f, ρ3⟩ := r
      cases f with
      | nx => exact fun σ3 F3 H3 R4 e4 => ⟨F3, ρ3, R4, e'.trans e4, wp_mono q2 (StP.mono e4) (ExS.mono e4)⟩
      | cnt => exact fun σ3 F3 H3 R4 e4 => ⟨F3, ρ3, R4, e'.trans e4, wp_mono q2 (StP.mono e4) (ExS.mono e4)⟩
      | brk => exact q2
      | ret s => exact q2
  · left
    have ei : i = ds.length := by omega
    subst ei
    refine ⟨hJ.stop _ H (e'.trans R'.kept.ex) (Nat.le_refl _), ?_⟩
    rw [List.drop_length] at q'
    exact q' σ F' H R' (.refl F')
/-! ### while -/
def whileN (c : Den) (b : DenS) (Φ : Calls) : Nat → Env → Out (Fl × Env)
  | 0, _ => .stuck
  | n + 1, ρ => (c Φ ρ).bind fun r => match r.1 with
    | .val (.bool true) => (b Φ r.2).bind fun s => match s.1 with
      | .nx => whileN c b Φ n s.2
      | .cnt => whileN c b Φ n s.2
      | .brk => .ok (.nx, s.2)
      | .ret x => .ok (.ret x, s.2)
    | .val (.bool false) => .ok (.nx, r.2)
    | _ => .stuck
def turnsMost : Nat := 100000
def dWhile (c : Den) (b : DenS) : DenS := fun Φ ρ => whileN c b Φ turnsMost ρ
theorem snd_while {c : Expr} {d : Den} (hc : SndT Γ c d p) (hb : SndSs Γ body b) : SndS Γ (.While c body [] pos) (dWhile d b) := by
  intro X Φ B F H ρ σ D W C BO bo hK T R hq
  refine PS.w (ps_while BO.hp pt_w pss_w) ⟨fun m σ H => ∃ F' ρ', Rel B F' H ρ' σ ∧ Ex F F' ∧ (whileN d b Φ m ρ').wp (StP B F' D) (ExS X B F' W), ⟨turnsMost, F, ρ, R, .refl F, hq⟩, fun m σ H hW => ?_⟩
  obtain ⟨F', ρ', R', e', q'⟩ := hW
  cases m with
  | zero => exact q'.elim
  | succ n =>
    refine hc X Φ B F' H ρ' σ _ W C hK T R' (wp_mono (wp_bind (c := d Φ ρ') q') (fun r q => ?_) ExS.ex)
    obtain ⟨s, ρ1⟩ := r
    cases s with
    | val z =>
      cases z with
      | bool k =>
        refine ⟨k, rfl, fun F1 H1 R1 e1 _ => ?_⟩
        cases k with
        | true =>
          refine iteT ⟨fun σ H => ∃ F' ρ', Rel B F' H ρ' σ ∧ Ex F F' ∧ (whileN d b Φ n ρ').wp (StP B F' D) (ExS X B F' W), fun σ' H' z => ⟨n, Nat.lt_succ_self n, z⟩, ?_⟩
          refine hb X Φ B F1 H1 ρ1 σ _ W C BO bo hK T R1 (wp_mono (wp_bind (c := b Φ ρ1) q) (fun r q2 => ?_) (ExS.mono e1))
          obtain ⟨f, ρ3⟩ := r
          cases f with
          | nx => exact fun σ3 F3 H3 R4 e4 => ⟨F3, ρ3, R4, (e'.trans e1).trans e4, wp_mono q2 (StP.mono (e1.trans e4)) (ExS.mono (e1.trans e4))⟩
          | cnt => exact fun σ3 F3 H3 R4 e4 => ⟨F3, ρ3, R4, (e'.trans e1).trans e4, wp_mono q2 (StP.mono (e1.trans e4)) (ExS.mono (e1.trans e4))⟩
          | brk => exact fun σ3 F3 H3 R4 e4 => q2 σ3 F3 H3 R4 (e1.trans e4)
          | ret s => exact fun σ3 v F3 H3 R4 e4 => q2 σ3 v F3 H3 R4 (e1.trans e4)
        | false => exact iteF (q σ F1 H1 R1 e1)
      | _ => exact q.elim
    | _ => exact q.elim
end
end Dn

/-! Den7: comprehensions. -/
namespace Dn
open PySem PySem.Spec L2
open PyProof.Rows hiding St

def wipeE (vs : List Nat) (ρ : Env) : Env := vs.foldr (fun i ρ => ρ.set i .un) ρ
/-- the block's own names are as they were -/
def unwipe : List Nat → Env → Env → Env
  | [], _, ρ => ρ
  | i :: is, ρ0, ρ => match ρ0[i]? with
    | some (.val d) => (unwipe is ρ0 ρ).set i (.val d)
    | _ => unwipe is ρ0 ρ
def noX {α : Type} (c : Out α) : Out α := match c with
  | .exc _ => .stuck
  | c => c
theorem wp_noX {α : Type} {c : Out α} {P : α → Prop} {E : Exc → Prop} (h : (noX c).wp P E) : c.wp P (fun _ => False) := by
  cases c with
  | ok a => exact h
  | exc x => exact h
  | stuck => exact h
def lcL (f : PyData → Env → Out (Option PyData × Env)) : List PyData → Env → Out (List PyData × Env)
  | [], ρ => .ok ([], ρ)
  | d :: ds, ρ => (f d ρ).bind fun r => (lcL f ds r.2).bind fun z => .ok (r.1.toList ++ z.1, z.2)
/-- one turn -/
def lcT (t : Tgt) (c e : Den) (vs : List Nat) (Φ : Calls) (d : PyData) (ρ : Env) : Out (Option PyData × Env) := (opt (putT t d ρ)).bind fun ρ => (c Φ ρ).bind fun b => match b.1 with
  | .val (.bool true) => (oOf e Φ b.2).bind fun y => .ok (some y.1, wipeE vs y.2)
  | .val (.bool false) => .ok (none, wipeE vs b.2)
  | _ => .stuck
def dLc (t : Tgt) (s : DenI) (c e : Den) (vs : List Nat) : Den := fun Φ ρ => (s Φ ρ).bind fun r => guard' (decide (r.1.length ≤ 1000000)) ((noX (lcL (lcT t c e vs Φ) r.1 (wipeE vs r.2))).bind fun z => .ok (.own z.1, unwipe vs r.2 z.2))
def dYes : Den := fun _ ρ => .ok (.val (.bool true), ρ)

section
variable {B : Bd} {F H F' H' : Hp} {ρ ρ' ρ0 : Env} {σ : St}
theorem wipeE_len (vs : List Nat) : ∀ ρ : Env, (wipeE vs ρ).length = ρ.length := by
  induction vs with
  | nil => intro ρ; rfl
  | cons v vs ih => intro ρ; show ((wipeE vs ρ).set v .un).length = _; rw [List.length_set, ih]
theorem wipeE_get {vs : List Nat} {j : Nat} {s : Slot} : ∀ {ρ : Env}, (wipeE vs ρ)[j]? = some s → s ≠ .un → ρ[j]? = some s ∧ j ∉ vs := by
  induction vs with
  | nil => intro ρ h _; exact ⟨h, by simp⟩
  | cons v vs ih =>
    intro ρ h hs
    have h : ((wipeE vs ρ).set v .un)[j]? = some s := h
    rcases set_get h with ⟨_, z, _⟩ | ⟨z1, z2⟩
    · exact absurd z hs
    · obtain ⟨g1, g2⟩ := ih z2 hs
      exact ⟨g1, by simp only [List.mem_cons, not_or]; exact ⟨z1, g2⟩⟩
theorem wipe_ne {i : Nat} : ∀ {vs : List Nat}, i ∉ vs → (wipe σ vs)[i]? = σ[i]?
  | [], _ => rfl
  | v :: vs, h => by
    simp only [List.mem_cons, not_or] at h
    show ((wipe σ vs).set v none)[i]? = _
    rw [List.getElem?_set_ne (Ne.symm h.1), wipe_ne h.2]
/-- into the block: another ground, no parameters; D the new list -/
def Bd.blk (B : Bd) (F H : Hp) (ρ : Env) (σ : St) (D : Addr) : Bd := ⟨B.K, F, H, fun i a => ownedI ρ σ i a ∨ (a = D ∧ i = ρ.length), []⟩
theorem Rel.blk {D : Addr} (R : Rel B F H ρ σ) (vs : List Nat) : Rel (B.blk F H ρ σ D) F H (wipeE vs ρ) (wipe σ vs) := by
  refine ⟨⟨.refl F, R.kept.ex, fun _ _ h _ => h, fun _ _ h _ => h, fun _ h => h⟩, ⟨by rw [wipeE_len, wipe_length]; exact R.sl.len, fun i d q => ?_, fun i ns q => ?_, fun i s q qs => ?_, fun i v q => by simp [Bd.blk] at q, fun i j s t a ne q qs q' qs' e1 e2 => ?_⟩⟩
  · obtain ⟨g1, g2⟩ := wipeE_get q (fun z => nomatch z)
    obtain ⟨v, k1, k2⟩ := R.sl.val i d g1
    exact ⟨v, by rw [wipe_ne g2]; exact k1, k2⟩
  · obtain ⟨g1, g2⟩ := wipeE_get q (fun z => nomatch z)
    obtain ⟨v, k1, k2⟩ := R.sl.scr i ns g1
    exact ⟨v, by rw [wipe_ne g2]; exact k1, k2⟩
  · obtain ⟨g1, g2⟩ := wipeE_get q (fun z => by rw [z] at qs; cases qs)
    obtain ⟨a, o, k1, k2, k3, k4, k5⟩ := R.sl.own i s g1 qs
    exact ⟨a, o, by rw [wipe_ne g2]; exact k1, k2, k3, k4, .inl (.inl ⟨s, g1, qs, k1⟩)⟩
  · obtain ⟨g1, g2⟩ := wipeE_get q (fun z => by rw [z] at qs; cases qs)
    obtain ⟨g3, g4⟩ := wipeE_get q' (fun z => by rw [z] at qs'; cases qs')
    rw [wipe_ne g2] at e1
    rw [wipe_ne g4] at e2
    exact R.sl.dis i j s t a ne g1 qs g3 qs' e1 e2
/-- out of the block -/
theorem unwipe_get {j : Nat} {s : Slot} : ∀ {vs : List Nat}, (unwipe vs ρ0 ρ)[j]? = some s → (j ∈ vs ∧ ∃ d, s = .val d ∧ ρ0[j]? = some (.val d)) ∨ ρ[j]? = some s
  | [], h => .inr h
  | v :: vs, h => by
    have h : (match ρ0[v]? with
      | some (.val d) => (unwipe vs ρ0 ρ).set v (.val d)
      | _ => unwipe vs ρ0 ρ)[j]? = some s := h
    cases e : ρ0[v]? with
    | none =>
      rw [e] at h
      rcases unwipe_get h with ⟨z1, z2⟩ | z
      · exact .inl ⟨List.mem_cons_of_mem _ z1, z2⟩
      · exact .inr z
    | some t =>
      rw [e] at h
      cases t with
      | val d =>
        rcases set_get h with ⟨z1, z2, _⟩ | ⟨z1, z2⟩
        · subst z1; exact .inl ⟨List.mem_cons_self, d, z2, e⟩
        · rcases unwipe_get z2 with ⟨z1, z2⟩ | z
          · exact .inl ⟨List.mem_cons_of_mem _ z1, z2⟩
          · exact .inr z
      | _ =>
        rcases unwipe_get h with ⟨z1, z2⟩ | z
        · exact .inl ⟨List.mem_cons_of_mem _ z1, z2⟩
        · exact .inr z
theorem unwipe_len : ∀ vs : List Nat, (unwipe vs ρ0 ρ).length = ρ.length
  | [] => rfl
  | v :: vs => by
    show (match ρ0[v]? with
      | some (.val d) => (unwipe vs ρ0 ρ).set v (.val d)
      | _ => unwipe vs ρ0 ρ).length = _
    split
    · rw [List.length_set, unwipe_len vs]
    · exact unwipe_len vs
/-- D is nobody's within the block -/
theorem Rel.notD {D : Addr} {σ' : St} (R : Rel B F H ρ σ) (R' : Rel (B.blk F H ρ σ D) F' H' ρ' σ') (hl : σ'.length = σ.length) (hD : H D ≠ none) (hn : ¬ owned ρ σ D) : ¬ owned ρ' σ' D := fun ⟨i, t, q, qs, e⟩ => by
  obtain ⟨a, o, k1, k2, k3, k4, k5⟩ := R'.sl.own i t q qs
  rw [e] at k1
  cases k1
  rcases k5 with (⟨s, z1, z2, z3⟩ | ⟨_, z⟩) | z
  · exact hn ⟨i, s, z1, z2, z3⟩
  · have h1 := (List.getElem?_eq_some_iff.mp q).1
    have h2 := R'.sl.len
    have h3 := R.sl.len
    omega
  · exact hD z
theorem Rel.unblk {D : Addr} {vs : List Nat} (h0 : B.H0 D = none) (R : Rel B F H ρ σ) (R' : Rel (B.blk F H ρ σ D) F' H' ρ' (wipe σ vs)) (hw : ∀ i ∈ vs, ∀ s, ρ'[i]? = some s → s = .un) : Rel B F' H' (unwipe vs ρ ρ') σ := by
  have get : ∀ {i : Nat} {s : Slot}, (unwipe vs ρ ρ')[i]? = some s → s.isOwn = true → ρ'[i]? = some s ∧ i ∉ vs := fun {i s} q qs => by
    rcases unwipe_get q with ⟨_, d, z, _⟩ | z
    · rw [z] at qs; cases qs
    · exact ⟨z, fun m => by rw [hw i m s z] at qs; cases qs⟩
  have ls : ∀ a, (∃ i, ownedI ρ σ i a ∨ (a = D ∧ i = ρ.length)) → B.La a ∨ B.H0 a = none := fun a ⟨i, h⟩ => by
    rcases h with h | ⟨h, _⟩
    · exact (R.lentI i a h).imp (fun z => ⟨i, z⟩) id
    · subst h; exact .inr h0
  refine ⟨R.kept.trans R'.kept ls, ⟨?_, fun i d q => ?_, fun i ns q => ?_, fun i s q qs => ?_, R.sl.par, fun i j s t a ne q qs q' qs' e1 e2 => ?_⟩⟩
  · rw [unwipe_len]
    have := R'.sl.len
    rw [wipe_length] at this
    exact this
  · rcases unwipe_get q with ⟨_, d', z, z2⟩ | z
    · cases z
      obtain ⟨v, k1, k2⟩ := R.sl.val i d z2
      exact ⟨v, k1, k2.mono R'.kept.ff⟩
    · have ni : i ∉ vs := fun m => by have := hw i m _ z; cases this
      obtain ⟨v, k1, k2⟩ := R'.sl.val i d z
      exact ⟨v, by rw [wipe_ne ni] at k1; exact k1, k2⟩
  · rcases unwipe_get q with ⟨_, d', z, z2⟩ | z
    · cases z
    · have ni : i ∉ vs := fun m => by have := hw i m _ z; cases this
      obtain ⟨v, k1, k2⟩ := R'.sl.scr i ns z
      exact ⟨v, by rw [wipe_ne ni] at k1; exact k1, k2⟩
  · obtain ⟨g1, g2⟩ := get q qs
    obtain ⟨a, o, k1, k2, k3, k4, k5⟩ := R'.sl.own i s g1 qs
    refine ⟨a, o, by rw [wipe_ne g2] at k1; exact k1, k2, k3, k4, ?_⟩
    rcases k5 with (z | ⟨_, z⟩) | z
    · exact R.lentI i a z
    · have h1 := (List.getElem?_eq_some_iff.mp g1).1
      have h2 := R'.sl.len
      have h3 := R.sl.len
      rw [wipe_length] at h2
      omega
    · exact .inr (R.kept.old z)
  · obtain ⟨g1, g2⟩ := get q qs
    obtain ⟨g3, g4⟩ := get q' qs'
    exact R'.sl.dis i j s t a ne g1 qs g3 qs' (by rw [wipe_ne g2]; exact e1) (by rw [wipe_ne g4]; exact e2)
/-- an object that is nobody's changes -/
theorem Rel.other {D : Addr} {o : HO} (R : Rel B F H ρ σ) (hF : F D = none) (h0 : B.La D ∨ B.H0 D = none) (hn : ¬ owned ρ σ D) : Rel B F (upd H D o) ρ σ := by
  refine ⟨⟨R.kept.ff, fun c u q => ?_, fun c u q n => ?_, R.kept.nof, fun c q => ?_⟩, ⟨R.sl.len, R.sl.val, R.sl.scr, fun i s q qs => ?_, R.sl.par, R.sl.dis⟩⟩
  · rw [upd_ne (fun z => by subst z; rw [hF] at q; cases q)]; exact R.kept.ex _ _ q
  · rw [upd_ne (fun z => by
      subst z
      rcases h0 with y | y
      · exact n y
      · rw [y] at q; cases q)]; exact R.kept.keep c u q n
  · by_cases z : c = D
    · subst z; rw [upd_same]; exact fun y => nomatch y
    · rw [upd_ne z]; exact R.kept.live c q
  · obtain ⟨a, u, k1, k2, k3, k4, k5⟩ := R.sl.own i s q qs
    exact ⟨a, u, k1, k2, by rw [upd_ne (fun z => by subst z; exact hn ⟨i, s, q, qs, k1⟩)]; exact k3, k4, k5⟩
/-- forgetting names, their values too -/
theorem Rel.wipe (R : Rel B F H ρ σ) (hv : B.vs = []) {vs : List Nat} {σ' : St} (hw : L2.wipe σ vs = σ') : Rel B F H (wipeE vs ρ) σ' := by
  subst hw
  refine ⟨R.kept, ⟨by rw [wipeE_len, wipe_length]; exact R.sl.len, fun i d q => ?_, fun i ns q => ?_, fun i s q qs => ?_, fun i v q => by rw [hv] at q; simp at q, fun i j s t a ne q qs q' qs' e1 e2 => ?_⟩⟩
  · obtain ⟨g1, g2⟩ := wipeE_get q (fun z => nomatch z)
    obtain ⟨v, k1, k2⟩ := R.sl.val i d g1
    exact ⟨v, by rw [wipe_ne g2]; exact k1, k2⟩
  · obtain ⟨g1, g2⟩ := wipeE_get q (fun z => nomatch z)
    obtain ⟨v, k1, k2⟩ := R.sl.scr i ns g1
    exact ⟨v, by rw [wipe_ne g2]; exact k1, k2⟩
  · obtain ⟨g1, g2⟩ := wipeE_get q (fun z => by rw [z] at qs; cases qs)
    obtain ⟨a, o, k1, k2⟩ := R.sl.own i s g1 qs
    exact ⟨a, o, by rw [wipe_ne g2]; exact k1, k2⟩
  · obtain ⟨g1, g2⟩ := wipeE_get q (fun z => by rw [z] at qs; cases qs)
    obtain ⟨g3, g4⟩ := wipeE_get q' (fun z => by rw [z] at qs'; cases qs')
    rw [wipe_ne g2] at e1
    rw [wipe_ne g4] at e2
    exact R.sl.dis i j s t a ne g1 qs g3 qs' e1 e2
end

/-- a turn's names: they may be stored in the block -/
def blkG (scope : Scope) (sc : Scope) (x : Str) : Bool := (relS scope sc).names.lookup x == some .local || ((relS scope sc).names.lookup x == some .cell && scope.names.lookup x == some .cell)
theorem tgsOf_wipe {B : Bd} {H : Hp} {vs : List Nat} {σw : St} : ∀ (is : List Nat) (xs : List V) (σ : St) (Q : St → Hp → Prop), (∀ i ∈ is, i ∈ vs) → wipe σ vs = σw → tgsOf is xs σ H Q → tgsOf is xs σ H fun σ' H' => wipe σ' vs = σw ∧ Q σ' H'
  | [], xs, σ, Q, _, hw, h => ⟨h.1, hw, h.2⟩
  | i :: is, xs, σ, Q, hi, hw, ⟨v, r, e, h⟩ => ⟨v, r, e, tgsOf_wipe (B := B) is r (σ.set i (some v)) Q (fun j hj => hi j (List.mem_cons_of_mem _ hj)) (by
      rw [← hw]
      have hm := hi i List.mem_cons_self
      clear hw h e
      have : ∀ (vs : List Nat) (σ : St), i ∈ vs → wipe (σ.set i (some v)) vs = wipe σ vs := by
        intro vs
        induction vs with
        | nil => intro σ hm; cases hm
        | cons w ws ih =>
          intro σ hm
          show (wipe (σ.set i (some v)) ws).set w none = (wipe σ ws).set w none
          by_cases hw : i ∈ ws
          · rw [ih σ hw]
          · have hw' : i = w := by
              rcases List.mem_cons.mp hm with z | z
              · exact z
              · exact absurd z hw
            subst hw'
            have g : ∀ (ws : List Nat), i ∉ ws → wipe (σ.set i (some v)) ws = (wipe σ ws).set i (some v) := by
              intro ws
              induction ws with
              | nil => intro _; rfl
              | cons u us ih2 =>
                intro hn
                simp only [List.mem_cons, not_or] at hn
                show (wipe (σ.set i (some v)) us).set u none = ((wipe σ us).set u none).set i (some v)
                rw [ih2 hn.2, List.set_comm _ _ hn.1]
            rw [g ws hw, List.set_set]
      exact this vs σ hm) h⟩
theorem tgOf_wipe {K : PySem.W.Frag} {B : Bd} {H : Hp} {vs : List Nat} {σw σ : St} {t : Tgt} {x : V} {Q : St → Hp → Prop} (hi : ∀ i ∈ t.ix, i ∈ vs) (hw : wipe σ vs = σw) (h : tgOf K t x σ H Q) : tgOf K t x σ H fun σ' H' => wipe σ' vs = σw ∧ Q σ' H' := by
  cases t with
  | nm i =>
    have := tgsOf_wipe (B := B) (H := H) [i] [x] σ Q (fun j hj => hi j hj) hw ⟨x, [], rfl, rfl, h⟩
    obtain ⟨v, r, e, e2, z⟩ := this
    cases e
    exact z
  | tp is =>
    obtain ⟨a, xs, h1, h2, h3, h4⟩ := h
    exact ⟨a, xs, h1, h2, h3, tgsOf_wipe (B := B) is xs σ Q hi hw h4⟩
theorem tgsOf_mono {H : Hp} {Q Q' : St → Hp → Prop} (hq : ∀ σ H, Q σ H → Q' σ H) : ∀ (is : List Nat) (xs : List V) (σ : St), tgsOf is xs σ H Q → tgsOf is xs σ H Q'
  | [], _, _, h => ⟨h.1, hq _ _ h.2⟩
  | _ :: is, _, _, ⟨v, r, e, h⟩ => ⟨v, r, e, tgsOf_mono hq is r _ h⟩
theorem tgOf_mono {K : PySem.W.Frag} {H : Hp} {Q Q' : St → Hp → Prop} {t : Tgt} {x : V} {σ : St} (h : tgOf K t x σ H Q) (hq : ∀ σ H, Q σ H → Q' σ H) : tgOf K t x σ H Q' := by
  cases t with
  | nm i => exact hq _ _ h
  | tp is =>
    obtain ⟨a, xs, h1, h2, h3, h4⟩ := h
    exact ⟨a, xs, h1, h2, h3, tgsOf_mono hq is xs σ h4⟩
/-- what is nobody's stays -/
theorem Rel.stays {B : Bd} {F H F' H' : Hp} {ρ ρ' : Env} {σ : St} {D : Addr} {o : HO} (R' : Rel (B.re F H ρ σ) F' H' ρ' σ) (hD : H D = some o) (fD : F D = none) (n : ¬ owned ρ σ D) : F' D = none ∧ H' D = some o :=
  ⟨R'.kept.nof D (by show H D ≠ none; rw [hD]; exact fun z => nomatch z) fD n, R'.kept.keep D o hD n⟩
/-- tests of a comprehension -/
inductive SndIfs (Γ : Ctx) : List Expr → Den → Bool → Prop
  | no : SndIfs Γ [] dYes true
  | one {c : Expr} {d : Den} {p : Bool} : SndT Γ c d p → SndIfs Γ [c] d p
def wTs (X : Cx) : List Expr → TT
  | [] => tYes
  | [c] => wT X c
  | _ => fun _ _ _ => False
theorem pts_w {Γ : Ctx} {X : Cx} {cs : List Expr} {d : Den} {p : Bool} (h : SndIfs Γ cs d p) : PTs X cs (wTs X cs) := by
  cases h with
  | no => exact pts_nil
  | one _ => exact pts_one pt_w
theorem wipe_set (i : Nat) (o : Option V) : ∀ (vs : List Nat) (σ : St), i ∉ vs → wipe (σ.set i o) vs = (wipe σ vs).set i o
  | [], σ, _ => rfl
  | v :: vs, σ, h => by
    simp only [List.mem_cons, not_or] at h
    show (wipe (σ.set i o) vs).set v none = ((wipe σ vs).set v none).set i o
    rw [wipe_set i o vs σ h.2, List.set_comm _ _ h.1]
theorem wipe_ext {σ σ' : St} : ∀ {vs : List Nat}, σ.length = σ'.length → (∀ j, j ∉ vs → σ[j]? = σ'[j]?) → wipe σ vs = wipe σ' vs := by
  intro vs hl h
  apply List.ext_getElem?
  intro j
  by_cases hj : j ∈ vs
  · have z : ∀ (τ : St) (vs : List Nat), j ∈ vs → j < τ.length → (wipe τ vs)[j]? = some none := by
      intro τ vs hj hlt
      induction vs with
      | nil => cases hj
      | cons v vs ih =>
        show ((wipe τ vs).set v none)[j]? = _
        by_cases e : v = j
        · subst e; rw [List.getElem?_set_self (by rw [wipe_length]; exact hlt)]
        · rw [List.getElem?_set_ne e]
          rcases List.mem_cons.mp hj with q | q
          · exact absurd q.symm e
          · exact ih q
    by_cases hlt : j < σ.length
    · rw [z σ vs hj hlt, z σ' vs hj (by omega)]
    · rw [List.getElem?_eq_none (by rw [wipe_length]; omega), List.getElem?_eq_none (by rw [wipe_length]; omega)]
  · rw [wipe_ne hj, wipe_ne hj]
    exact h j hj
theorem wipe_wipe {σ : St} {vs : List Nat} : wipe (wipe σ vs) vs = wipe σ vs := wipe_ext (wipe_length σ vs) fun j hj => wipe_ne hj

section
variable {Γ : Ctx} {X : Cx} {Φ : Calls} {scope : Scope}
abbrev Ctx.inB (Γ : Ctx) (scope : Scope) : Ctx := { Γ with sc := relS scope Γ.sc }
theorem ctx_blk {s : Shared} {H : Hp} {Cc : Addr} {cl : List (Str × Addr)} {fp : List Addr} (C : CtxOk Γ Φ X) : CtxOk (Γ.inB scope) Φ (X.blk s H scope (compEnvC scope cl Cc X.env) fp) :=
  ⟨C.nm, by show relS scope X.env.scope = relS scope Γ.sc; rw [C.sc], C.nd, C.calm, C.room, C.grd, C.fns, C.gints, C.gstrs, C.blt, C.exs, C.hot⟩
theorem mayPut_blk {s : Shared} {H : Hp} {Cc : Addr} {cl : List (Str × Addr)} {fp : List Addr} (C : CtxOk Γ Φ X) : MayPut (X.blk s H scope (compEnvC scope cl Cc X.env) fp) (blkG scope Γ.sc) := fun x h => by
  have e : (X.blk s H scope (compEnvC scope cl Cc X.env) fp).env.scope = relS scope Γ.sc := by rw [← C.sc]; rfl
  unfold blkG at h
  simp only [Bool.or_eq_true, Bool.and_eq_true, beq_iff_eq] at h
  rcases h with h | ⟨h, h'⟩
  · exact ⟨.inl (by rw [e]; exact h), .inr (by rw [e]; exact h)⟩
  · exact ⟨.inr (by rw [e]; exact h), .inl (by show (scope.names.lookup x == some .cell) = true; rw [h']; rfl)⟩
/-- in any block of X's scope -/
def wEB (X : Cx) (scope : Scope) (e : Expr) : TE := fun σ H Q => ∀ (s : Shared) (H0 : Hp) (Cc : Addr) (cl : List (Str × Addr)) (fp : List Addr), wE (X.blk s H0 scope (compEnvC scope cl Cc X.env) fp) e σ H Q
def wTB (X : Cx) (scope : Scope) : List Expr → TT
  | [] => tYes
  | c :: _ => fun σ H Q => ∀ (s : Shared) (H0 : Hp) (Cc : Addr) (cl : List (Str × Addr)) (fp : List Addr), wT (X.blk s H0 scope (compEnvC scope cl Cc X.env) fp) c σ H Q
theorem pts_b {Γ' : Ctx} {cs : List Expr} {d : Den} {p : Bool} {s : Shared} {H : Hp} {Cc : Addr} {cl : List (Str × Addr)} {fp : List Addr} (h : SndIfs Γ' cs d p) : PTs (X.blk s H scope (compEnvC scope cl Cc X.env) fp) cs (wTB X scope cs) := by
  cases h with
  | no => exact pts_nil
  | one _ => exact pts_one ⟨fun pins s' σ H' Q I h => h s H Cc cl fp pins s' I⟩
theorem pe_b {e : Expr} {s : Shared} {H : Hp} {Cc : Addr} {cl : List (Str × Addr)} {fp : List Addr} : PE (X.blk s H scope (compEnvC scope cl Cc X.env) fp) e (wEB X scope e) := ⟨fun pins s' σ H' Q I h => h s H Cc cl fp pins s' I⟩
end

section
variable {Γ : Ctx} {tg iter elt : Expr} {ifs : List Expr} {scope : Scope} {own : List (Str × Nat)} {s : DenI} {c e : Den} {t : Tgt} {p pc pe' : Bool} {pos : Pos}
/-- the reading of a comprehension -/
theorem lc_run {X : Cx} {Φ : Calls} {B : Bd} {F H : Hp} {ρ : Env} {σ : St} {Q : VK} {W : WX} (hs : SndI Γ tg iter s p t.isTp) (hix : t.ix.all (fun i => (own.map (·.2)).contains i) = true) (hc : SndIfs (Γ.inB scope) ifs c pc) (he : SndE (Γ.inB scope) elt e pe')
    (C : CtxOk Γ Φ X) (hK : B.K = X.K) (T : L2N.Takes X W) (R : Rel B F H ρ σ) (hq : (dLc t s c e (own.map (·.2)) Φ ρ).wp (EvP B F H σ (p && (pc && pe')) Q) (ExP X B F σ W)) :
    tLc (wI X tg iter) (tgOf X.K t) (wTB X scope ifs) (wEB X scope elt) (own.map (·.2)) σ H Q := by
  refine hs X Φ B F H ρ σ _ W C hK T R (wp_mono (wp_bind (c := s Φ ρ) hq) (fun r q J F1 H1 R1 e1 e2 hJ => ?_) fun _ q => q)
  obtain ⟨ds, ρ1⟩ := r
  obtain ⟨hl, q⟩ := wp_guard q
  have hl : ds.length ≤ 1000000 := of_decide_eq_true hl
  have R1 : Rel B F1 H1 ρ1 σ := R1
  have hJ : Src t.isTp B.K F1 J ds := hJ
  intro D hD
  have hF1 : F1 D = none := R1.kept.ex.free hD
  have h0 : B.H0 D = none := R1.kept.old hD
  have hD1 : upd H1 D (.lst []) D ≠ none := by rw [upd_same]; exact fun z => nomatch z
  have nD : ¬ owned ρ1 σ D := fun ⟨i, t, q1, q2, q3⟩ => by
    obtain ⟨a, o, k1, _, k3, _⟩ := R1.sl.own i t q1 q2
    rw [q3] at k1
    cases k1
    rw [hD] at k3; cases k3
  have RD : Rel B F1 (upd H1 D (.lst [])) ρ1 σ := R1.grow (.new hD)
  generalize hvs : own.map (·.2) = vs at *
  -- what holds at each turn
  let Bk := B.blk F1 (upd H1 D (.lst [])) ρ1 σ D
  have LaD : Bk.La D := ⟨ρ1.length, .inr ⟨rfl, rfl⟩⟩
  let T1 := lcT t c e vs Φ
  refine ⟨fun i m Hh => m = ds.length - i ∧ i ≤ ds.length ∧ ∃ (F' : Hp) (ρ' : Env) (accD : List PyData) (accV : List V), Rel Bk F' Hh ρ' (wipe σ vs) ∧ Ex F1 F' ∧ F' D = none ∧ Hh D = some (.lst accV) ∧ RpAll B.K F' accD accV ∧ accD.length ≤ i ∧ ((p && (pc && pe')) = true → Ex H1 Hh) ∧
    (∀ j ∈ vs, ∀ s, ρ'[j]? = some s → s = .un) ∧ (lcL T1 (ds.drop i) ρ').wp (fun z => EvP B F H σ (p && (pc && pe')) Q (.own (accD ++ z.1), unwipe vs ρ1 z.2)) (fun _ => False), ?_, fun i m Hh hW => ?_⟩
  · refine ⟨_, rfl, Nat.zero_le _, F1, wipeE vs ρ1, [], [], RD.blk vs, .refl F1, hF1, upd_same, .nil, Nat.le_refl _, fun _ => .new hD, fun j hj s q => ?_, ?_⟩
    · by_cases z : s = .un
      · exact z
      · exact absurd hj (wipeE_get q z).2
    · rw [List.drop_zero]
      replace q := wp_bind (c := noX (lcL T1 ds (wipeE vs ρ1))) q
      cases g : lcL T1 ds (wipeE vs ρ1) with
      | ok a => rw [g] at q; exact q
      | exc x => rw [g] at q; exact q.elim
      | stuck => rw [g] at q; exact q.elim
  · obtain ⟨rfl, hi, F', ρ', accD, accV, R', e', fD, hDl, ra, la, pu, un, q'⟩ := hW
    have lw : (wipe σ vs).length = σ.length := wipe_length σ vs
    by_cases hlt : i < ds.length
    · right
      obtain ⟨d, hd⟩ : ∃ d, ds[i]? = some d := ⟨_, List.getElem?_eq_getElem hlt⟩
      obtain ⟨go, yl⟩ := hJ.go i Hh d (e'.trans R'.kept.ex) hd
      refine ⟨go, fun Hn => ∃ (F' : Hp) (ρ' : Env) (accD : List PyData) (accV : List V), Rel Bk F' Hn ρ' (wipe σ vs) ∧ Ex F1 F' ∧ F' D = none ∧ Hn D = some (.lst accV) ∧ RpAll B.K F' accD accV ∧ accD.length ≤ i + 1 ∧ ((p && (pc && pe')) = true → Ex H1 Hn) ∧
        (∀ j ∈ vs, ∀ s, ρ'[j]? = some s → s = .un) ∧ (lcL T1 (ds.drop (i + 1)) ρ').wp (fun z => EvP B F H σ (p && (pc && pe')) Q (.own (accD ++ z.1), unwipe vs ρ1 z.2)) (fun _ => False), fun H2 n => ⟨ds.length - (i + 1), by omega, rfl, hlt, n⟩, fun x H2 y => ?_⟩
      obtain ⟨_, gr, tk⟩ := yl x H2 y F' e' R'.kept.ex
      have ed : ds.drop i = d :: ds.drop (i + 1) := by
        rw [List.drop_eq_getElem_cons hlt]
        rw [List.getElem?_eq_getElem hlt] at hd
        rw [Option.some.inj hd]
      rw [ed] at q'
      replace q' := wp_bind (c := T1 d ρ') q'
      have R2 : Rel Bk F' H2 ρ' (wipe σ vs) := R'.add gr
      have h2D := gr.hh _ _ hDl
      have hixs : ∀ j ∈ t.ix, j ∈ vs := fun j hj => by
        have := List.all_eq_true.mp hix j hj
        simpa using this
      replace q' : ((opt (putT t d ρ')).bind fun ρ => (c Φ ρ).bind fun b => match b.1 with
        | .val (.bool true) => (oOf e Φ b.2).bind fun y => Out.ok (some y.1, wipeE vs y.2)
        | .val (.bool false) => .ok (none, wipeE vs b.2)
        | _ => .stuck).wp _ (fun _ => False) := q'
      cases g : putT t d ρ' with
      | none => rw [g] at q'; exact q'.elim
      | some ρ2 =>
        rw [g] at q'
        rw [← hK]
        have h1 : tgOf Bk.K t x (wipe σ vs) H2 (fun σ2 H3 => H3 = H2 ∧ Rel Bk F' H2 ρ2 σ2) := put_ok (B := Bk) g tk R2 (fun _ _ => Nat.zero_le _) fun σ2 R3 => ⟨rfl, R3⟩
        refine tgOf_mono (tgOf_wipe (B := Bk) (H := H2) hixs wipe_wipe h1) fun σ2 H2' ⟨hw, eH, R3⟩ => ?_
        subst eH
        refine ⟨hw, ?_⟩
        have l2 : σ2.length = σ.length := by rw [← wipe_length σ2 vs, hw, lw]
        replace q' : ((c Φ ρ2).bind fun b => match b.1 with
          | .val (.bool true) => (oOf e Φ b.2).bind fun y => Out.ok (some y.1, wipeE vs y.2)
          | .val (.bool false) => .ok (none, wipeE vs b.2)
          | _ => .stuck).wp (fun a => ((lcL T1 (List.drop (i + 1) ds) a.2).bind fun z => Out.ok (a.1.toList ++ z.1, z.2)).wp (fun z => EvP B F H σ (p && (pc && pe')) Q (Slot.own (accD ++ z.1), unwipe vs ρ1 z.2)) fun _ => False) (fun _ => False) := q'
        -- behind the test
        have tail : ∀ (k : Bool) (F3 H3 : Hp) (ρ3 : Env), Rel Bk F3 H3 ρ3 σ2 → Ex F' F3 → F3 D = none → H3 D = some (.lst accV) → (pc = true → Ex H2' H3) →
            ((match k with
              | true => (oOf e Φ ρ3).bind fun y => Out.ok (some y.1, wipeE vs y.2)
              | false => Out.ok (none, wipeE vs ρ3)).wp (fun a => ((lcL T1 (List.drop (i + 1) ds) a.2).bind fun z => Out.ok (a.1.toList ++ z.1, z.2)).wp (fun z => EvP B F H σ (p && (pc && pe')) Q (Slot.own (accD ++ z.1), unwipe vs ρ1 z.2)) fun _ => False) (fun _ => False)) →
            if k = true then wEB X scope elt σ2 H3 fun y H4 => ∃ acc, H4 D = some (.lst acc) ∧ acc.length < sizeLine ∧ (∃ (F' : Hp) (ρ' : Env) (accD : List PyData) (accV : List V), Rel Bk F' (upd H4 D (.lst (acc ++ [y]))) ρ' (wipe σ vs) ∧ Ex F1 F' ∧ F' D = none ∧ upd H4 D (.lst (acc ++ [y])) D = some (.lst accV) ∧ RpAll B.K F' accD accV ∧ accD.length ≤ i + 1 ∧ ((p && (pc && pe')) = true → Ex H1 (upd H4 D (.lst (acc ++ [y])))) ∧
              (∀ j ∈ vs, ∀ s, ρ'[j]? = some s → s = .un) ∧ (lcL T1 (ds.drop (i + 1)) ρ').wp (fun z => EvP B F H σ (p && (pc && pe')) Q (.own (accD ++ z.1), unwipe vs ρ1 z.2)) (fun _ => False))
            else ∃ (F' : Hp) (ρ' : Env) (accD : List PyData) (accV : List V), Rel Bk F' H3 ρ' (wipe σ vs) ∧ Ex F1 F' ∧ F' D = none ∧ H3 D = some (.lst accV) ∧ RpAll B.K F' accD accV ∧ accD.length ≤ i + 1 ∧ ((p && (pc && pe')) = true → Ex H1 H3) ∧
              (∀ j ∈ vs, ∀ s, ρ'[j]? = some s → s = .un) ∧ (lcL T1 (ds.drop (i + 1)) ρ').wp (fun z => EvP B F H σ (p && (pc && pe')) Q (.own (accD ++ z.1), unwipe vs ρ1 z.2)) (fun _ => False) := by
          intro k F3 H3 ρ3 R4 e3 f3 h3 p3 qk
          have n3 : ¬ owned ρ3 σ2 D := Rel.notD RD R4 l2 hD1 nD
          have unw : ∀ (ρx : Env), ∀ j ∈ vs, ∀ s, (wipeE vs ρx)[j]? = some s → s = .un := fun ρx j hj s q => by
            by_cases z : s = .un
            · exact z
            · exact absurd hj (wipeE_get q z).2
          cases k with
          | false =>
            refine iteF ⟨F3, wipeE vs ρ3, accD, accV, R4.wipe rfl hw, e'.trans e3, f3, h3, ra.mono e3, by omega, fun z => ?_, unw ρ3, ?_⟩
            · have z' := z
              simp only [Bool.and_eq_true] at z'
              exact ((pu z).trans gr.hh).trans (p3 z'.2.1)
            · have qk := wp_bind (c := lcL T1 (List.drop (i + 1) ds) (wipeE vs ρ3)) qk
              exact wp_mono qk (fun _ z => z) fun _ z => z
          | true =>
            refine iteT fun s' H0' Cc cl fp => ?_
            refine snd_oOf he (X.blk s' H0' scope (compEnvC scope cl Cc X.env) fp) Φ (Bk.re F3 H3 ρ3 σ2) F3 H3 ρ3 σ2 _ (fun _ _ _ _ => False) (ctx_blk C) hK takesN R4.re (wp_mono (wp_bind (c := oOf e Φ ρ3) qk) (fun y qy vy F4 H4 R5 e4 p4 hvy => ?_) fun _ z => z.elim)
            obtain ⟨y, ρ4⟩ := y
            have R5 : Rel (Bk.re F3 H3 ρ3 σ2) F4 H4 ρ4 σ2 := R5
            obtain ⟨f4, h4⟩ := R5.stays h3 f3 n3
            have R6 : Rel Bk F4 H4 ρ4 σ2 := R4.un R5
            have n4 : ¬ owned ρ4 σ2 D := Rel.notD RD R6 l2 hD1 nD
            have la' : accV.length = accD.length := (rpAll_len ra).symm
            refine ⟨accV, h4, lt_line (by omega), F4, wipeE vs ρ4, accD ++ [y], accV ++ [vy], (R6.other f4 (.inl LaD) n4).wipe rfl hw, (e'.trans e3).trans e4, f4, upd_same, RpAll.app (ra.mono (e3.trans e4)) (.cons hvy .nil), by rw [List.length_append, List.length_singleton]; omega, fun z => ?_, unw ρ4, ?_⟩
            · have z' := z
              simp only [Bool.and_eq_true] at z'
              exact Ex.put ((((pu z).trans gr.hh).trans (p3 z'.2.1)).trans (p4 z'.2.2)) hD
            · have qy := wp_bind (c := lcL T1 (List.drop (i + 1) ds) (wipeE vs ρ4)) qy
              refine wp_mono qy (fun z qz => ?_) fun _ z => z
              have qz : EvP B F H σ (p && (pc && pe')) Q (Slot.own (accD ++ ([y] ++ z.1)), unwipe vs ρ1 z.2) := qz
              rw [List.append_assoc]
              exact qz
        have n2 : ¬ owned ρ2 σ2 D := Rel.notD RD R3 l2 hD1 nD
        cases hc with
        | no => exact tail true F' H2' ρ2 R3 (.refl F') fD h2D (fun _ => .refl _) q'
        | one hT =>
          intro s' H0' Cc cl fp
          refine hT (X.blk s' H0' scope (compEnvC scope cl Cc X.env) fp) Φ (Bk.re F' H2' ρ2 σ2) F' H2' ρ2 σ2 _ (fun _ _ _ _ => False) (ctx_blk C) hK takesN R3.re (wp_mono (wp_bind (c := c Φ ρ2) q') (fun b qb => ?_) fun _ z => z.elim)
          obtain ⟨sb, ρ3⟩ := b
          cases sb with
          | val zb =>
            cases zb with
            | bool k =>
              refine ⟨k, rfl, fun F3 H3 R4 e3 p3 => ?_⟩
              obtain ⟨f3, h3⟩ := Rel.stays R4 h2D fD n2
              cases k with
              | true => exact tail true F3 H3 ρ3 (R3.un R4) e3 f3 h3 p3 qb
              | false => exact tail false F3 H3 ρ3 (R3.un R4) e3 f3 h3 p3 qb
            | _ => exact qb.elim
          | _ => exact qb.elim
    · left
      have ei : i = ds.length := by omega
      subst ei
      refine ⟨hJ.stop _ Hh (e'.trans R'.kept.ex) (Nat.le_refl _), ?_⟩
      rw [List.drop_length] at q'
      have q' : EvP B F H σ (p && (pc && pe')) Q (.own (accD ++ []), unwipe vs ρ1 ρ') := q'
      rw [List.append_nil] at q'
      have RU : Rel B F' Hh (unwipe vs ρ1 ρ') σ := Rel.unblk h0 RD R' un
      refine q' _ F' Hh RU (e1.trans e') (fun z => ?_) ⟨D, _, rfl, fD, hDl, ⟨accV, rfl, ra⟩, h0, fun j t qj qt em => ?_⟩
      · have z' := z
        rw [Bool.and_eq_true] at z'
        exact (e2 z'.1).trans (pu z)
      · rcases unwipe_get qj with ⟨_, d', z, _⟩ | z
        · rw [z] at qt; cases qt
        · have nv : j ∉ vs := fun mm => by rw [un j mm t z] at qt; cases qt
          exact Rel.notD RD R' lw hD1 nD ⟨j, t, z, qt, by rw [wipe_ne nv]; exact em⟩
theorem snd_lc (hs : SndI Γ tg iter s p t.isTp) (ht : TgtOk Γ.N (blkG scope Γ.sc) tg t) (hix : t.ix.all (fun i => (own.map (·.2)).contains i) = true) (hb : blkC Γ.N Γ.sc scope own = true) (hc : SndIfs (Γ.inB scope) ifs c pc) (he : SndE (Γ.inB scope) elt e pe') (hn : notSet iter = true) :
    SndE Γ (.ListComp elt [⟨tg, iter, ifs, 0⟩] scope pos) (dLc t s c e (own.map (·.2))) (p && (pc && pe')) := by
  intro X Φ B F H ρ σ Q W C hK T R hq
  refine PE.w (pe_lc (own := own) (g := tgOf X.K t) C.calm (by rw [C.nm]; exact C.nd) pi_w (blkOk_by (by rw [C.nm, C.sc]; exact hb)) (fun s H Cc cl fp => TgtOk.pg (Γ := Γ.inB scope) (ctx_blk C) (mayPut_blk C) ht) (fun s H Cc cl fp => pts_b hc) (fun s H Cc cl fp => pe_b) (folded_of hn)) ?_
  exact lc_run hs hix hc he C hK T R hq
theorem dSet_wp {i : Nat} {d : Den} {Φ : Calls} {ρ : Env} {P : Fl × Env → Prop} {E : Exc → Prop} (h : (dSet i d Φ ρ).wp P E) : (d Φ ρ).wp (fun r => P (.nx, r.2.set i r.1)) E := wp_bind (c := d Φ ρ) h
/-- x = [..] -/
theorem snd_setLc {i : Nat} {x : Str} {pos' spos : Pos} (hN : Γ.N[i]? = some x) (hl : Γ.sc.names.lookup x = some .local) (hi : Γ.np ≤ i) (hln : (pos'.line == pos.line) = true) (hno : (scope.names.any fun (n, k) => n == x && (k == .local || k == .cell)) = false)
    (hs : SndI Γ tg iter s p t.isTp) (ht : TgtOk Γ.N (blkG scope Γ.sc) tg t) (hix : t.ix.all (fun i => (own.map (·.2)).contains i) = true) (hb : blkC Γ.N Γ.sc scope own = true) (hc : SndIfs (Γ.inB scope) ifs c pc) (he : SndE (Γ.inB scope) elt e pe') (hn : notSet iter = true) :
    SndS Γ (.Assign [.Name x pos'] (.ListComp elt [⟨tg, iter, ifs, 0⟩] scope pos) spos) (dSet i (dLc t s c e (own.map (·.2)))) := by
  intro X Φ B F H ρ σ D W C BO bo hK T R hq
  have hl' : X.env.scope.names.lookup x = some .local := by rw [C.sc]; exact hl
  have hsw : swapsWith (.ListComp elt [⟨tg, iter, ifs, 0⟩] scope pos) (some (.Name x pos')) spos.line X.env = pure true := sw_true BO.fk hl' hln hno
  have hN' : X.N[i]? = some x := by rw [C.nm]; exact hN
  have hnd : X.N.Nodup := by rw [C.nm]; exact C.nd
  have hbk : BlkOk X.N X.env.scope scope own := blkOk_by (by rw [C.nm, C.sc]; exact hb)
  have P : PS X (.Assign [.Name x pos'] (.ListComp elt [⟨tg, iter, ifs, 0⟩] scope pos) spos) (tAsg (tLc (wI X tg iter) (tgOf X.K t) (wTB X scope ifs) (wEB X scope elt) (own.map (·.2))) (gName i)) :=
    ps_setLc C.calm hnd hN' hl' hsw pi_w hbk (fun s H Cc cl fp => TgtOk.pg (Γ := Γ.inB scope) (ctx_blk C) (mayPut_blk C) ht) (fun s H Cc cl fp => pts_b hc) (fun s H Cc cl fp => pe_b) (folded_of hn)
  refine PS.w P ?_
  show tLc (wI X tg iter) (tgOf X.K t) (wTB X scope ifs) (wEB X scope elt) (own.map (·.2)) σ H (fun v H1 => D.nx (σ.set i (some v)) H1)
  exact lc_run hs hix hc he C hK T R (wp_mono (dSet_wp hq) (fun r q v F1 H1 R1 e1 _ hv => q (σ.set i (some v)) F1 H1 (R1.put hv i (Nat.le_trans bo.vs hi)) e1) ExS.ex)
end
end Dn

/-! Den8: a def's promise from its body's meaning; all defs of a text; the law. -/
namespace Dn
open PySem PySem.Spec L2
open PyProof.Rows hiding St

/-- an own argument is still told at the end -/
def outsOk : List Slot → List Slot → Bool
  | [], _ => true
  | a :: as, o :: os => (!a.isOwn || (match o with
    | .un => false
    | .scr _ => false
    | _ => true)) && outsOk as os
  | _ :: _, [] => false
def fin (as : List Slot) (np : Nat) (s : Slot) (ρ : Env) : Out (Slot × List Slot) := guard' (outsOk as (ρ.take np)) (.ok (s, ρ.take np))
def dBody (np n : Nat) (b : DenS) (Φ : Calls) (as : List Slot) : Out (Slot × List Slot) := (b Φ (as ++ List.replicate (n - np) .un)).bind fun r => match r.1 with
  | .ret s => fin as np s r.2
  | .nx => fin as np (.val .none) r.2
  | _ => .stuck
theorem outsOk_get : ∀ {as os : List Slot}, outsOk as os = true → ∀ {i : Nat} {s : Slot}, as[i]? = some s → s.isOwn = true → ∃ o, os[i]? = some o ∧ o ≠ .un ∧ ∀ ns, o ≠ .scr ns
  | [], _, _, _, _, h, _ => by simp at h
  | a :: as, [], h, _, _, _, _ => by cases h
  | a :: as, o :: os, h, 0, s, e, hs => by
    unfold outsOk at h
    simp only [List.getElem?_cons_zero, Option.some.injEq] at e
    subst e
    rw [hs] at h
    simp only [Bool.not_true, Bool.false_or, Bool.and_eq_true] at h
    refine ⟨o, rfl, ?_, ?_⟩
    · intro z; subst z; exact Bool.noConfusion h.1
    · intro ns z; subst z; exact Bool.noConfusion h.1
  | a :: as, o :: os, h, i + 1, s, e, hs => by
    unfold outsOk at h
    simp only [Bool.and_eq_true] at h
    obtain ⟨o', h1, h2⟩ := outsOk_get h.2 (i := i) (by simpa using e) hs
    exact ⟨o', by simpa using h1, h2⟩

/-- a text's def -/
structure DefI where
  name : Str
  st : Stmt
  ps : List Str
  N : List Str
  b : DenS
/-- what all defs share -/
structure Tx where
  defs : List DefI
  gints : List (Str × Int)
  gstrs : List (Str × Str)
  blts : List Str
  exs : List (Str × Str)
def Tx.ctx (T : Tx) (d : DefI) : Ctx := ⟨d.N, defScope d.st, d.ps.length, T.defs.map fun d => (d.name, d.ps.length), T.gints, T.gstrs, T.blts, T.exs⟩
def Tx.find (T : Tx) (x : Str) : Option DefI := T.defs.find? fun d => d.name == x
def Tx.run (T : Tx) : Nat → Calls
  | 0, _, _ => .stuck
  | n + 1, x, as => match T.find x with
    | some d => dBody d.ps.length d.N.length d.b (T.run n) as
    | none => .stuck
/-- how the top has left them -/
structure Tx.Stand (T : Tx) (K : PySem.W.Frag) (mg : Str → Option Value) : Prop where
  fn : ∀ d ∈ T.defs, ∃ f fd, Fun K d.name d.name d.st f fd ∧ L2.Binds K fd d.ps [] ∧ mg d.name = some (.ref f)
  gints : ∀ p ∈ T.gints, ∃ t, mg p.1 = some (.int p.2 t)
  gstrs : ∀ p ∈ T.gstrs, ∃ t, mg p.1 = some (.str p.2 t)
  blt : ∀ x ∈ T.blts, mg x = none
  exs : ∀ p ∈ T.exs, ∃ C : Addr, mg p.1 = some (.ref C) ∧ ExF K C
/-- each def's meaning is shown -/
structure Tx.Ok (T : Tx) : Prop where
  sc : ∀ d ∈ T.defs, FnScope d.N d.ps (defScope d.st)
  snd : ∀ d ∈ T.defs, SndSs (T.ctx d) (defBody d.st) d.b
  uniq : ∀ d ∈ T.defs, T.find d.name = some d

section
variable {P : Program} {w : World} {K : PySem.W.Frag} {mg : Str → Option Value} {base : Heap} {T : Tx}
theorem start_get {N : List Str} {vs : List V} {i : Nat} (h : i < vs.length) : (L2.start N vs)[i]? = (vs.map some)[i]? := by
  unfold L2.start
  rw [List.getElem?_append_left (by simpa using h)]
theorem Tx.fn_ok (S : T.Stand K mg) (O : T.Ok) (ho : T.exs ≠ [] → HotOk P w K mg base T.exs) : ∀ (n : Nat) (d : DefI), d ∈ T.defs → ∃ f fd, Fun K d.name d.name d.st f fd ∧ mg d.name = some (.ref f) ∧ PySem.W.keepIn K (.ref f) = true ∧ L2.Binds K fd d.ps [] ∧ FnG P w K mg base (L2N.CX P w) (n + 2) f fd d.ps (SpF mg K d.ps.length (T.run n d.name)) := by
  intro n
  induction n with
  | zero =>
    intro d hd
    obtain ⟨f, fd, F, b, g⟩ := S.fn d hd
    exact ⟨f, fd, F, g, F.kp, b, ⟨fun vs H Q E h => h.1, fun A hA outer s H args us vs Q E hr e0 hb r h => by
      obtain ⟨_, _, _, _, _, _, _, z⟩ := h
      exact z.elim⟩⟩
  | succ n ih =>
    intro d hd
    obtain ⟨f, fd, F, b, g⟩ := S.fn d hd
    refine ⟨f, fd, F, g, F.kp, b, ?_⟩
    have hrun : T.run (n + 1) d.name = dBody d.ps.length d.N.length d.b (T.run n) := by
      funext as
      show (match T.find d.name with
        | some d => dBody d.ps.length d.N.length d.b (T.run n) as
        | none => .stuck) = _
      rw [O.uniq d hd]
    rw [hrun]
    refine FnG.of_body F (O.sc d hd) (fun vs H Q E h => h.1) fun cdv A outer s H vs Q E hA hr hsp => ⟨_, pss_w, ?_⟩
    obtain ⟨hv, F0, as, ex, hl, sl, nu, q⟩ := hsp
    generalize hX : cxOf (L2N.CX P w) P w K mg base d.N d.name (defScope d.st) f cdv A outer s H E = X
    have hN : d.ps.length ≤ d.N.length := by
      have := congrArg List.length (O.sc d hd).pre
      rw [List.length_take] at this
      omega
    have C : CtxOk (T.ctx d) (T.run n) X := by
      subst hX
      refine ⟨rfl, rfl, (O.sc d hd).nd, rfl, hr.mono (Nat.zero_le _), hA, fun p hp => ?_, S.gints, S.gstrs, S.blt, S.exs, fun ne => ⟨L2H.roomH_of (hr.mono (by omega)), ho ne⟩⟩
      obtain ⟨d', hd', rfl⟩ := List.mem_map.mp hp
      obtain ⟨f', fd', _, g1, g2, g3, g4⟩ := ih d' hd'
      exact ⟨f', fd', d'.ps, n + 2, g1, rfl, g2, g3, g4, hr⟩
    have BO : BodyOk X := by
      subst hX
      exact ⟨fun _ => rfl, (O.sc d hd).kind, passes_of rfl, rfl, rfl⟩
    have tk : L2N.Takes X (fun cls dd _ H' => E cls dd H') := by
      subst hX
      exact L2N.takes_of rfl rfl rfl rfl
    have hXK : (bdOf K F0 H as vs).K = X.K := by subst hX; rfl
    have hmg : X.mg = mg := by subst hX; rfl
    have bo : BdOk (T.ctx d) (bdOf K F0 H as vs) := ⟨by show vs.length ≤ d.ps.length; omega, fun i a ⟨s, h1, _⟩ => by
      have := (List.getElem?_eq_some_iff.mp h1).1
      show i < d.ps.length
      omega⟩
    -- the slots at the entry
    have gl : ∀ {i : Nat} {s : Slot}, (as ++ List.replicate (d.N.length - d.ps.length) Slot.un)[i]? = some s → s ≠ .un → as[i]? = some s ∧ i < as.length := fun {i s} h n => by
      by_cases z : i < as.length
      · rw [List.getElem?_append_left z] at h; exact ⟨h, z⟩
      · rw [List.getElem?_append_right (by omega), List.getElem?_replicate] at h
        split at h
        · exact absurd (Option.some.inj h).symm n
        · cases h
    have sg : ∀ {i : Nat}, i < as.length → (L2.start d.N vs)[i]? = (vs.map some)[i]? := fun h => start_get (by omega)
    have R : Rel (bdOf K F0 H as vs) F0 H (as ++ List.replicate (d.N.length - d.ps.length) .un) (L2.start d.N vs) := by
      refine ⟨⟨.refl _, ex, fun _ _ h _ => h, fun _ _ h _ => h, fun _ h => h⟩, ⟨?_, fun i e h => ?_, fun i ns h => ?_, fun i s h hs => ?_, fun i v h => ?_, fun i j s t a ne h hs h' hs' e1 e2 => ?_⟩⟩
      · unfold L2.start
        rw [List.length_append, List.length_append, List.length_map, List.length_replicate, List.length_replicate]
        omega
      · obtain ⟨g1, g2⟩ := gl h (fun z => nomatch z)
        rw [sg g2]
        exact sl.val i e g1
      · obtain ⟨g1, g2⟩ := gl h (fun z => nomatch z)
        rw [sg g2]
        exact sl.scr i ns g1
      · obtain ⟨g1, g2⟩ := gl h (fun z => by rw [z] at hs; cases hs)
        rw [sg g2]
        exact sl.own i s g1 hs
      · have : i < vs.length := (List.getElem?_eq_some_iff.mp h).1
        rw [start_get this, List.getElem?_map, show vs[i]? = some v from h]
        rfl
      · obtain ⟨g1, g2⟩ := gl h (fun z => by rw [z] at hs; cases hs)
        obtain ⟨g3, g4⟩ := gl h' (fun z => by rw [z] at hs'; cases hs')
        rw [sg g2] at e1
        rw [sg g4] at e2
        exact sl.dis i j s t a ne g1 hs g3 hs' e1 e2
    refine O.snd d hd X (T.run n) (bdOf K F0 H as vs) F0 H _ _ _ (fun cls dd _ H' => E cls dd H') C BO bo hXK tk R (wp_mono (wp_bind q) (fun r qr => ?_) fun x qx σ' F' H' cls dd k e1 hx => ?_)
    · obtain ⟨fl, ρ'⟩ := r
      -- the end
      have done : ∀ (s : Slot) (v : V) (F' H' : Hp) (σ' : L2.St), (fin as d.ps.length s ρ').wp (fun r => ∀ v F' H', Back K F0 H as vs F' H' r.1 r.2 v → Q v H') (fun x => ∀ F' H' cls dd, Kept (bdOf K F0 H as vs) F' H' → XcIs mg x cls dd K F' H' → E cls dd H') →
          Rel (bdOf K F0 H as vs) F' H' ρ' σ' → Res (bdOf K F0 H as vs) F' H' ρ' σ' s v → Q v H' := fun s v F' H' σ' hf R' hr' => by
        obtain ⟨ho, hf⟩ := wp_guard hf
        refine hf v F' H' ⟨R'.kept, fun i t a h1 h2 h3 => ?_, ?_⟩
        · obtain ⟨o, k1, k2, k3⟩ := outsOk_get ho h1 h2
          have hp : σ'[i]? = some (some (.ref a)) := R'.sl.par i _ h3
          have ko : ρ'[i]? = some o := by
            rw [List.getElem?_take] at k1
            split at k1
            · exact k1
            · cases k1
          refine ⟨o, k1, ?_⟩
          cases ow : o.isOwn with
          | true =>
            obtain ⟨a', u, m1, m2, m3, m4, _⟩ := R'.sl.own i o ko ow
            rw [hp] at m1
            cases m1
            exact .inr ⟨ow, u, m2, m3, m4⟩
          | false =>
            cases o with
            | val e =>
              obtain ⟨v', m1, m2⟩ := R'.sl.val i e ko
              rw [hp] at m1
              cases m1
              exact .inl ⟨e, rfl, m2⟩
            | un => exact absurd rfl k2
            | scr ns => exact absurd rfl (k3 ns)
            | own _ => cases ow
            | odc _ _ => cases ow
        · cases ow : s.isOwn with
          | true =>
            obtain ⟨a, u, m1, m2, m3, m4, m5, _⟩ := (Res.of_own ow).mp hr'
            exact .inr ⟨ow, a, u, m1, m2, m3, m4, m5⟩
          | false =>
            cases s with
            | val e => exact .inl ⟨e, rfl, hr'⟩
            | un => exact hr'.elim
            | scr ns => exact hr'.elim
            | own _ => cases ow
            | odc _ _ => cases ow
      cases fl with
      | nx => exact fun σ' F' H' R' e1 => done (.val .none) .non F' H' σ' qr R' Rp.non
      | ret s => exact fun σ' v F' H' R' e1 hr' => done s v F' H' σ' qr R' hr'
      | brk => exact qr.elim
      | cnt => exact qr.elim
    · rw [hmg] at hx
      rw [← hXK] at hx
      exact qx F' H' cls dd k hx
/-- the law's own end -/
theorem Tx.law_sp {n : Nat} {H : Hp} {a : Addr} {ns : List Int} {φ : List Slot → Out (Slot × List Slot)} {outs : List Slot} (h : φ [.scr ns] = .ok (.val (.bool true), outs)) (hS : SqL K H a (ns.map V.int)) : SpF mg K 1 φ [.ref a] H (fun v _ => v = .bl true) fun _ _ _ => False := by
  refine ⟨rfl, H, [.scr ns], .refl H, rfl, ⟨rfl, fun i d q => ?_, fun i ms q => ?_, fun i s q qs => ?_, fun i v q => ?_, fun i j s t b ne q qs => ?_⟩, fun s hs => ?_, ?_⟩
  · cases i with
    | zero => cases q
    | succ i => simp at q
  · cases i with
    | zero => cases q; exact ⟨a, rfl, hS⟩
    | succ i => simp at q
  · cases i with
    | zero => cases q; cases qs
    | succ i => simp at q
  · cases i with
    | zero => cases q; rfl
    | succ i => simp at q
  · cases i with
    | zero => cases q; cases qs
    | succ i => simp at q
  · simp at hs; subst hs; exact fun z => nomatch z
  · rw [h]
    intro v F' H' b
    rcases b.ret with ⟨d, e, r⟩ | ⟨e, _⟩
    · cases e; cases r; rfl
    · cases e
end
end Dn

/-! Den9: the operations' rules on values. -/
namespace Dn
open PySem PySem.Spec L2
open PyProof.Rows hiding St

/-! ### data without dicts -/
mutual
theorem dp_of {K : PySem.W.Frag} {H : Hp} : ∀ (d : PyData) (v : V), Rp K H d v → d.canLay0 = true → Dp K H v d
  | .none, _, h, _ => by cases h; exact .non
  | .bool b, _, h, _ => by cases h; exact .bl b
  | .int i, _, h, _ => by cases h; exact .int i
  | .str x, _, h, _ => by cases h; exact .str x
  | .list ds, _, h, c => by
    cases h with
    | lst h1 h2 => exact .lst (.inl (.inl h1)) (dpAll_of ds _ h2 (by simpa [PyData.canLay0] using c))
  | .tuple ds, _, h, c => by
    cases h with
    | tup h1 h2 h3 => exact .tup (.inl (.inr ⟨_, h1⟩)) (dpAll_of ds _ h3 (by simpa [PyData.canLay0] using c))
  | .dict es, _, _, c => by simp [PyData.canLay0] at c
theorem dpAll_of {K : PySem.W.Frag} {H : Hp} : ∀ (ds : List PyData) (vs : List V), RpAll K H ds vs → PyData.canLayAll0 ds = true → DpAll K H vs ds
  | [], _, h, _ => by cases h; exact .nil
  | d :: ds, _, h, c => by
    cases h with
    | cons h1 h2 =>
      simp only [PyData.canLayAll0, Bool.and_eq_true] at c
      exact .cons (dp_of d _ h1 c.1) (dpAll_of ds _ h2 c.2)
end
theorem shaped_lay {d : PyData} (h : SeqAt.shaped d = true) : d.canLay0 = true := SeqAt.canLay_of_shaped h
theorem dp_bp {K : PySem.W.Frag} {F H : Hp} {d : PyData} {v : V} (e : Ex F H) (b : Bp K F H d v) (h : SeqAt.shaped d = true) : Dp K H v d := dp_of d v (b.rp e) (shaped_lay h)

/-! ### helpers -/
theorem room_u {A : Around} (r : Room 0 A) : A.units + 65 < cLine := by have := r.un; omega
/-- an operation's outcome that is no new thing -/
theorem pq_val {K : PySem.W.Frag} {F H : Hp} {Q : VK} {d : PyData} {v : V} (e : Ex F H) (q : PQ K F H Q (.val d)) (r : Rp K F d v) : Q v H := q v F H (.refl e) r
/-- a new tuple -/
theorem pq_tup {K : PySem.W.Frag} {F H : Hp} {Q : VK} {ds : List PyData} {vs : List V} {p : Addr} {o : Obj} (e : Ex F H) (q : PQ K F H Q (.val (.tuple ds))) (hp : H p = none) (ho : o.dict = none) (r : RpAll K F ds vs) : Q (.ref p) (upd H p (.frz o (.tup vs))) :=
  q _ _ _ (.new e hp) (.tup upd_same ho (r.mono (.new (e.free hp))))
/-- a result that stands already -/
theorem pq_old {K : PySem.W.Frag} {F H : Hp} {Q : VK} {d : PyData} {v : V} (e : Ex F H) (q : PQ K F H Q (.val d)) (r : Rp K F d v) : Q v H := pq_val e q r
section
variable {K : PySem.W.Frag} {F H : Hp} {v : V}
/-- a list or a tuple among the operands -/
theorem Bp.seq {d : PyData} {ds : List PyData} (e : Ex F H) (b : Bp K F H d v) (h : d = .list ds ∨ d = .tuple ds) : ∃ a vs, v = .ref a ∧ (SqL K H a vs ∨ SqT K H a vs) ∧ RpAll K F ds vs := by
  rcases h with rfl | rfl
  · obtain ⟨a, vs, h1, h2, h3⟩ := b.lst e
    exact ⟨a, vs, h1, .inl (.inl (.inl h2)), h3⟩
  · obtain ⟨a, o, vs, h1, h2, h3, h4⟩ := b.tup
    exact ⟨a, vs, h1, .inr (.inl (.inr ⟨o, e _ _ h2⟩)), h4⟩
theorem atI_rp {ds : List PyData} {vs : List V} {i : Int} {d : PyData} (r : RpAll K F ds vs) (h : atI ds i = some d) : ∃ w, atI vs i = some w ∧ Rp K F d w := by
  unfold atI at h ⊢
  rw [← r.length]
  cases z : ixN ds.length i with
  | none => rw [z] at h; cases h
  | some j =>
    rw [z] at h
    exact RpAll.at' r (show ds[j]? = some d from h)
end

/-! ### whole numbers -/
def pI2 (C : Int → Int → Bool) (g : Int → Int → PyData) : Prim
  | [.int i, .int j] => if C i j then some (.val (g i j)) else none
  | _ => none
def big2 (i j : Int) : Bool := decide (i.natAbs.log2 + j.natAbs.log2 < 1000000)
theorem pI2_inv {C : Int → Int → Bool} {g : Int → Int → PyData} {ds : List PyData} {s : Slot} (h : pI2 C g ds = some s) : ∃ i j, ds = [.int i, .int j] ∧ C i j = true ∧ s = .val (g i j) := by
  unfold pI2 at h
  split at h
  · rename_i i j
    by_cases c : C i j = true
    · rw [if_pos c] at h; exact ⟨i, j, rfl, c, (Option.some.inj h).symm⟩
    · rw [if_neg c] at h; cases h
  · cases h
theorem rule_I {C : Int → Int → Prop} {c : Int → Int → Bool} {g : Int → Int → V} {g' : Int → Int → PyData} {K : PySem.W.Frag} (hc : ∀ i j, c i j = true → C i j) (hg : ∀ F i j, Rp K F (g' i j) (g i j)) : Rule K (rr2 (rI C g)) (pI2 c g') := by
  intro F H ds vs Q s e hb hs q
  obtain ⟨i, j, rfl, hC, rfl⟩ := pI2_inv hs
  obtain ⟨v, w, rfl, h1, h2⟩ := hb.two
  exact ⟨_, _, rfl, i, j, h1.int, h2.int, hc i j hC, pq_val e q (hg F i j)⟩
theorem rule_I0 {c : Int → Int → Bool} {g : Int → Int → V} {g' : Int → Int → PyData} {K : PySem.W.Frag} (hg : ∀ F i j, Rp K F (g' i j) (g i j)) : Rule K (rr2 (rI0 g)) (pI2 c g') := by
  intro F H ds vs Q s e hb hs q
  obtain ⟨i, j, rfl, hC, rfl⟩ := pI2_inv hs
  obtain ⟨v, w, rfl, h1, h2⟩ := hb.two
  exact ⟨_, _, rfl, i, j, h1.int, h2.int, pq_val e q (hg F i j)⟩
def yes2 (_ _ : Int) : Bool := true
def pSub : Prim := pI2 yes2 fun i j => .int (i - j)
def pDiv : Prim := pI2 (fun _ j => decide (0 < j) && decide (j.natAbs.log2 < 9000)) fun i j => .int (i / j)
def pMod : Prim := pI2 (fun _ j => decide (0 < j)) fun i j => .int (i % j)
def pPow : Prim := pI2 (fun i j => decide (0 ≤ j) && decide (j ≤ 1000000) && decide (i.natAbs < 2 ^ 64)) fun i j => .int (i ^ j.toNat)
def pShl : Prim := pI2 (fun i j => decide (0 ≤ j) && decide (j ≤ 1000000) && decide (i.natAbs < 2 ^ 64)) fun i j => .int (i * 2 ^ j.toNat)
def pShr : Prim := pI2 (fun _ j => decide (0 ≤ j)) fun i j => .int (i / 2 ^ j.toNat)
def pAndI : Prim := pI2 yes2 fun i j => .int (Builtin.bitAnd i j)
def pLt : Prim := pI2 yes2 fun i j => .bool (decide (i < j))
def pLe : Prim := pI2 yes2 fun i j => .bool (decide (i ≤ j))
def pGt : Prim := pI2 yes2 fun i j => .bool (decide (j < i))
def pGe : Prim := pI2 yes2 fun i j => .bool (decide (j ≤ i))
def pNeg : Prim
  | [.int i] => some (.val (.int (-i)))
  | _ => none
theorem rl_neg (K : PySem.W.Frag) : Rule K (rr1 (rU fun i => .int (-i))) pNeg := by
  intro F H ds vs Q s e hb hs q
  unfold pNeg at hs
  split at hs
  · rename_i i
    cases hs
    obtain ⟨v, rfl, h1⟩ := hb.one
    exact ⟨_, rfl, i, h1.int, pq_val e q (.int _)⟩
  · cases hs
section
variable {Γ : Ctx} {d : DenOs} {p : Bool} {pos : Pos} {a b : Expr}
theorem e_sub (h : SndOs Γ [a, b] d p) : SndE Γ (.BinOp a .Sub b pos) (dP pSub d) p := snd_bin (r := fun _ => rI0 fun i j => .int (i - j)) (fun X _ _ => op_sub) (fun K => rule_I0 fun _ _ _ => .int _) h
theorem e_div (h : SndOs Γ [a, b] d p) : SndE Γ (.BinOp a .FloorDiv b pos) (dP pDiv d) p := snd_bin (r := fun _ => rI CDivW fun i j => .int (i / j)) (fun X _ _ => op_fdivW)
  (fun K => rule_I (fun i j z => by simp only [Bool.and_eq_true, decide_eq_true_eq] at z; exact z) fun _ _ _ => .int _) h
theorem e_mod (h : SndOs Γ [a, b] d p) : SndE Γ (.BinOp a .Mod b pos) (dP pMod d) p := snd_bin (r := fun _ => rI (fun _ j => 0 < j) fun i j => .int (i % j)) (fun X _ _ => op_mod)
  (fun K => rule_I (fun i j z => of_decide_eq_true z) fun _ _ _ => .int _) h
theorem e_pow (h : SndOs Γ [a, b] d p) : SndE Γ (.BinOp a .Pow b pos) (dP pPow d) p := snd_bin (r := fun _ => rI CPow fun i j => .int (i ^ j.toNat)) (fun X _ _ => op_pow)
  (fun K => rule_I (fun i j z => by simp only [Bool.and_eq_true, decide_eq_true_eq] at z; exact ⟨z.1.1, z.1.2, z.2⟩) fun _ _ _ => .int _) h
theorem e_shl (h : SndOs Γ [a, b] d p) : SndE Γ (.BinOp a .LShift b pos) (dP pShl d) p := snd_bin (r := fun _ => rI CPow fun i j => .int (i * 2 ^ j.toNat)) (fun X _ _ => op_shl)
  (fun K => rule_I (fun i j z => by simp only [Bool.and_eq_true, decide_eq_true_eq] at z; exact ⟨z.1.1, z.1.2, z.2⟩) fun _ _ _ => .int _) h
theorem e_shr (h : SndOs Γ [a, b] d p) : SndE Γ (.BinOp a .RShift b pos) (dP pShr d) p := snd_bin (r := fun _ => rI (fun _ j => 0 ≤ j) fun i j => .int (i / 2 ^ j.toNat)) (fun X _ _ => op_shr)
  (fun K => rule_I (fun i j z => of_decide_eq_true z) fun _ _ _ => .int _) h
theorem e_andI (h : SndOs Γ [a, b] d p) : SndE Γ (.BinOp a .BitAnd b pos) (dP pAndI d) p := snd_bin (r := fun _ => rI0 fun i j => .int (Builtin.bitAnd i j)) (fun X _ _ => op_and) (fun K => rule_I0 fun _ _ _ => .int _) h
theorem e_neg (h : SndOs Γ [a] d p) : SndE Γ (.UnaryOp .USub a pos) (dP pNeg d) p := snd_un (r := rU fun i => .int (-i)) (fun X => un_neg) rl_neg h
theorem e_lt (h : SndOs Γ [a, b] d p) (hb : notSet b = true) : SndE Γ (.Compare a [.Lt] [b] pos) (dP pLt d) p := snd_cmp (r := fun _ => rI0 fun i j => .bl (decide (i < j))) (fun X _ _ => op_lt) (fun K => rule_I0 fun _ _ _ => .bl _) h hb
theorem e_le (h : SndOs Γ [a, b] d p) (hb : notSet b = true) : SndE Γ (.Compare a [.LtE] [b] pos) (dP pLe d) p := snd_cmp (r := fun _ => rI0 fun i j => .bl (decide (i ≤ j))) (fun X _ _ => op_le) (fun K => rule_I0 fun _ _ _ => .bl _) h hb
theorem e_gt (h : SndOs Γ [a, b] d p) (hb : notSet b = true) : SndE Γ (.Compare a [.Gt] [b] pos) (dP pGt d) p := snd_cmp (r := fun _ => rI0 fun i j => .bl (decide (j < i))) (fun X _ _ => op_gt) (fun K => rule_I0 fun _ _ _ => .bl _) h hb
theorem e_ge (h : SndOs Γ [a, b] d p) (hb : notSet b = true) : SndE Γ (.Compare a [.GtE] [b] pos) (dP pGe d) p := snd_cmp (r := fun _ => rI0 fun i j => .bl (decide (j ≤ i))) (fun X _ _ => op_ge) (fun K => rule_I0 fun _ _ _ => .bl _) h hb
theorem t_lt (h : SndOs Γ [a, b] d p) (hb : notSet b = true) : SndT Γ (.Compare a [.Lt] [b] pos) (dP pLt d) p := snd_cmpT (r := fun _ => rI0 fun i j => .bl (decide (i < j))) (fun X _ _ => op_lt) (fun K => rule_I0 fun _ _ _ => .bl _) h hb
theorem t_le (h : SndOs Γ [a, b] d p) (hb : notSet b = true) : SndT Γ (.Compare a [.LtE] [b] pos) (dP pLe d) p := snd_cmpT (r := fun _ => rI0 fun i j => .bl (decide (i ≤ j))) (fun X _ _ => op_le) (fun K => rule_I0 fun _ _ _ => .bl _) h hb
theorem t_gt (h : SndOs Γ [a, b] d p) (hb : notSet b = true) : SndT Γ (.Compare a [.Gt] [b] pos) (dP pGt d) p := snd_cmpT (r := fun _ => rI0 fun i j => .bl (decide (j < i))) (fun X _ _ => op_gt) (fun K => rule_I0 fun _ _ _ => .bl _) h hb
theorem t_ge (h : SndOs Γ [a, b] d p) (hb : notSet b = true) : SndT Γ (.Compare a [.GtE] [b] pos) (dP pGe d) p := snd_cmpT (r := fun _ => rI0 fun i j => .bl (decide (j ≤ i))) (fun X _ _ => op_ge) (fun K => rule_I0 fun _ _ _ => .bl _) h hb
end
theorem ic_lt : IntCmp .Lt fun i j => decide (i < j) := fun X => op_lt
theorem ic_le : IntCmp .LtE fun i j => decide (i ≤ j) := fun X => op_le
theorem ic_gt : IntCmp .Gt fun i j => decide (j < i) := fun X => op_gt
theorem ic_ge : IntCmp .GtE fun i j => decide (j ≤ i) := fun X => op_ge

/-! ### + -/
/-- t + u: its object known -/
def rCatF (K : PySem.W.Frag) : R2 := fun x y H Q => ∃ a b xs ys, x = .ref a ∧ y = .ref b ∧ SqT K H a xs ∧ SqT K H b ys ∧ xs.length + ys.length ≤ sizeLine ∧
  (xs = [] → Q (.ref b) H) ∧ (xs ≠ [] → ys = [] → Q (.ref a) H) ∧ (xs ≠ [] → ys ≠ [] → ∀ p o, H p = none → o.dict = none → Q (.ref p) (upd H p (.frz o (.tup (xs ++ ys)))))
theorem op_catF {X : Cx} : OpR X (binaryOp .Add) (rCatF X.K) := by
  intro pins s σ H x y v u Q I rx ry ⟨a, b, xs, ys, ex, ey, ha, hb, hz, k0, k1, k2⟩
  subst ex
  subst ey
  by_cases hx : xs = []
  · exact op_catA pins s σ H _ _ v u Q I rx ry ⟨a, b, xs, ys, rfl, rfl, ha, hb, hz, k0, k1, fun n => absurd hx n⟩
  · by_cases hy : ys = []
    · exact op_catA pins s σ H _ _ v u Q I rx ry ⟨a, b, xs, ys, rfl, rfl, ha, hb, hz, k0, k1, fun _ n => absurd hy n⟩
    · cases rx; cases ry
      obtain ⟨i1, r1, p1, _⟩ := I.tuple ha
      obtain ⟨i2, r2, p2, _⟩ := I.tuple hb
      have n1 : ∀ {xs : List V} {us : List Value}, Vals xs us → us = [] → xs = [] := fun r z => by subst z; cases r; rfl
      refine HT.cat_tup p1 p2 (fun z => hx (n1 r1 z)) (fun z => absurd (n1 r2 z) hy) (fun _ => ?_) (by rw [← r1.length, ← r2.length]; exact hz)
      exact ⟨.ref s.heap.objs.size, _, laid_tup (t' := s.toks) I (r1.append r2) (by rw [List.length_append]; exact hz), rfl, k2 hx hy _ _ (I.hok.fresh (Nat.le_refl _)) rfl⟩
def rAdd (K : PySem.W.Frag) : R2 := fun x y H Q => (rI0 (fun i j => .int (i + j)) x y H Q ∨ (∃ i j, x = .str i ∧ y = .str j ∧ i.length + j.length ≤ sizeLine ∧ Q (.str (i ++ j)) H)) ∨ (rCat x y H Q ∨ rCatF K x y H Q)
theorem op_addA {X : Cx} : OpR X (binaryOp .Add) (rAdd X.K) := (op_add.or op_add_str).or (op_cat.or op_catF)
def pAdd : Prim
  | [.int i, .int j] => some (.val (.int (i + j)))
  | [.str i, .str j] => if i.length + j.length ≤ 1000000 then some (.val (.str (i ++ j))) else none
  | [.list i, .list j] => if i.length + j.length ≤ 1000000 then some (.own (i ++ j)) else none
  | [.tuple i, .tuple j] => if i.length + j.length ≤ 1000000 then some (.val (.tuple (i ++ j))) else none
  | _ => none
theorem rl_add (K : PySem.W.Frag) : Rule K (rr2 (rAdd K)) pAdd := by
  intro F H ds vs Q s e hb hs q
  unfold pAdd at hs
  split at hs
  · rename_i i j
    cases hs
    obtain ⟨v, w, rfl, h1, h2⟩ := hb.two
    exact ⟨_, _, rfl, .inl (.inl ⟨i, j, h1.int, h2.int, pq_val e q (.int _)⟩)⟩
  · rename_i i j
    split at hs
    · rename_i hl
      cases hs
      obtain ⟨v, w, rfl, h1, h2⟩ := hb.two
      exact ⟨_, _, rfl, .inl (.inr ⟨i, j, h1.str, h2.str, le_line hl, pq_val e q (.str _)⟩)⟩
    · cases hs
  · rename_i i j
    split at hs
    · rename_i hl
      cases hs
      obtain ⟨v, w, rfl, h1, h2⟩ := hb.two
      obtain ⟨a, xs, rfl, k1, k2⟩ := h1.lst e
      obtain ⟨b, ys, rfl, m1, m2⟩ := h2.lst e
      exact ⟨_, _, rfl, .inr (.inl ⟨a, b, xs, ys, rfl, rfl, k1, m1, le_line (by rw [← k2.length, ← m2.length]; exact hl), fun p hp => q p _ hp (k2.app m2)⟩)⟩
    · cases hs
  · rename_i i j
    split at hs
    · rename_i hl
      cases hs
      obtain ⟨v, w, rfl, h1, h2⟩ := hb.two
      obtain ⟨a, o, xs, rfl, k1, k0, k2⟩ := h1.tup
      obtain ⟨b, o', ys, rfl, m1, m0, m2⟩ := h2.tup
      refine ⟨_, _, rfl, .inr (.inr ⟨a, b, xs, ys, rfl, rfl, .inl (.inr ⟨_, e _ _ k1⟩), .inl (.inr ⟨_, e _ _ m1⟩), le_line (by rw [← k2.length, ← m2.length]; exact hl), fun z => ?_, fun _ z => ?_, fun _ _ p o hp ho => pq_tup e q hp ho (k2.app m2)⟩)⟩
      · subst z
        cases k2
        exact pq_val e q (.tup m1 m0 m2)
      · subst z
        cases m2
        rw [List.append_nil] at q
        exact pq_val e q (.tup k1 k0 k2)
    · cases hs
  · cases hs
/-! ### * -/
def rMulA : R2 := fun x y H Q => rI CMulW (fun i j => .int (i * j)) x y H Q ∨ rRep x y H Q
def pMul : Prim
  | [.int i, .int j] => if big2 i j then some (.val (.int (i * j))) else none
  | [.list xs, .int k] => if decide (-(2 ^ 62) ≤ k) && decide (k < 2 ^ 62) && decide (xs.length * k.toNat ≤ 1000000) then some (.own (List.replicate k.toNat xs).flatten) else none
  | _ => none
theorem RpAll.rep {K : PySem.W.Frag} {F : Hp} {ds : List PyData} {vs : List V} (r : RpAll K F ds vs) : ∀ n : Nat, RpAll K F (List.replicate n ds).flatten (List.replicate n vs).flatten
  | 0 => .nil
  | n + 1 => by
    rw [List.replicate_succ, List.replicate_succ, List.flatten_cons, List.flatten_cons]
    exact r.app (RpAll.rep r n)
theorem rl_mul (K : PySem.W.Frag) : Rule K (rr2 rMulA) pMul := by
  intro F H ds vs Q s e hb hs q
  unfold pMul at hs
  split at hs
  · rename_i i j
    split at hs
    · rename_i hl
      cases hs
      obtain ⟨v, w, rfl, h1, h2⟩ := hb.two
      exact ⟨_, _, rfl, .inl ⟨i, j, h1.int, h2.int, (by unfold CMulW; exact of_decide_eq_true hl), pq_val e q (.int _)⟩⟩
    · cases hs
  · rename_i xs k
    split at hs
    · rename_i hl
      cases hs
      simp only [Bool.and_eq_true, decide_eq_true_eq] at hl
      obtain ⟨v, w, rfl, h1, h2⟩ := hb.two
      obtain ⟨a, ys, rfl, k1, k2⟩ := h1.lst e
      exact ⟨_, _, rfl, .inr ⟨a, k, ys, rfl, h2.int, k1, by omega, by omega, le_line (by rw [← k2.length]; exact hl.2), fun p hp => q p _ hp (k2.rep _)⟩⟩
    · cases hs
  · cases hs
/-! ### ==, !=, is None -/
/-- two lists of different lengths, whatever they hold -/
def otherLen : PyData → PyData → Bool
  | .list xs, .list ys => decide (xs.length ≠ ys.length)
  | _, _ => false
def pEq : Prim
  | [.str x, .str y] => some (.val (.bool (x == y)))
  | [x, y] => if SeqAt.shaped x && SeqAt.shaped y then some (.val (.bool (PyData.eqv x y))) else if otherLen x y then some (.val (.bool false)) else none
  | _ => none
def pNe : Prim
  | [.str x, .str y] => some (.val (.bool (!(x == y))))
  | [x, y] => if SeqAt.shaped x && SeqAt.shaped y then some (.val (.bool (!PyData.eqv x y))) else if otherLen x y then some (.val (.bool true)) else none
  | _ => none
def otherL (K : PySem.W.Frag) (x y : V) (H : Hp) : Prop := ∃ a b vs ws, x = .ref a ∧ y = .ref b ∧ SqL K H a vs ∧ SqL K H b ws ∧ vs.length ≠ ws.length
def rEqS (K : PySem.W.Frag) : R2 := fun x y H Q => rEqD K x y H Q ∨ (∃ a b, x = .str a ∧ y = .str b ∧ Q (.bl (a == b)) H) ∨ (otherL K x y H ∧ Q (.bl false) H)
def rNeS (K : PySem.W.Frag) : R2 := fun x y H Q => rNeD K x y H Q ∨ (∃ a b, x = .str a ∧ y = .str b ∧ Q (.bl (!(a == b))) H) ∨ (otherL K x y H ∧ Q (.bl true) H)
theorem op_eqS {X : Cx} (hu : X.A.units + 64 < cLine) : OpR X (compareOp .Eq) (rEqS X.K) := fun pins s σ H x y v u Q I rx ry h => by
  rcases h with h | ⟨a, b, rfl, rfl, q⟩ | ⟨⟨a, b, vs, ws, rfl, rfl, h1, h2, ne⟩, q⟩
  · exact op_eqD hu pins s σ H x y v u Q I rx ry h
  · exact op_eq pins s σ H _ _ v u Q I rx ry ⟨rfl, by rw [dec_str]; exact q⟩
  · cases rx
    cases ry
    obtain ⟨i1, r1, p1, _⟩ := I.list h1
    obtain ⟨i2, r2, p2, _⟩ := I.list h2
    exact SeqAt.eq_list_lengthsAt p1.isList p2.isList (by simpa [← r1.length, ← r2.length] using ne) (by omega) ⟨.bl false, H, I, rfl, q⟩
theorem op_neS {X : Cx} (hu : X.A.units + 64 < cLine) : OpR X (compareOp .NotEq) (rNeS X.K) := fun pins s σ H x y v u Q I rx ry h => by
  rcases h with h | ⟨a, b, rfl, rfl, q⟩ | ⟨⟨a, b, vs, ws, rfl, rfl, h1, h2, ne⟩, q⟩
  · exact op_neD hu pins s σ H x y v u Q I rx ry h
  · exact op_ne pins s σ H _ _ v u Q I rx ry ⟨rfl, by rw [dec_str]; exact q⟩
  · cases rx
    cases ry
    obtain ⟨i1, r1, p1, _⟩ := I.list h1
    obtain ⟨i2, r2, p2, _⟩ := I.list h2
    exact SeqAt.RcNeAt.lists_lengths p1.isList p2.isList (by simpa [← r1.length, ← r2.length] using ne) (by omega) X.prog X.w X.xe _ ⟨.bl true, H, I, rfl, q⟩
theorem rl_eq (K : PySem.W.Frag) : Rule K (rr2 (rEqS K)) pEq := by
  intro F H ds vs Q s e hb hs q
  unfold pEq at hs
  split at hs
  · cases hs
    obtain ⟨v, w, rfl, h1, h2⟩ := hb.two
    exact ⟨_, _, rfl, .inr (.inl ⟨_, _, h1.str, h2.str, pq_val e q (.bl _)⟩)⟩
  · rename_i x y _
    split at hs
    · rename_i hl
      cases hs
      rw [Bool.and_eq_true] at hl
      obtain ⟨v, w, rfl, h1, h2⟩ := hb.two
      exact ⟨_, _, rfl, .inl ⟨x, y, dp_bp e h1 hl.1, dp_bp e h2 hl.2, hl.1, hl.2, pq_val e q (.bl _)⟩⟩
    · split at hs
      · rename_i hl
        cases hs
        obtain ⟨v, w, rfl, h1, h2⟩ := hb.two
        cases x <;> cases y <;> first | (cases hl; done) | skip
        obtain ⟨a, vs, rfl, g1, g2⟩ := h1.lst e
        obtain ⟨b, ws, rfl, g3, g4⟩ := h2.lst e
        exact ⟨_, _, rfl, .inr (.inr ⟨⟨a, b, vs, ws, rfl, rfl, .inl (.inl g1), .inl (.inl g3), by rw [← g2.length, ← g4.length]; exact of_decide_eq_true hl⟩, pq_val e q (.bl _)⟩)⟩
      · cases hs
  · cases hs
theorem rl_ne (K : PySem.W.Frag) : Rule K (rr2 (rNeS K)) pNe := by
  intro F H ds vs Q s e hb hs q
  unfold pNe at hs
  split at hs
  · cases hs
    obtain ⟨v, w, rfl, h1, h2⟩ := hb.two
    exact ⟨_, _, rfl, .inr (.inl ⟨_, _, h1.str, h2.str, pq_val e q (.bl _)⟩)⟩
  · rename_i x y _
    split at hs
    · rename_i hl
      cases hs
      rw [Bool.and_eq_true] at hl
      obtain ⟨v, w, rfl, h1, h2⟩ := hb.two
      exact ⟨_, _, rfl, .inl ⟨x, y, dp_bp e h1 hl.1, dp_bp e h2 hl.2, hl.1, hl.2, pq_val e q (.bl _)⟩⟩
    · split at hs
      · rename_i hl
        cases hs
        obtain ⟨v, w, rfl, h1, h2⟩ := hb.two
        cases x <;> cases y <;> first | (cases hl; done) | skip
        obtain ⟨a, vs, rfl, g1, g2⟩ := h1.lst e
        obtain ⟨b, ws, rfl, g3, g4⟩ := h2.lst e
        exact ⟨_, _, rfl, .inr (.inr ⟨⟨a, b, vs, ws, rfl, rfl, .inl (.inl g1), .inl (.inl g3), by rw [← g2.length, ← g4.length]; exact of_decide_eq_true hl⟩, pq_val e q (.bl _)⟩)⟩
      · cases hs
  · cases hs
def isNone : PyData → Bool
  | .none => true
  | _ => false
def pIsN : Prim
  | [x, .none] => some (.val (.bool (isNone x)))
  | _ => none
def pIsNN : Prim
  | [x, .none] => some (.val (.bool (!isNone x)))
  | _ => none
theorem isN_of {K : PySem.W.Frag} {F H : Hp} {x : PyData} {v : V} (e : Ex F H) (b : Bp K F H x v) : decide (v = .non) = isNone x := by
  have r := b.rp e
  cases x with
  | none => cases r; rfl
  | _ => cases r <;> rfl
theorem rl_isN (K : PySem.W.Frag) : Rule K (rr2 fun x y H Q => y = .non ∧ Q (.bl (decide (x = .non))) H) pIsN := by
  intro F H ds vs Q s e hb hs q
  unfold pIsN at hs
  split at hs
  · rename_i x
    cases hs
    obtain ⟨v, w, rfl, h1, h2⟩ := hb.two
    refine ⟨_, _, rfl, h2.non, ?_⟩
    rw [isN_of e h1]
    exact pq_val e q (.bl _)
  · cases hs
theorem rl_isNN (K : PySem.W.Frag) : Rule K (rr2 fun x y H Q => y = .non ∧ Q (.bl (!decide (x = .non))) H) pIsNN := by
  intro F H ds vs Q s e hb hs q
  unfold pIsNN at hs
  split at hs
  · rename_i x
    cases hs
    obtain ⟨v, w, rfl, h1, h2⟩ := hb.two
    refine ⟨_, _, rfl, h2.non, ?_⟩
    rw [isN_of e h1]
    exact pq_val e q (.bl _)
  · cases hs
/-! ### in -/
def anyEq (ds : List PyData) (x : PyData) : Bool := ds.any fun z => PyData.eqv z x
def pIn : Prim
  | [x, .list ds] => if SeqAt.shaped x && SeqAt.shaped (.list ds) then some (.val (.bool (anyEq ds x))) else none
  | [x, .tuple ds] => if SeqAt.shaped x && SeqAt.shaped (.tuple ds) then some (.val (.bool (anyEq ds x))) else none
  | _ => none
def pNin : Prim
  | [x, .list ds] => if SeqAt.shaped x && SeqAt.shaped (.list ds) then some (.val (.bool (!anyEq ds x))) else none
  | [x, .tuple ds] => if SeqAt.shaped x && SeqAt.shaped (.tuple ds) then some (.val (.bool (!anyEq ds x))) else none
  | _ => none
def rInT (K : PySem.W.Frag) (n : Bool) : R2 := fun x y H Q => ∃ d ds, Dp K H x d ∧ Dp K H y (.tuple ds) ∧ SeqAt.shaped d = true ∧ SeqAt.shaped (.tuple ds) = true ∧ Q (.bl (n != ds.any fun z => PyData.eqv z d)) H
theorem op_inT {X : Cx} (hu : X.A.units + 65 < cLine) : OpR X (compareOp .In) (rInT X.K false) := by
  intro pins s σ H x y v u Q I rx ry ⟨d, ds, hd, he, sd, se, q⟩
  obtain ⟨as, w1⟩ := Dp.reads I d x v hd rx
  obtain ⟨bs, w2⟩ := Dp.reads I (.tuple ds) y u he ry
  refine SeqAt.in_tuple_reads w2 w1 (by simpa [PyData.canLay0] using shaped_lay se) (shaped_lay sd) (room_in_shaped sd hu) ⟨.bl _, H, I, rfl, ?_⟩
  rw [Bool.false_bne] at q
  exact q
theorem op_ninT {X : Cx} (hu : X.A.units + 65 < cLine) : OpR X (compareOp .NotIn) (rInT X.K true) := by
  intro pins s σ H x y v u Q I rx ry ⟨d, ds, hd, he, sd, se, q⟩
  obtain ⟨as, w1⟩ := Dp.reads I d x v hd rx
  obtain ⟨bs, w2⟩ := Dp.reads I (.tuple ds) y u he ry
  refine SeqAt.notIn_tuple_reads w2 w1 (by simpa [PyData.canLay0] using shaped_lay se) (shaped_lay sd) (room_in_shaped sd hu) ⟨.bl _, H, I, rfl, ?_⟩
  rw [Bool.true_bne] at q
  exact q
theorem rl_in (K : PySem.W.Frag) : Rule K (rr2 fun x y H Q => rInD K x y H Q ∨ rInT K false x y H Q) pIn := by
  intro F H ds vs Q s e hb hs q
  unfold pIn at hs
  split at hs
  · rename_i x ds
    split at hs
    · rename_i hl
      cases hs
      rw [Bool.and_eq_true] at hl
      obtain ⟨v, w, rfl, h1, h2⟩ := hb.two
      exact ⟨_, _, rfl, .inl ⟨x, ds, dp_bp e h1 hl.1, dp_bp e h2 hl.2, hl.1, hl.2, pq_val e q (.bl _)⟩⟩
    · cases hs
  · rename_i x ds
    split at hs
    · rename_i hl
      cases hs
      rw [Bool.and_eq_true] at hl
      obtain ⟨v, w, rfl, h1, h2⟩ := hb.two
      refine ⟨_, _, rfl, .inr ⟨x, ds, dp_bp e h1 hl.1, dp_bp e h2 hl.2, hl.1, hl.2, ?_⟩⟩
      rw [Bool.false_bne]
      exact pq_val e q (.bl _)
    · cases hs
  · cases hs
theorem rl_nin (K : PySem.W.Frag) : Rule K (rr2 fun x y H Q => rNotInD K x y H Q ∨ rInT K true x y H Q) pNin := by
  intro F H ds vs Q s e hb hs q
  unfold pNin at hs
  split at hs
  · rename_i x ds
    split at hs
    · rename_i hl
      cases hs
      rw [Bool.and_eq_true] at hl
      obtain ⟨v, w, rfl, h1, h2⟩ := hb.two
      exact ⟨_, _, rfl, .inl ⟨x, ds, dp_bp e h1 hl.1, dp_bp e h2 hl.2, hl.1, hl.2, pq_val e q (.bl _)⟩⟩
    · cases hs
  · rename_i x ds
    split at hs
    · rename_i hl
      cases hs
      rw [Bool.and_eq_true] at hl
      obtain ⟨v, w, rfl, h1, h2⟩ := hb.two
      refine ⟨_, _, rfl, .inr ⟨x, ds, dp_bp e h1 hl.1, dp_bp e h2 hl.2, hl.1, hl.2, ?_⟩⟩
      rw [Bool.true_bne]
      exact pq_val e q (.bl _)
    · cases hs
  · cases hs
/-! ### x[i] -/
def pIx : Prim
  | [.list ds, .int i] => (atI ds i).map .val
  | [.tuple ds, .int i] => (atI ds i).map .val
  | [.str z, .int i] => if z.length ≤ 1000000 then (atI z.cps.toList i).map fun c => .val (.str ⟨#[c]⟩) else none
  | _ => none
theorem rl_ix (K : PySem.W.Frag) : Rule K (rr2 (rIx K)) pIx := by
  intro F H ds vs Q s e hb hs q
  unfold pIx at hs
  split at hs
  · rename_i ds i
    obtain ⟨d, hd, rfl⟩ := Option.map_eq_some_iff.mp hs
    obtain ⟨v, w, rfl, h1, h2⟩ := hb.two
    obtain ⟨a, ys, rfl, k1, k2⟩ := h1.lst e
    obtain ⟨x, m1, m2⟩ := atI_rp k2 hd
    exact ⟨_, _, rfl, .inl ⟨a, ys, i, x, rfl, h2.int, .inl (.inl k1), m1, pq_val e q m2⟩⟩
  · rename_i ds i
    obtain ⟨d, hd, rfl⟩ := Option.map_eq_some_iff.mp hs
    obtain ⟨v, w, rfl, h1, h2⟩ := hb.two
    obtain ⟨a, o, ys, rfl, k1, k0, k2⟩ := h1.tup
    obtain ⟨x, m1, m2⟩ := atI_rp k2 hd
    exact ⟨_, _, rfl, .inr (.inl ⟨a, ys, i, x, rfl, h2.int, .inl (.inr ⟨_, e _ _ k1⟩), m1, pq_val e q m2⟩)⟩
  · rename_i z i
    split at hs
    · rename_i hl
      obtain ⟨c, hc, rfl⟩ := Option.map_eq_some_iff.mp hs
      obtain ⟨v, w, rfl, h1, h2⟩ := hb.two
      exact ⟨_, _, rfl, .inr (.inr ⟨z, i, c, h1.str, h2.int, le_line hl, hc, pq_val e q (.str _)⟩)⟩
    · cases hs
  · cases hs
section
variable {Γ : Ctx} {d : DenOs} {p : Bool} {pos : Pos} {a b : Expr}
theorem e_add (h : SndOs Γ [a, b] d p) : SndE Γ (.BinOp a .Add b pos) (dP pAdd d) p := snd_bin (r := rAdd) (fun X _ _ => op_addA) rl_add h
theorem e_mul (h : SndOs Γ [a, b] d p) : SndE Γ (.BinOp a .Mult b pos) (dP pMul d) p := snd_bin (r := fun _ => rMulA) (fun X _ _ => op_mulW.or op_rep) rl_mul h
theorem e_eq (h : SndOs Γ [a, b] d p) (hb : notSet b = true) : SndE Γ (.Compare a [.Eq] [b] pos) (dP pEq d) p := snd_cmp (r := rEqS) (fun X _ hr => op_eqS (by have := room_u hr; omega)) rl_eq h hb
theorem e_ne (h : SndOs Γ [a, b] d p) (hb : notSet b = true) : SndE Γ (.Compare a [.NotEq] [b] pos) (dP pNe d) p := snd_cmp (r := rNeS) (fun X _ hr => op_neS (by have := room_u hr; omega)) rl_ne h hb
theorem t_eq (h : SndOs Γ [a, b] d p) (hb : notSet b = true) : SndT Γ (.Compare a [.Eq] [b] pos) (dP pEq d) p := snd_cmpT (r := rEqS) (fun X _ hr => op_eqS (by have := room_u hr; omega)) rl_eq h hb
theorem t_ne (h : SndOs Γ [a, b] d p) (hb : notSet b = true) : SndT Γ (.Compare a [.NotEq] [b] pos) (dP pNe d) p := snd_cmpT (r := rNeS) (fun X _ hr => op_neS (by have := room_u hr; omega)) rl_ne h hb
theorem e_is (h : SndOs Γ [a, b] d p) (hb : notSet b = true) : SndE Γ (.Compare a [.Is] [b] pos) (dP pIsN d) p := snd_cmp (r := fun _ => fun x y H Q => y = .non ∧ Q (.bl (decide (x = .non))) H) (fun X _ _ => op_isN) rl_isN h hb
theorem e_isnot (h : SndOs Γ [a, b] d p) (hb : notSet b = true) : SndE Γ (.Compare a [.IsNot] [b] pos) (dP pIsNN d) p := snd_cmp (r := fun _ => fun x y H Q => y = .non ∧ Q (.bl (!decide (x = .non))) H) (fun X _ _ => op_notN) rl_isNN h hb
theorem t_is (h : SndOs Γ [a, b] d p) (hb : notSet b = true) : SndT Γ (.Compare a [.Is] [b] pos) (dP pIsN d) p := snd_cmpT (r := fun _ => fun x y H Q => y = .non ∧ Q (.bl (decide (x = .non))) H) (fun X _ _ => op_isN) rl_isN h hb
theorem t_isnot (h : SndOs Γ [a, b] d p) (hb : notSet b = true) : SndT Γ (.Compare a [.IsNot] [b] pos) (dP pIsNN d) p := snd_cmpT (r := fun _ => fun x y H Q => y = .non ∧ Q (.bl (!decide (x = .non))) H) (fun X _ _ => op_notN) rl_isNN h hb
theorem e_in (h : SndOs Γ [a, b] d p) (hb : notSet b = true) : SndE Γ (.Compare a [.In] [b] pos) (dP pIn d) p := snd_cmp (r := fun K => fun x y H Q => rInD K x y H Q ∨ rInT K false x y H Q) (fun X _ hr => (op_inD (room_u hr)).or (op_inT (room_u hr))) rl_in h hb
theorem e_nin (h : SndOs Γ [a, b] d p) (hb : notSet b = true) : SndE Γ (.Compare a [.NotIn] [b] pos) (dP pNin d) p := snd_cmp (r := fun K => fun x y H Q => rNotInD K x y H Q ∨ rInT K true x y H Q) (fun X _ hr => (op_notInD (room_u hr)).or (op_ninT (room_u hr))) rl_nin h hb
theorem t_in (h : SndOs Γ [a, b] d p) (hb : notSet b = true) : SndT Γ (.Compare a [.In] [b] pos) (dP pIn d) p := snd_cmpT (r := fun K => fun x y H Q => rInD K x y H Q ∨ rInT K false x y H Q) (fun X _ hr => (op_inD (room_u hr)).or (op_inT (room_u hr))) rl_in h hb
theorem t_nin (h : SndOs Γ [a, b] d p) (hb : notSet b = true) : SndT Γ (.Compare a [.NotIn] [b] pos) (dP pNin d) p := snd_cmpT (r := fun K => fun x y H Q => rNotInD K x y H Q ∨ rInT K true x y H Q) (fun X _ hr => (op_notInD (room_u hr)).or (op_ninT (room_u hr))) rl_nin h hb
theorem e_ix (h : SndOs Γ [a, b] d p) (hb : notSlice b = true) : SndE Γ (.Subscript a b pos) (dP pIx d) p := snd_ix (r := rIx) (fun X => ix_seq) rl_ix h hb
end
end Dn

/-! Den10: slices, built-in calls, sorting, reading methods. -/
namespace Dn
open PySem PySem.Spec L2
open PyProof.Rows hiding St

/-! ### a[lo:hi] -/
def cutD (ds : List PyData) (lo hi : Option Int) : List PyData := (ds.drop (HT.sIx ds.length 0 lo)).take (HT.sIx ds.length ds.length hi - HT.sIx ds.length 0 lo)
def rSlF (K : PySem.W.Frag) : V → Option Int → Option Int → Hp → VK → Prop := fun x lo hi H Q => ∃ a xs, x = .ref a ∧ SqT K H a xs ∧
  (HT.sIx xs.length 0 lo = 0 ∧ HT.sIx xs.length xs.length hi = xs.length → Q (.ref a) H) ∧ (¬ (HT.sIx xs.length 0 lo = 0 ∧ HT.sIx xs.length xs.length hi = xs.length) → ∀ p o, H p = none → o.dict = none → Q (.ref p) (upd H p (.frz o (.tup (cutV xs lo hi)))))
theorem sl_tupF {X : Cx} : SlR X (rSlF X.K) := by
  intro pins s σ H x v vl vu lo hi sl Q I rx hs pl pu ⟨a, xs, ea, hx, k1, k2⟩
  subst ea
  by_cases hw : HT.sIx xs.length 0 lo = 0 ∧ HT.sIx xs.length xs.length hi = xs.length
  · exact sl_tupA pins s σ H _ v vl vu lo hi sl Q I rx hs pl pu ⟨a, xs, rfl, hx, k1, fun n => absurd hw n⟩
  · cases rx
    obtain ⟨its, r, ht, hz⟩ := I.tuple hx
    have hn : its.toArray.size = xs.length := by rw [List.size_toArray, ← r.length]
    refine ⟨"tuple", _, PyProof.Rows.slot_tuple_getitem.lookup, ht.typeIs, HT.getItem_tuple_cut ht hs pl pu (by rw [hn]; exact hw) ?_ (by rw [hn]; exact hz)⟩
    rw [hn]
    exact ⟨.ref s.heap.objs.size, _, laid_tup (t' := s.toks) I ((r.drop (HT.sIx xs.length 0 lo)).take (HT.sIx xs.length xs.length hi - HT.sIx xs.length 0 lo)) (Nat.le_trans (cutV_length xs lo hi) hz), rfl, k2 hw _ _ (I.hok.fresh (Nat.le_refl _)) rfl⟩
theorem RpAll.cut {K : PySem.W.Frag} {F : Hp} {ds : List PyData} {vs : List V} (r : RpAll K F ds vs) (lo hi : Option Int) : RpAll K F (cutD ds lo hi) (cutV vs lo hi) := by
  unfold cutD cutV
  rw [← r.length]
  exact (r.drop _).take _
def pSlc (x : PyData) (lo hi : Option Int) : Option Slot := match x with
  | .list ds => some (.own (cutD ds lo hi))
  | .tuple ds => some (.val (.tuple (cutD ds lo hi)))
  | .str z => if z.length ≤ 1000000 then some (.val (.str (cutS z lo hi))) else none
  | _ => none
theorem cut_whole {α : Type} {xs : List α} {a b : Nat} (h1 : a = 0) (h2 : b = xs.length) : (xs.drop a).take (b - a) = xs := by
  subst h1
  subst h2
  rw [List.drop_zero, Nat.sub_zero, List.take_length]
theorem rl_slc (K : PySem.W.Frag) : RuleS K (fun x lo hi H Q => rSlL K x lo hi H Q ∨ rSlF K x lo hi H Q ∨ rSlS x lo hi H Q) pSlc := by
  intro F H x v lo hi Q s e hb hs q
  cases x with
  | list ds =>
    cases hs
    obtain ⟨a, vs, rfl, k1, k2⟩ := hb.lst e
    exact .inl ⟨a, vs, rfl, .inl (.inl k1), fun p hp => q p _ hp (k2.cut lo hi)⟩
  | tuple ds =>
    cases hs
    obtain ⟨a, o, vs, rfl, k1, k0, k2⟩ := hb.tup
    refine .inr (.inl ⟨a, vs, rfl, .inl (.inr ⟨_, e _ _ k1⟩), fun ⟨z1, z2⟩ => ?_, fun _ p o hp ho => pq_tup e q hp ho (k2.cut lo hi)⟩)
    have : cutD ds lo hi = ds := by
      unfold cutD
      rw [← k2.length] at z1 z2
      exact cut_whole z1 z2
    rw [this] at q
    exact pq_val e q (.tup k1 k0 k2)
  | str z =>
    unfold pSlc at hs
    simp only at hs
    split at hs
    · rename_i hl
      cases hs
      exact .inr (.inr ⟨z, hb.str, le_line hl, pq_val e q (.str _)⟩)
    · cases hs
  | _ => cases hs
section
variable {Γ : Ctx} {x : DenO} {l u : Option DenO} {m p p1 p2 : Bool} {pos ppos : Pos} {a : Expr} {lo hi : Option Expr}
theorem e_slc (ha : SndO Γ a x p m) (hl : SndP Γ lo l p1) (hu : SndP Γ hi u p2) (hp : ((p1 && p2) || !m) = true) : SndE Γ (.Subscript a (.Slice lo hi none ppos) pos) (dSl pSlc x l u) (p && (p1 && p2)) :=
  snd_slice (r := fun K x lo hi H Q => rSlL K x lo hi H Q ∨ rSlF K x lo hi H Q ∨ rSlS x lo hi H Q) (fun X => sl_list.or (sl_tupF.or sl_str)) rl_slc ha hl hu hp
end

/-! ### calls of built-ins -/
def pLen : Prim
  | [.list ds] => some (.val (.int ds.length))
  | [.tuple ds] => some (.val (.int ds.length))
  | [.str z] => if z.length ≤ 1000000 then some (.val (.int z.length)) else none
  | _ => none
theorem rl_len (K : PySem.W.Frag) : Rule K (fun xs H Q => (∃ p ys, xs = [.ref p] ∧ (SqL K H p ys ∨ SqT K H p ys) ∧ Q (.int ys.length) H) ∨ (∃ z, xs = [.str z] ∧ z.length ≤ sizeLine ∧ Q (.int z.length) H)) pLen := by
  intro F H ds vs Q s e hb hs q
  unfold pLen at hs
  split at hs
  · rename_i ys
    cases hs
    obtain ⟨v, rfl, h1⟩ := hb.one
    obtain ⟨a, xs, rfl, k1, k2⟩ := h1.seq e (.inl rfl)
    refine .inl ⟨a, xs, rfl, k1, ?_⟩
    rw [← k2.length]
    exact pq_val e q (.int _)
  · rename_i ys
    cases hs
    obtain ⟨v, rfl, h1⟩ := hb.one
    obtain ⟨a, xs, rfl, k1, k2⟩ := h1.seq e (.inr rfl)
    refine .inl ⟨a, xs, rfl, k1, ?_⟩
    rw [← k2.length]
    exact pq_val e q (.int _)
  · rename_i z
    split at hs
    · rename_i hl
      cases hs
      obtain ⟨v, rfl, h1⟩ := hb.one
      exact .inr ⟨z, by rw [h1.str], le_line hl, pq_val e q (.int _)⟩
    · cases hs
  · cases hs
def pAbs : Prim
  | [.int i] => some (.val (.int (if i < 0 then -i else i)))
  | _ => none
theorem rl_abs (K : PySem.W.Frag) : Rule K (fun xs H Q => ∃ i, xs = [.int i] ∧ Q (.int (if i < 0 then -i else i)) H) pAbs := by
  intro F H ds vs Q s e hb hs q
  unfold pAbs at hs
  split at hs
  · cases hs
    obtain ⟨v, rfl, h1⟩ := hb.one
    exact ⟨_, by rw [h1.int], pq_val e q (.int _)⟩
  · cases hs
/-- the whole numbers of a list -/
def numsOf : List PyData → Option (List Int)
  | [] => some []
  | .int i :: ds => (numsOf ds).map (i :: ·)
  | _ :: _ => none
def boolsOf : List PyData → Option (List Bool)
  | [] => some []
  | .bool i :: ds => (boolsOf ds).map (i :: ·)
  | _ :: _ => none
theorem numsOf_rp {K : PySem.W.Frag} {F : Hp} : ∀ {ds : List PyData} {vs : List V} {ns : List Int}, RpAll K F ds vs → numsOf ds = some ns → vs = ns.map V.int
  | [], _, _, r, h => by cases r; cases h; rfl
  | d :: ds, _, ns, r, h => by
    cases r with
    | cons r1 r2 =>
      unfold numsOf at h
      split at h
      · rename_i z; cases z
      · rename_i i ds' z
        cases z
        obtain ⟨ms, h1, rfl⟩ := Option.map_eq_some_iff.mp h
        cases r1
        rw [numsOf_rp r2 h1]
        rfl
      · cases h
theorem boolsOf_rp {K : PySem.W.Frag} {F : Hp} : ∀ {ds : List PyData} {vs : List V} {ns : List Bool}, RpAll K F ds vs → boolsOf ds = some ns → vs = ns.map V.bl
  | [], _, _, r, h => by cases r; cases h; rfl
  | d :: ds, _, ns, r, h => by
    cases r with
    | cons r1 r2 =>
      unfold boolsOf at h
      split at h
      · rename_i z; cases z
      · rename_i i ds' z
        cases z
        obtain ⟨ms, h1, rfl⟩ := Option.map_eq_some_iff.mp h
        cases r1
        rw [boolsOf_rp r2 h1]
        rfl
      · cases h
def topOf : List Int → Option Int
  | [] => none
  | n :: ns => some (ns.foldl max n)
def lowOf : List Int → Option Int
  | [] => none
  | n :: ns => some (ns.foldl min n)
theorem foldl_max (ns : List Int) : ∀ n : Int, (ns.foldl max n = n ∨ ns.foldl max n ∈ ns) ∧ n ≤ ns.foldl max n ∧ ∀ y ∈ ns, y ≤ ns.foldl max n := by
  induction ns with
  | nil => intro n; exact ⟨.inl rfl, Int.le_refl _, fun y hy => nomatch hy⟩
  | cons m ms ih =>
    intro n
    obtain ⟨h1, h2, h3⟩ := ih (max n m)
    rw [List.foldl_cons]
    refine ⟨?_, by omega, fun y hy => ?_⟩
    · rcases h1 with h1 | h1
      · rw [h1]
        rcases Int.le_total n m with z | z
        · right; rw [Int.max_eq_right z]; exact List.mem_cons_self
        · left; rw [Int.max_eq_left z]
      · right; exact List.mem_cons_of_mem _ h1
    · rcases List.mem_cons.mp hy with z | z
      · subst z; omega
      · exact h3 y z
theorem foldl_min (ns : List Int) : ∀ n : Int, (ns.foldl min n = n ∨ ns.foldl min n ∈ ns) ∧ ns.foldl min n ≤ n ∧ ∀ y ∈ ns, ns.foldl min n ≤ y := by
  induction ns with
  | nil => intro n; exact ⟨.inl rfl, Int.le_refl _, fun y hy => nomatch hy⟩
  | cons m ms ih =>
    intro n
    obtain ⟨h1, h2, h3⟩ := ih (min n m)
    rw [List.foldl_cons]
    refine ⟨?_, by omega, fun y hy => ?_⟩
    · rcases h1 with h1 | h1
      · rw [h1]
        rcases Int.le_total n m with z | z
        · left; rw [Int.min_eq_left z]
        · right; rw [Int.min_eq_right z]; exact List.mem_cons_self
      · right; exact List.mem_cons_of_mem _ h1
    · rcases List.mem_cons.mp hy with z | z
      · subst z; omega
      · exact h3 y z
/-- max(a, b), max(xs); the other -/
def pMax : Prim
  | [.int i, .int j] => some (.val (.int (if j > i then j else i)))
  | [.list ds] => (numsOf ds).bind fun ns => (topOf ns).map fun n => .val (.int n)
  | _ => none
def pMin : Prim
  | [.int i, .int j] => some (.val (.int (if j < i then j else i)))
  | [.list ds] => (numsOf ds).bind fun ns => (lowOf ns).map fun n => .val (.int n)
  | _ => none
theorem rl_max (K : PySem.W.Frag) : Rule K (fun xs H Q => (∃ i j, xs = [.int i, .int j] ∧ Q (.int (if j > i then j else i)) H) ∨ rMax K xs H Q) pMax := by
  intro F H ds vs Q s e hb hs q
  unfold pMax at hs
  split at hs
  · cases hs
    obtain ⟨v, w, rfl, h1, h2⟩ := hb.two
    exact .inl ⟨_, _, by rw [h1.int, h2.int], pq_val e q (.int _)⟩
  · obtain ⟨ns, hn, hs⟩ := Option.bind_eq_some_iff.mp hs
    obtain ⟨n, ht, rfl⟩ := Option.map_eq_some_iff.mp hs
    obtain ⟨v, rfl, h1⟩ := hb.one
    obtain ⟨a, xs, rfl, k1, k2⟩ := h1.lst e
    have := numsOf_rp k2 hn
    subst this
    cases ns with
    | nil => cases ht
    | cons m ms =>
      have ht : some (ms.foldl max m) = some n := ht
      cases ht
      obtain ⟨g1, g2, g3⟩ := foldl_max ms m
      refine .inr ⟨a, m :: ms, rfl, .inl (.inl k1), Nat.succ_pos _, fun k hk1 hk2 => ?_⟩
      have : k = ms.foldl max m := by
        have u1 : k ≤ ms.foldl max m := by
          rcases List.mem_cons.mp hk1 with z | z
          · subst z; exact g2
          · exact g3 k z
        have u2 : ms.foldl max m ≤ k := by
          rcases g1 with z | z
          · rw [z]; exact hk2 m List.mem_cons_self
          · exact hk2 _ (List.mem_cons_of_mem _ z)
        omega
      subst this
      exact pq_val e q (.int _)
  · cases hs
theorem rl_min (K : PySem.W.Frag) : Rule K (fun xs H Q => (∃ i j, xs = [.int i, .int j] ∧ Q (.int (if j < i then j else i)) H) ∨ rMin K xs H Q) pMin := by
  intro F H ds vs Q s e hb hs q
  unfold pMin at hs
  split at hs
  · cases hs
    obtain ⟨v, w, rfl, h1, h2⟩ := hb.two
    exact .inl ⟨_, _, by rw [h1.int, h2.int], pq_val e q (.int _)⟩
  · obtain ⟨ns, hn, hs⟩ := Option.bind_eq_some_iff.mp hs
    obtain ⟨n, ht, rfl⟩ := Option.map_eq_some_iff.mp hs
    obtain ⟨v, rfl, h1⟩ := hb.one
    obtain ⟨a, xs, rfl, k1, k2⟩ := h1.lst e
    have := numsOf_rp k2 hn
    subst this
    cases ns with
    | nil => cases ht
    | cons m ms =>
      have ht : some (ms.foldl min m) = some n := ht
      cases ht
      obtain ⟨g1, g2, g3⟩ := foldl_min ms m
      refine .inr ⟨a, m :: ms, rfl, .inl (.inl k1), Nat.succ_pos _, fun k hk1 hk2 => ?_⟩
      have : k = ms.foldl min m := by
        have u1 : ms.foldl min m ≤ k := by
          rcases List.mem_cons.mp hk1 with z | z
          · subst z; exact g2
          · exact g3 k z
        have u2 : k ≤ ms.foldl min m := by
          rcases g1 with z | z
          · rw [z]; exact hk2 m List.mem_cons_self
          · exact hk2 _ (List.mem_cons_of_mem _ z)
        omega
      subst this
      exact pq_val e q (.int _)
  · cases hs
def pSum : Prim
  | [.list ds] => (numsOf ds).map fun ns => .val (.int ns.sum)
  | _ => none
theorem rl_sum (K : PySem.W.Frag) : Rule K (rSum K) pSum := by
  intro F H ds vs Q s e hb hs q
  unfold pSum at hs
  split at hs
  · obtain ⟨ns, hn, rfl⟩ := Option.map_eq_some_iff.mp hs
    obtain ⟨v, rfl, h1⟩ := hb.one
    obtain ⟨a, xs, rfl, k1, k2⟩ := h1.lst e
    have := numsOf_rp k2 hn
    subst this
    exact ⟨a, ns, rfl, .inl (.inl k1), pq_val e q (.int _)⟩
  · cases hs
def pAll : Prim
  | [.list ds] => (boolsOf ds).map fun bs => .val (.bool (bs.all id))
  | _ => none
def pAny : Prim
  | [.list ds] => (boolsOf ds).map fun bs => .val (.bool (bs.any id))
  | _ => none
theorem rl_all (K : PySem.W.Frag) : Rule K (rAll K) pAll := by
  intro F H ds vs Q s e hb hs q
  unfold pAll at hs
  split at hs
  · obtain ⟨ns, hn, rfl⟩ := Option.map_eq_some_iff.mp hs
    obtain ⟨v, rfl, h1⟩ := hb.one
    obtain ⟨a, xs, rfl, k1, k2⟩ := h1.lst e
    have := boolsOf_rp k2 hn
    subst this
    exact ⟨a, ns, rfl, .inl (.inl k1), pq_val e q (.bl _)⟩
  · cases hs
theorem rl_any (K : PySem.W.Frag) : Rule K (rAny K) pAny := by
  intro F H ds vs Q s e hb hs q
  unfold pAny at hs
  split at hs
  · obtain ⟨ns, hn, rfl⟩ := Option.map_eq_some_iff.mp hs
    obtain ⟨v, rfl, h1⟩ := hb.one
    obtain ⟨a, xs, rfl, k1, k2⟩ := h1.lst e
    have := boolsOf_rp k2 hn
    subst this
    exact ⟨a, ns, rfl, .inl (.inl k1), pq_val e q (.bl _)⟩
  · cases hs
/-- list(xs), tuple(xs) -/
def pListOf : Prim
  | [.list ds] => some (.own ds)
  | [.tuple ds] => some (.own ds)
  | _ => none
theorem rl_listOf (K : PySem.W.Frag) : Rule K (fun xs H Q => ∃ p ys, xs = [.ref p] ∧ (SqL K H p ys ∨ SqT K H p ys) ∧ ∀ l, H l = none → Q (.ref l) (upd H l (.lst ys))) pListOf := by
  intro F H ds vs Q s e hb hs q
  unfold pListOf at hs
  split at hs
  · cases hs
    obtain ⟨v, rfl, h1⟩ := hb.one
    obtain ⟨a, xs, rfl, k1, k2⟩ := h1.seq e (.inl rfl)
    exact ⟨a, xs, rfl, k1, fun l hl => q l xs hl k2⟩
  · cases hs
    obtain ⟨v, rfl, h1⟩ := hb.one
    obtain ⟨a, xs, rfl, k1, k2⟩ := h1.seq e (.inr rfl)
    exact ⟨a, xs, rfl, k1, fun l hl => q l xs hl k2⟩
  · cases hs
def pTupOf : Prim
  | [.list ds] => some (.val (.tuple ds))
  | [.tuple ds] => some (.val (.tuple ds))
  | _ => none
def rTupF (K : PySem.W.Frag) : List V → Hp → VK → Prop := fun xs H Q => ∃ p ys, xs = [.ref p] ∧ ((SqL K H p ys ∧ ∀ l o, H l = none → o.dict = none → Q (.ref l) (upd H l (.frz o (.tup ys)))) ∨ (SqT K H p ys ∧ Q (.ref p) H))
theorem call_tupF {X : Cx} : CallR X (.type "tuple") (rTupF X.K) := by
  intro pins s σ H xs us Q I r ⟨p, ys, ep, h⟩
  subst ep
  rcases h with ⟨hq, q⟩ | h
  · rw [Vals.ref1 r]
    obtain ⟨its, r', pl, hz⟩ := I.list hq
    refine call_tuple_list pl.isList (fun g kp => ?_) (by rw [List.size_toArray, ← r'.length]; exact hz)
    have J : Inv X pins σ H { s with heap := g } := I.kept (t' := s.toks) kp
    exact ⟨.ref g.objs.size, _, laid_tup (t' := s.toks) J r' hz, rfl, q _ _ (J.hok.fresh (Nat.le_refl _)) rfl⟩
  · exact call_tuple_of pins s σ H _ us Q I r ⟨p, ys, rfl, .inr h⟩
theorem rl_tupOf (K : PySem.W.Frag) : Rule K (rTupF K) pTupOf := by
  intro F H ds vs Q s e hb hs q
  unfold pTupOf at hs
  split at hs
  · cases hs
    obtain ⟨v, rfl, h1⟩ := hb.one
    obtain ⟨a, xs, rfl, k1, k2⟩ := h1.lst e
    exact ⟨a, xs, rfl, .inl ⟨.inl (.inl k1), fun l o hl ho => pq_tup e q hl ho k2⟩⟩
  · cases hs
    obtain ⟨v, rfl, h1⟩ := hb.one
    obtain ⟨a, o, xs, rfl, k1, k0, k2⟩ := h1.tup
    exact ⟨a, xs, rfl, .inr ⟨.inl (.inr ⟨_, e _ _ k1⟩), pq_val e q (.tup k1 k0 k2)⟩⟩
  · cases hs
/-- divmod(a, b) -/
def pDvm : Prim
  | [.int i, .int j] => if decide (0 < j) && decide (j < 1073741824) then some (.val (.tuple [.int (i / j), .int (i % j)])) else none
  | _ => none
def rDvmF : List V → Hp → VK → Prop := fun xs H Q => ∃ i j, xs = [.int i, .int j] ∧ CDiv i j ∧ ∀ p o, H p = none → o.dict = none → Q (.ref p) (upd H p (.frz o (.tup [.int (i / j), .int (i % j)])))
theorem call_dvmF {X : Cx} : CallR X (.builtin "divmod") rDvmF := by
  intro pins s σ H xs us Q I r ⟨i, j, e, ⟨h1, h2⟩, q⟩
  subst e
  obtain ⟨u, w', rfl, ⟨t, rfl⟩, ⟨t', rfl⟩⟩ := vals2 r
  refine divmod_int (by omega) ?_ (.inl (PyProof.noPylong_small (by omega)))
  rw [Int.fdiv_eq_ediv_of_nonneg i (by omega), Int.fmod_eq_emod_of_nonneg i (by omega)]
  refine ⟨.ref s.heap.objs.size, _, laid_tup (t' := s.toks + 1 + 1) I (xs := [.int (i / j), .int (i % j)]) (us := [.int (i / j) s.toks, .int (i % j) (s.toks + 1)]) (.cons ⟨_, rfl⟩ (.cons ⟨_, rfl⟩ .nil)) (by show 2 ≤ sizeLine; rw [sizeLine_eq]; decide), rfl, q _ _ (I.hok.fresh (Nat.le_refl _)) rfl⟩
theorem rl_dvm (K : PySem.W.Frag) : Rule K rDvmF pDvm := by
  intro F H ds vs Q s e hb hs q
  unfold pDvm at hs
  split at hs
  · rename_i i j
    split at hs
    · rename_i hl
      cases hs
      simp only [Bool.and_eq_true, decide_eq_true_eq] at hl
      obtain ⟨v, w, rfl, h1, h2⟩ := hb.two
      exact ⟨i, j, by rw [h1.int, h2.int], hl, fun p o hp ho => pq_tup e q hp ho (.cons (.int _) (.cons (.int _) .nil))⟩
    · cases hs
  · cases hs
/-- int(x), bool(x), str(i) -/
def pInt : Prim
  | [.int i] => some (.val (.int i))
  | [.bool b] => some (.val (.int (if b then 1 else 0)))
  | _ => none
theorem rl_int (K : PySem.W.Frag) : Rule K (fun xs H Q => (∃ i, xs = [.int i] ∧ Q (.int i) H) ∨ ∃ k, xs = [.bl k] ∧ Q (.int (if k then 1 else 0)) H) pInt := by
  intro F H ds vs Q s e hb hs q
  unfold pInt at hs
  split at hs
  · cases hs
    obtain ⟨v, rfl, h1⟩ := hb.one
    exact .inl ⟨_, by rw [h1.int], pq_val e q (.int _)⟩
  · cases hs
    obtain ⟨v, rfl, h1⟩ := hb.one
    exact .inr ⟨_, by rw [h1.bool], pq_val e q (.int _)⟩
  · cases hs
def pStrI : Prim
  | [.int i] => if i.natAbs.log2 < 1920 then some (.val (.str (toString i))) else none
  | _ => none
theorem rl_strI (K : PySem.W.Frag) : Rule K (fun xs H Q => ∃ i, xs = [.int i] ∧ i.natAbs.log2 < 1920 ∧ Q (.str (toString i)) H) pStrI := by
  intro F H ds vs Q s e hb hs q
  unfold pStrI at hs
  split at hs
  · split at hs
    · rename_i hl
      cases hs
      obtain ⟨v, rfl, h1⟩ := hb.one
      exact ⟨_, by rw [h1.int], hl, pq_val e q (.str _)⟩
    · cases hs
  · cases hs
section
variable {Γ : Ctx} {d : DenOs} {p : Bool} {pos fpos : Pos} {a : Expr} {es : List Expr}
theorem e_len (h : SndOs Γ (a :: es) d p) (he : (a :: es).all plainE = true) (hg : Γ.sc.names.lookup ("len" : Str) = some .globalImplicit) (hf : ("len" : Str) ∈ Γ.blts) : SndE Γ (.Call (.Name "len" fpos) (a :: es) [] pos) (dP pLen d) p :=
  snd_callB (r := fun K xs H Q => (∃ p ys, xs = [.ref p] ∧ (SqL K H p ys ∨ SqT K H p ys) ∧ Q (.int ys.length) H) ∨ (∃ z, xs = [.str z] ∧ z.length ≤ sizeLine ∧ Q (.int z.length) H)) (fun X _ _ => call_len_seq.or call_len_str) rl_len PySem.boot_len h he hg hf (by decide)
theorem boot_abs' : bootBuiltins "abs" = some (.builtin "abs") := by decide +kernel
theorem boot_max' : bootBuiltins "max" = some (.builtin "max") := by decide +kernel
theorem boot_min' : bootBuiltins "min" = some (.builtin "min") := by decide +kernel
theorem boot_sum' : bootBuiltins "sum" = some (.builtin "sum") := by decide +kernel
theorem boot_all' : bootBuiltins "all" = some (.builtin "all") := by decide +kernel
theorem boot_any' : bootBuiltins "any" = some (.builtin "any") := by decide +kernel
theorem boot_dvm' : bootBuiltins "divmod" = some (.builtin "divmod") := by decide +kernel
theorem boot_list' : bootBuiltins "list" = some (.type "list") := by decide +kernel
theorem boot_tuple' : bootBuiltins "tuple" = some (.type "tuple") := by decide +kernel
theorem boot_int' : bootBuiltins "int" = some (.type "int") := by decide +kernel
theorem boot_str' : bootBuiltins "str" = some (.type "str") := by decide +kernel
theorem boot_bool' : bootBuiltins "bool" = some (.type "bool") := by decide +kernel
theorem e_abs (h : SndOs Γ (a :: es) d p) (he : (a :: es).all plainE = true) (hg : Γ.sc.names.lookup ("abs" : Str) = some .globalImplicit) (hf : ("abs" : Str) ∈ Γ.blts) : SndE Γ (.Call (.Name "abs" fpos) (a :: es) [] pos) (dP pAbs d) p :=
  snd_callB (r := fun _ xs H Q => ∃ i, xs = [.int i] ∧ Q (.int (if i < 0 then -i else i)) H) (fun X _ _ => call_abs) rl_abs boot_abs' h he hg hf (by decide)
theorem e_max (h : SndOs Γ (a :: es) d p) (he : (a :: es).all plainE = true) (hg : Γ.sc.names.lookup ("max" : Str) = some .globalImplicit) (hf : ("max" : Str) ∈ Γ.blts) : SndE Γ (.Call (.Name "max" fpos) (a :: es) [] pos) (dP pMax d) p :=
  snd_callB (r := fun K xs H Q => (∃ i j, xs = [.int i, .int j] ∧ Q (.int (if j > i then j else i)) H) ∨ rMax K xs H Q) (fun X c _ => (call_max2 c).or (cr_max c)) rl_max boot_max' h he hg hf (by decide)
theorem e_min (h : SndOs Γ (a :: es) d p) (he : (a :: es).all plainE = true) (hg : Γ.sc.names.lookup ("min" : Str) = some .globalImplicit) (hf : ("min" : Str) ∈ Γ.blts) : SndE Γ (.Call (.Name "min" fpos) (a :: es) [] pos) (dP pMin d) p :=
  snd_callB (r := fun K xs H Q => (∃ i j, xs = [.int i, .int j] ∧ Q (.int (if j < i then j else i)) H) ∨ rMin K xs H Q) (fun X c _ => (call_min2 c).or (cr_min c)) rl_min boot_min' h he hg hf (by decide)
theorem e_sum (h : SndOs Γ (a :: es) d p) (he : (a :: es).all plainE = true) (hg : Γ.sc.names.lookup ("sum" : Str) = some .globalImplicit) (hf : ("sum" : Str) ∈ Γ.blts) : SndE Γ (.Call (.Name "sum" fpos) (a :: es) [] pos) (dP pSum d) p :=
  snd_callB (r := rSum) (fun X c _ => cr_sum c) rl_sum boot_sum' h he hg hf (by decide)
theorem e_all (h : SndOs Γ (a :: es) d p) (he : (a :: es).all plainE = true) (hg : Γ.sc.names.lookup ("all" : Str) = some .globalImplicit) (hf : ("all" : Str) ∈ Γ.blts) : SndE Γ (.Call (.Name "all" fpos) (a :: es) [] pos) (dP pAll d) p :=
  snd_callB (r := rAll) (fun X c _ => cr_all c) rl_all boot_all' h he hg hf (by decide)
theorem e_any (h : SndOs Γ (a :: es) d p) (he : (a :: es).all plainE = true) (hg : Γ.sc.names.lookup ("any" : Str) = some .globalImplicit) (hf : ("any" : Str) ∈ Γ.blts) : SndE Γ (.Call (.Name "any" fpos) (a :: es) [] pos) (dP pAny d) p :=
  snd_callB (r := rAny) (fun X c _ => cr_any c) rl_any boot_any' h he hg hf (by decide)
theorem e_dvm (h : SndOs Γ (a :: es) d p) (he : (a :: es).all plainE = true) (hg : Γ.sc.names.lookup ("divmod" : Str) = some .globalImplicit) (hf : ("divmod" : Str) ∈ Γ.blts) : SndE Γ (.Call (.Name "divmod" fpos) (a :: es) [] pos) (dP pDvm d) p :=
  snd_callB (r := fun _ => rDvmF) (fun X _ _ => call_dvmF) rl_dvm boot_dvm' h he hg hf (by decide)
theorem e_listOf (h : SndOs Γ (a :: es) d p) (he : (a :: es).all plainE = true) (hg : Γ.sc.names.lookup ("list" : Str) = some .globalImplicit) (hf : ("list" : Str) ∈ Γ.blts) : SndE Γ (.Call (.Name "list" fpos) (a :: es) [] pos) (dP pListOf d) p :=
  snd_callTy (r := fun K xs H Q => ∃ p ys, xs = [.ref p] ∧ (SqL K H p ys ∨ SqT K H p ys) ∧ ∀ l, H l = none → Q (.ref l) (upd H l (.lst ys))) (fun X _ _ => call_list_of) rl_listOf boot_list' h he hg hf (by decide)
theorem e_tupOf (h : SndOs Γ (a :: es) d p) (he : (a :: es).all plainE = true) (hg : Γ.sc.names.lookup ("tuple" : Str) = some .globalImplicit) (hf : ("tuple" : Str) ∈ Γ.blts) : SndE Γ (.Call (.Name "tuple" fpos) (a :: es) [] pos) (dP pTupOf d) p :=
  snd_callTy (r := rTupF) (fun X _ _ => call_tupF) rl_tupOf boot_tuple' h he hg hf (by decide)
theorem e_int (h : SndOs Γ (a :: es) d p) (he : (a :: es).all plainE = true) (hg : Γ.sc.names.lookup ("int" : Str) = some .globalImplicit) (hf : ("int" : Str) ∈ Γ.blts) : SndE Γ (.Call (.Name "int" fpos) (a :: es) [] pos) (dP pInt d) p :=
  snd_callTy (r := fun _ xs H Q => (∃ i, xs = [.int i] ∧ Q (.int i) H) ∨ ∃ k, xs = [.bl k] ∧ Q (.int (if k then 1 else 0)) H) (fun X _ _ => call_int1) rl_int boot_int' h he hg hf (by decide)
theorem e_str (h : SndOs Γ (a :: es) d p) (he : (a :: es).all plainE = true) (hg : Γ.sc.names.lookup ("str" : Str) = some .globalImplicit) (hf : ("str" : Str) ∈ Γ.blts) : SndE Γ (.Call (.Name "str" fpos) (a :: es) [] pos) (dP pStrI d) p :=
  snd_callTy (r := fun _ xs H Q => ∃ i, xs = [.int i] ∧ i.natAbs.log2 < 1920 ∧ Q (.str (toString i)) H) (fun X _ _ => call_str_int) rl_strI boot_str' h he hg hf (by decide)
end
/-! ### sorted(xs) -/
open PySem.W in
def sortOk (ds : List PyData) : Bool := ds.all (fun d => SeqAt.shaped d && ds.all fun e => alike d e) && (ds.all (fun d => match d with
  | .tuple (_ :: _) => true
  | _ => false) || ds.all fun d => match d with
  | .none => false
  | .tuple _ => false
  | _ => true)
open PySem.W in
def sortD (ds : List PyData) : List PyData := ds.mergeSort (dataLe false id)
def pSorted : Prim
  | [.list ds] => if sortOk ds && decide (ds.length ≤ 1000000) then some (.own (sortD ds)) else none
  | _ => none
open PySem.W in
theorem sortOk_like {ds : List PyData} (h : sortOk ds = true) : AllAlike ds := by
  unfold sortOk at h
  simp only [Bool.and_eq_true, List.all_eq_true] at h
  exact fun d hd e he => (h.1 d hd).2 e he
theorem sortOk_shaped {ds : List PyData} (h : sortOk ds = true) : ∀ d ∈ ds, SeqAt.shaped d = true := by
  unfold sortOk at h
  simp only [Bool.and_eq_true, List.all_eq_true] at h
  exact fun d hd => (h.1 d hd).1
open PySem.W in
theorem sortOk_able {ds : List PyData} (h : sortOk ds = true) : Sortable ds := by
  unfold sortOk at h
  simp only [Bool.and_eq_true, Bool.or_eq_true, List.all_eq_true] at h
  rcases h.2 with h | h
  · refine .inl fun d hd => ?_
    have := h d hd
    cases d with
    | tuple xs =>
      cases xs with
      | nil => cases this
      | cons x r => exact ⟨x, r, rfl⟩
    | _ => cases this
  · refine .inr fun d hd => ?_
    have := h d hd
    cases d with
    | none => cases this
    | tuple xs => cases this
    | _ => exact ⟨(fun z => nomatch z), (fun xs z => nomatch z)⟩
/-- data with the values that stand for them -/
def rSortF (K : PySem.W.Frag) : List V → Hp → VK → Prop := fun vs H Q => ∃ (a : Addr) (zs : List (PyData × V)), vs = [.ref a] ∧ SqL K H a (zs.map (·.2)) ∧ (∀ z ∈ zs, Dp K H z.2 z.1) ∧ sortOk (zs.map (·.1)) = true ∧
  ∀ p, H p = none → Q (.ref p) (upd H p (.lst ((zs.mergeSort (PySem.W.dataLe false Prod.fst)).map (·.2))))
open PySem.W in
theorem each_of {X : Cx} {pins : List (Addr × Obj)} {σ : St} {H : Hp} {s : Shared} (I : Inv X pins σ H s) : ∀ {zs : List (PyData × V)} {us : List Value}, Vals (zs.map (·.2)) us → (∀ z ∈ zs, Dp X.K H z.2 z.1) →
    EachIs (fun u (z : PyData × V) => RelV z.2 u) us zs ∧ EachIs (fun u (z : PyData × V) => ∃ as, Reads s.heap u z.1 as) us zs
  | [], _, r, _ => by cases r; exact ⟨.nil, .nil⟩
  | z :: zs, _, r, h => by
    cases r with
    | cons r1 r2 =>
      obtain ⟨h1, h2⟩ := each_of I (zs := zs) r2 fun y hy => h y (List.mem_cons_of_mem _ hy)
      exact ⟨.cons r1 h1, .cons (Dp.reads I z.1 z.2 _ (h z List.mem_cons_self) r1) h2⟩
open PySem.W in
theorem vals_each : ∀ {us : List Value} {zs : List (PyData × V)}, EachIs (fun u (z : PyData × V) => RelV z.2 u) us zs → Vals (zs.map (·.2)) us
  | _, _, .nil => .nil
  | _, _, .cons h t => .cons h (vals_each t)
theorem call_sortF {X : Cx} (hu : X.A.units + 200 < cLine) : CallR X (.builtin "sorted") (rSortF X.K) := by
  intro pins s σ H vs us Q I r ⟨a, zs, e, hs, hd, ok, q⟩
  subst e
  rw [Vals.ref1 r]
  obtain ⟨its, rv, hl, hz⟩ := I.list hs
  obtain ⟨g1, g2⟩ := each_of I rv hd
  have zl : zs.length ≤ sizeLine := by rw [List.length_map] at hz; exact hz
  refine PySem.W.sorted_data (enc := Prod.fst) hl.isList g1 g2 (sortOk_like ok) (sortOk_able ok) zl (fun z hz => ?_) fun out ho eo => ?_
  · have := sortOk_shaped ok z.1 (List.mem_map.mpr ⟨z, hz, rfl⟩)
    unfold SeqAt.shaped at this
    simp only [Bool.and_eq_true, decide_eq_true_eq] at this
    omega
  · obtain ⟨c, hc⟩ := PyProof.Rows.sortedAll_at s.heap its out.toArray
    refine ⟨.ref _, _, I.laid (t' := s.toks) (o := .lst ((zs.mergeSort (PySem.W.dataLe false Prod.fst)).map (·.2))) (fun _ _ => PyProof.Rows.sortedAll_old) (Nat.le_succ _) ⟨?_, out, c, vals_each eo, hc⟩, rfl, q _ (I.hok.fresh (Nat.le_succ _))⟩
    rw [List.length_map, List.length_mergeSort]
    exact zl
theorem zip_fst {K : PySem.W.Frag} {F : Hp} : ∀ {ds : List PyData} {vs : List V}, RpAll K F ds vs → (ds.zip vs).map (·.1) = ds ∧ (ds.zip vs).map (·.2) = vs ∧ ∀ z ∈ ds.zip vs, Rp K F z.1 z.2
  | [], _, r => by cases r; exact ⟨rfl, rfl, fun z h => nomatch h⟩
  | d :: ds, _, r => by
    cases r with
    | cons r1 r2 =>
      obtain ⟨h1, h2, h3⟩ := zip_fst r2
      refine ⟨by rw [List.zip_cons_cons, List.map_cons, h1], by rw [List.zip_cons_cons, List.map_cons, h2], fun z hz => ?_⟩
      rw [List.zip_cons_cons] at hz
      rcases List.mem_cons.mp hz with e | hz
      · subst e; exact r1
      · exact h3 z hz
theorem rpAll_of {K : PySem.W.Frag} {F : Hp} : ∀ {zs : List (PyData × V)}, (∀ z ∈ zs, Rp K F z.1 z.2) → RpAll K F (zs.map (·.1)) (zs.map (·.2))
  | [], _ => .nil
  | z :: zs, h => .cons (h z List.mem_cons_self) (rpAll_of fun y hy => h y (List.mem_cons_of_mem _ hy))
theorem rl_sorted (K : PySem.W.Frag) : Rule K (rSortF K) pSorted := by
  intro F H ds vs Q s e hb hs q
  unfold pSorted at hs
  split at hs
  · rename_i ys
    split at hs
    · rename_i hl
      cases hs
      rw [Bool.and_eq_true] at hl
      obtain ⟨v, rfl, h1⟩ := hb.one
      obtain ⟨a, xs, rfl, k1, k2⟩ := h1.lst e
      obtain ⟨g1, g2, g3⟩ := zip_fst k2
      refine ⟨a, ys.zip xs, rfl, .inl (.inl (by rw [g2]; exact k1)), fun z hz => dp_of _ _ ((g3 z hz).mono e) (shaped_lay (sortOk_shaped hl.1 z.1 (by rw [← g1]; exact List.mem_map.mpr ⟨z, hz, rfl⟩))), by rw [g1]; exact hl.1, fun p hp => ?_⟩
      have m : ((ys.zip xs).mergeSort (PySem.W.dataLe false Prod.fst)).map (·.1) = sortD ys := by
        have g := List.map_mergeSort (r := PySem.W.dataLe false (Prod.fst (α := PyData) (β := V))) (s := PySem.W.dataLe false id) (f := Prod.fst) (l := ys.zip xs) (fun a _ b _ => rfl)
        exact g.trans (congrArg sortD g1)
      refine q p _ hp ?_
      rw [← m]
      exact rpAll_of fun z hz => g3 z (List.mem_mergeSort.mp hz)
    · cases hs
  · cases hs
theorem boot_sorted' : bootBuiltins "sorted" = some (.builtin "sorted") := by decide +kernel
section
variable {Γ : Ctx} {d : DenOs} {p : Bool} {pos fpos : Pos} {a : Expr} {es : List Expr}
theorem e_sorted (h : SndOs Γ (a :: es) d p) (he : (a :: es).all plainE = true) (hg : Γ.sc.names.lookup ("sorted" : Str) = some .globalImplicit) (hf : ("sorted" : Str) ∈ Γ.blts) : SndE Γ (.Call (.Name "sorted" fpos) (a :: es) [] pos) (dP pSorted d) p :=
  snd_callB (r := rSortF) (fun X _ hr => call_sortF (by have := hr.un; omega)) rl_sorted boot_sorted' h he hg hf (by decide)
end
end Dn

/-! Den11: changes of own lists, more sources, index, list(range), a, b = x, y. -/
namespace Dn
open PySem PySem.Spec L2
open PyProof.Rows hiding St

/-! ### changes of own lists -/
def mAppend : MutF := fun ds as => match as with
  | [d] => if ds.length < 1000000 then some (.none, ds ++ [d]) else none
  | _ => none
theorem rm_append (K : PySem.W.Frag) : RuleM K rAppend mAppend := by
  intro F H a ds as vs avs res ds' Q e hF hH r ra h q
  unfold mAppend at h
  split at h
  · split at h
    · rename_i d hl
      cases h
      cases ra with
      | cons r1 r2 =>
        cases r2
        exact ⟨a, vs, _, rfl, rfl, hH, lt_line (by rw [← r.length]; omega), q _ _ .non (r.app (.cons r1 .nil))⟩
    · cases h
  · cases h
def mExtend : MutF := fun ds as => match as with
  | [.list es] => if ds.length + es.length ≤ 1000000 then some (.none, ds ++ es) else none
  | _ => none
theorem rm_extend (K : PySem.W.Frag) : RuleM K rExtend mExtend := by
  intro F H a ds as vs avs res ds' Q e hF hH r ra h q
  unfold mExtend at h
  split at h
  · split at h
    · rename_i es hl
      cases h
      cases ra with
      | cons r1 r2 =>
        cases r2
        cases r1 with
        | lst h1 h2 => exact ⟨a, _, vs, _, rfl, rfl, hH, e _ _ h1, le_line (by rw [← r.length, ← h2.length]; exact hl), q _ _ .non (r.app h2)⟩
    · cases h
  · cases h
theorem dropLast_rp {K : PySem.W.Frag} {F : Hp} {ds : List PyData} {vs : List V} (r : RpAll K F ds vs) : RpAll K F ds.dropLast vs.dropLast := by
  rw [List.dropLast_eq_take, List.dropLast_eq_take, ← r.length]
  exact r.take _
def mPop : MutF := fun ds as => match as with
  | [] => (ds[ds.length - 1]?).map fun d => (d, ds.dropLast)
  | _ => none
theorem rm_pop (K : PySem.W.Frag) : RuleM K rPop mPop := by
  intro F H a ds as vs avs res ds' Q e hF hH r ra h q
  unfold mPop at h
  split at h
  · obtain ⟨d, hd, e1⟩ := Option.map_eq_some_iff.mp h
    cases e1
    cases ra
    obtain ⟨v, hv, rv⟩ := RpAll.at' r hd
    exact ⟨a, vs, v, rfl, rfl, hH, by rw [← r.length]; exact hv, q _ _ rv (dropLast_rp r)⟩
  · cases h
def mPopAt : MutF := fun ds as => match as with
  | [.int i] => if decide (-(2 ^ 62) ≤ i) && decide (i < 2 ^ 62) then (seqIndex? i ds.length).bind fun k => (ds[k]?).map fun d => (d, ds.eraseIdx k) else none
  | _ => none
theorem rm_popAt (K : PySem.W.Frag) : RuleM K rPopAt mPopAt := by
  intro F H a ds as vs avs res ds' Q e hF hH r ra h q
  unfold mPopAt at h
  split at h
  · split at h
    · rename_i i hl
      simp only [Bool.and_eq_true, decide_eq_true_eq] at hl
      obtain ⟨k, hk, h⟩ := Option.bind_eq_some_iff.mp h
      obtain ⟨d, hd, e1⟩ := Option.map_eq_some_iff.mp h
      cases e1
      cases ra with
      | cons r1 r2 =>
        cases r2
        cases r1
        obtain ⟨v, hv, rv⟩ := RpAll.at' r hd
        exact ⟨a, vs, i, k, v, rfl, rfl, hH, by omega, by omega, by rw [← r.length]; exact hk, hv, q _ _ rv (r.erase k)⟩
    · cases h
  · cases h
def mReverse : MutF := fun ds as => match as with
  | [] => some (.none, ds.reverse)
  | _ => none
theorem rm_reverse (K : PySem.W.Frag) : RuleM K rReverse mReverse := by
  intro F H a ds as vs avs res ds' Q e hF hH r ra h q
  unfold mReverse at h
  split at h
  · cases h
    cases ra
    exact ⟨a, vs, rfl, rfl, hH, q _ _ .non r.rev⟩
  · cases h
section
variable {Γ : Ctx} {as : DenOs} {p : Bool} {pos xpos apos : Pos} {e : Expr} {x : Str} {i : Nat}
theorem u_append (hN : Γ.N[i]? = some x) (hv : visB Γ.sc x = true) (hx : okName x = true) (h : SndFs Γ [e] as p) (he : [e].all plainE = true) (hline : (apos.endLine == pos.line) = true) : SndE Γ (.Call (.Attribute (.Name x xpos) "append" apos) [e] [] pos) (dMut i mAppend as) false :=
  snd_mut PySem.F.slot_list_append PySem.F.type_list_append (fun X _ => mt_append) rm_append hN hv hx h he (show 1 < 20 by decide) hline
theorem u_extend (hN : Γ.N[i]? = some x) (hv : visB Γ.sc x = true) (hx : okName x = true) (h : SndFs Γ [e] as p) (he : [e].all plainE = true) (hline : (apos.endLine == pos.line) = true) : SndE Γ (.Call (.Attribute (.Name x xpos) "extend" apos) [e] [] pos) (dMut i mExtend as) false :=
  snd_mut PySem.F.slot_list_extend PySem.F.type_list_extend (fun X _ => mt_extend) rm_extend hN hv hx h he (show 1 < 20 by decide) hline
theorem u_popAt (hN : Γ.N[i]? = some x) (hv : visB Γ.sc x = true) (hx : okName x = true) (h : SndFs Γ [e] as p) (he : [e].all plainE = true) (hline : (apos.endLine == pos.line) = true) : SndE Γ (.Call (.Attribute (.Name x xpos) "pop" apos) [e] [] pos) (dMut i mPopAt as) false :=
  snd_mut PySem.F.slot_list_pop PySem.F.type_list_pop (fun X _ => mt_popAt) rm_popAt hN hv hx h he (show 1 < 20 by decide) hline
theorem u_pop (hN : Γ.N[i]? = some x) (hv : visB Γ.sc x = true) (hx : okName x = true) (hline : (apos.endLine == pos.line) = true) : SndE Γ (.Call (.Attribute (.Name x xpos) "pop" apos) [] [] pos) (dMut i mPop fsNil) false :=
  snd_mut0 PySem.F.slot_list_pop PySem.F.type_list_pop (fun X _ => mt_pop) rm_pop hN hv hx hline
theorem u_reverse (hN : Γ.N[i]? = some x) (hv : visB Γ.sc x = true) (hx : okName x = true) (hline : (apos.endLine == pos.line) = true) : SndE Γ (.Call (.Attribute (.Name x xpos) "reverse" apos) [] [] pos) (dMut i mReverse fsNil) false :=
  snd_mut0 PySem.F.slot_list_reverse PySem.F.type_list_reverse (fun X _ => mt_reverse) rm_reverse hN hv hx hline
end

/-! ### a, b = x, y -/
def dPar (i j : Nat) (a : DenOs) : DenS := fun Φ ρ => (a Φ ρ).bind fun r => match r.1 with
  | [x, y] => .ok (.nx, (r.2.set i (.val x)).set j (.val y))
  | _ => .stuck
theorem snd_par {Γ : Ctx} {i j : Nat} {x y : Str} {a b : Expr} {d : DenOs} {p : Bool} {pos px py pt pt2 : Pos} {kt k2 : Nat} (hN : Γ.N[i]? = some x) (hN' : Γ.N[j]? = some y) (hij : i ≠ j) (hx : Γ.sc.names.lookup x = some .local) (hy : Γ.sc.names.lookup y = some .local)
    (hi : Γ.np ≤ i) (hj : Γ.np ≤ j) (h : SndFs Γ [a, b] d p) (he : [a, b].all plainE = true) (hxy : (y == x) = false) (hl : (px.line == py.line) = true) (hf : [a, b].all (foldedForSure 8) = false) (hc : [a, b].all (constantsAlone 8) = false) :
    SndS Γ (.Assign [.Tuple [.Name x px, .Name y py] kt pt] (.Tuple [a, b] k2 pt2) pos) (dPar i j d) := by
  intro X Φ B F H ρ σ D W C BO bo hK T R hq
  have hx' : X.env.scope.names.lookup x = some .local := by rw [C.sc]; exact hx
  have hy' : X.env.scope.names.lookup y = some .local := by rw [C.sc]; exact hy
  have e1 : ∀ {e : Expr}, plainE e = true → (match e with | .Starred .. => true | _ => false) = false := fun {e} h => by cases e <;> first | rfl | cases h
  rw [List.all_cons, List.all_cons, List.all_nil, Bool.and_true, Bool.and_eq_true] at he
  have hw : swappedStores [.Tuple [.Name x px, .Name y py] kt pt] (.Tuple [a, b] k2 pt2) X.env = pure (some [x, y]) := by
    have hb : X.env.blockKind = .function := by unfold Env.blockKind; rw [BO.fk]; rfl
    have kx : X.env.kindOf x = some .local := hx'
    have ky : X.env.kindOf y = some .local := hy'
    have hl' : px.line = py.line := by simpa using hl
    have hxy' : ¬ y = x := by simpa using hxy
    unfold swappedStores
    simp only [hb, kx, ky, e1 he.1, e1 he.2, hf, hc, List.any_cons, List.any_nil, List.filterMap_cons, List.filterMap_nil, List.head?_cons, Option.map_some, Option.getD_some, List.length_cons, List.length_nil, Expr.pos, hl', hxy', List.eraseDups_cons, List.filter_cons, List.filter_nil, List.eraseDups_nil, hxy]
    simp [hl', hxy', hxy, List.eraseDups_cons]
    intro h
    rcases h with h | h
    · exact absurd (h.symm.trans (e1 he.1)) (by decide)
    · exact absurd (h.symm.trans (e1 he.2)) (by decide)
  refine PS.w (ps_par C.calm (by rw [C.nm]; exact C.nd) (by rw [C.nm]; exact hN) (by rw [C.nm]; exact hN') hij hx' hy' (pa_ws (by rw [List.all_cons, List.all_cons, List.all_nil, Bool.and_true, Bool.and_eq_true]; exact he)) hw) ?_
  refine h X Φ B F H ρ σ _ W C hK T R (wp_mono (wp_bind (c := d Φ ρ) hq) (fun r q vs F1 H1 R1 e1 _ hv => ?_) ExS.ex)
  obtain ⟨ds, ρ1⟩ := r
  cases hv with
  | nil => exact q.elim
  | cons h1 h2 =>
    cases h2 with
    | nil => exact q.elim
    | cons h2 h3 =>
      cases h3 with
      | cons _ _ => exact q.elim
      | nil => exact ⟨_, _, rfl, q _ F1 H1 ((R1.put (s := .val _) h1 i (Nat.le_trans bo.vs hi)).put (s := .val _) h2 j (Nat.le_trans bo.vs hj)) e1⟩

/-! ### list(range(..)) -/
def dListR (s : DenI) : Den := fun Φ ρ => (s Φ ρ).bind fun r => guard' (decide (r.1.length ≤ 1000000)) (.ok (.own r.1, r.2))
section
variable {Γ : Ctx} {a b : Expr} {d d' : DenO} {p p' m m' : Bool} {fpos rpos pos lpos : Pos}
theorem rg_rp {K : PySem.W.Frag} {F : Hp} (lo hi : Int) : RpAll K F (rngD lo (hi - lo).toNat) (rgV lo hi) := by
  unfold rngD rgV
  generalize (hi - lo).toNat = n
  induction (List.range n) with
  | nil => exact .nil
  | cons x xs ih => exact .cons (.int _) ih
theorem rngD_length (lo : Int) (n : Nat) : (rngD lo n).length = n := by simp [rngD]
theorem snd_listR1 (h : SndO Γ a d p m) (he : plainE a = true) (hg : Γ.sc.names.lookup ("range" : Str) = some .globalImplicit) (hf : ("range" : Str) ∈ Γ.blts) (hg2 : Γ.sc.names.lookup ("list" : Str) = some .globalImplicit) (hf2 : ("list" : Str) ∈ Γ.blts) :
    SndE Γ (.Call (.Name "list" fpos) [.Call (.Name "range" rpos) [a] [] pos] [] lpos) (dListR (iR1 d)) p := by
  intro X Φ B F H ρ σ Q W C hK T R hq
  refine PE.w (pe_listRg C.calm (gl_of C hg2) (C.blt _ hf2) (prg_1 (gl_of C hg) (C.blt _ hf) pe_w (star_of he))) ?_
  refine h X Φ B F H ρ σ _ W C hK T R (wp_mono (wp_bind (c := d Φ ρ) (wp_bind (c := iR1 d Φ ρ) hq)) (fun y q v F1 H1 R1 e1 e2 hv => ?_) fun _ q => q)
  obtain ⟨y, ρ1⟩ := y
  cases y with
  | int n =>
    obtain ⟨g, q⟩ := wp_guard q
    have := small_of g
    have hv := hv.bp.int
    subst hv
    obtain ⟨g2, q⟩ := wp_guard q
    rw [rngD_length] at g2
    have g2 := of_decide_eq_true g2
    refine ⟨n, rfl, ⟨by omega, by omega, this.1, this.2, ?_⟩, fun l hl => pq_of R1 e1 e2 q l _ hl ?_⟩
    · rw [Int.sub_zero]; omega
    · have := rg_rp (K := B.K) (F := F1) 0 n
      rw [Int.sub_zero] at this
      exact this
  | _ => exact q.elim
theorem snd_listR2 (h : SndO Γ a d p m) (h' : SndO Γ b d' p' m') (he : plainE a = true) (he' : plainE b = true) (hg : Γ.sc.names.lookup ("range" : Str) = some .globalImplicit) (hf : ("range" : Str) ∈ Γ.blts) (hg2 : Γ.sc.names.lookup ("list" : Str) = some .globalImplicit) (hf2 : ("list" : Str) ∈ Γ.blts) :
    SndE Γ (.Call (.Name "list" fpos) [.Call (.Name "range" rpos) [a, b] [] pos] [] lpos) (dListR (iR2 d d')) (p && p') := by
  intro X Φ B F H ρ σ Q W C hK T R hq
  refine PE.w (pe_listRg C.calm (gl_of C hg2) (C.blt _ hf2) (prg_2 (gl_of C hg) (C.blt _ hf) pe_w pe_w (star_of he) (star_of he') (plain_any (by rw [List.all_cons, List.all_nil, Bool.and_true]; exact he')))) ?_
  refine h X Φ B F H ρ σ _ W C hK T R (wp_mono (wp_bind (c := d Φ ρ) (wp_bind (c := iR2 d d' Φ ρ) hq)) (fun y q v F1 H1 R1 e1 e2 hv => ?_) fun _ q => q)
  refine h' X Φ B F1 H1 y.2 σ _ W C hK T R1 (wp_mono (wp_bind (c := d' Φ y.2) q) (fun z q w F2 H2 R2 e3 e4 hw => ?_) (ExP.mono e1))
  obtain ⟨y, ρ1⟩ := y
  obtain ⟨z, ρ2⟩ := z
  cases y with
  | int i =>
    cases z with
    | int j =>
      obtain ⟨g, q⟩ := wp_guard q
      rw [Bool.and_eq_true] at g
      have s1 := small_of g.1
      have s2 := small_of g.2
      have hv := hv.bp.int
      have hw := hw.bp.int
      subst hv
      subst hw
      obtain ⟨g2, q⟩ := wp_guard q
      rw [rngD_length] at g2
      have g2 := of_decide_eq_true g2
      exact ⟨i, j, rfl, rfl, ⟨s1.1, s1.2, s2.1, s2.2, by omega⟩, fun l hl => pq_of R2 (e1.trans e3) (fun z => by rw [Bool.and_eq_true] at z; exact (e2 z.1).trans (e4 z.2)) q l _ hl (rg_rp i j)⟩
    | _ => exact q.elim
  | _ => exact q.elim
end

/-! ### x.index(y) -/
def firstAt (y : PyData) : List PyData → Nat → Option Nat
  | [], _ => none
  | d :: ds, n => if PyData.eqv d y then some n else firstAt y ds (n + 1)
theorem firstAt_at {y : PyData} : ∀ {ds : List PyData} {n k : Nat}, firstAt y ds n = some k → ∃ j z, k = n + j ∧ ds[j]? = some z ∧ PyData.eqv z y = true ∧ ∀ m z', m < j → ds[m]? = some z' → PyData.eqv z' y = false
  | [], _, _, h => by cases h
  | d :: ds, n, k, h => by
    unfold firstAt at h
    split at h
    · rename_i c
      cases h
      exact ⟨0, d, rfl, rfl, c, fun m z hm => absurd hm (Nat.not_lt_zero _)⟩
    · rename_i c
      obtain ⟨j, z, h1, h2, h3, h4⟩ := firstAt_at h
      refine ⟨j + 1, z, by omega, by simpa using h2, h3, fun m z' hm hz => ?_⟩
      cases m with
      | zero => simp at hz; subst hz; simpa using c
      | succ m => exact h4 m z' (by omega) (by simpa using hz)
def pLIndex : Prim
  | [.list ds, y] => if SeqAt.shaped (.list ds) && SeqAt.shaped y then (firstAt y ds 0).map fun k : Nat => Slot.val (.int (k : Int)) else none
  | _ => none
theorem rl_lindex (K : PySem.W.Frag) : Rule K (rrm (rIndexD K)) pLIndex := by
  intro F H ds vs Q s e hb hs q
  unfold pLIndex at hs
  split at hs
  · rename_i ys y
    split at hs
    · rename_i hl
      rw [Bool.and_eq_true] at hl
      obtain ⟨k, hk, rfl⟩ := Option.map_eq_some_iff.mp hs
      obtain ⟨v, w, rfl, h1, h2⟩ := hb.two
      obtain ⟨a, xs, rfl, k1, k2⟩ := h1.lst e
      obtain ⟨j, z, rfl, g2, g3, g4⟩ := firstAt_at hk
      rw [Nat.zero_add] at q
      exact ⟨_, _, rfl, a, w, y, ys, j, z, rfl, rfl, dp_bp e h1 hl.1, dp_bp e h2 hl.2, hl.1, hl.2, g2, g3, g4, pq_val e q (.int _)⟩
    · cases hs
  · cases hs
def rTIndexD (K : PySem.W.Frag) : V → List V → Hp → VK → Prop := fun x xs H Q => ∃ (a : Addr) (y : V) (d : PyData) (ds : List PyData) (j : Nat) (z : PyData), x = V.ref a ∧ xs = [y] ∧ Dp K H (V.ref a) (.tuple ds) ∧ Dp K H y d ∧
  SeqAt.shaped (.tuple ds) = true ∧ SeqAt.shaped d = true ∧ ds[j]? = some z ∧ PyData.eqv z d = true ∧ (∀ (m : Nat) (z' : PyData), m < j → ds[m]? = some z' → PyData.eqv z' d = false) ∧ Q (.int (j : Nat)) H
theorem mt_tindexD {X : Cx} (hu : X.A.units + 65 < cLine) : MtR X "tuple.index" (rTIndexD X.K) := by
  intro pins s σ H x xs v us Q I rx rxs ⟨a, y, d, ds, j, z, e1, e2, hl, hy, sl, sd, hz, hzj, hno, q⟩
  subst e1
  subst e2
  cases rx
  obtain ⟨uy, eu, ry⟩ := Vals.one rxs
  subst eu
  obtain ⟨bs, w1⟩ := Dp.reads I d y uy hy ry
  have lay : PyData.canLayAll0 ds = true := by simpa [PyData.canLay0] using shaped_lay sl
  cases hl with
  | tup hs ha =>
    obtain ⟨its, rv, ⟨⟨cls, dd, data, sls⟩, ho, hc, n, hd⟩, hz'⟩ := I.tuple hs
    simp only at hc hd
    subst hc
    subst hd
    obtain ⟨as, w4⟩ := Dp.readsAll I ds _ its ha rv
    have hn : its.length = ds.length := SeqAt.ReadsAll.length ds its as w4
    have hmap : its.map (SeqAt.readOf s.heap) = ds := SeqAt.readsAll_map ds its as lay w4
    have hj : j < its.toArray.size := by
      have := (List.getElem?_eq_some_iff.mp hz).1
      rw [List.size_toArray]; omega
    have rd : ∀ (m : Nat) (hm : m < its.toArray.size) (y' : PyData), ds[m]? = some y' → SeqAt.readOf s.heap its.toArray[m] = y' := fun m hm y' hy' => by
      have hml : m < its.length := by simpa using hm
      rw [← hmap, List.getElem?_map, List.getElem?_eq_getElem hml] at hy'
      simpa using hy'
    refine call_meets PySem.F.slot_tuple_index ⟨_, ho, rfl⟩ PySem.F.entry_tuple_index (PySem.F.args_tuple_index_2 _ _)
      (TI.tuple_indexAt a its.toArray n dd sls uy (fun u => PyData.eqv (SeqAt.readOf s.heap u) d) j hj ?_ ?_)
      ⟨ho, SeqAt.items_eqAt (vs := its.toArray) (show ReadsAll s.heap its.toArray.toList ds as from w4) w1 lay (shaped_lay sd) (room_in_shaped sd hu), ⟨.int (j : Nat), H, I.tok _, ⟨_, rfl⟩, q⟩⟩
    · show PyData.eqv (SeqAt.readOf s.heap its.toArray[j]) d = true
      rw [rd j hj z hz]
      exact hzj
    · intro m hm hmj
      have hmd : m < ds.length := by rw [List.size_toArray] at hm; omega
      show PyData.eqv (SeqAt.readOf s.heap its.toArray[m]) d = false
      rw [rd m hm _ (List.getElem?_eq_getElem hmd)]
      exact hno m _ hmj (List.getElem?_eq_getElem hmd)
def pTIndex : Prim
  | [.tuple ds, y] => if SeqAt.shaped (.tuple ds) && SeqAt.shaped y then (firstAt y ds 0).map fun k : Nat => Slot.val (.int (k : Int)) else none
  | _ => none
theorem rl_tindex (K : PySem.W.Frag) : Rule K (rrm (rTIndexD K)) pTIndex := by
  intro F H ds vs Q s e hb hs q
  unfold pTIndex at hs
  split at hs
  · rename_i ys y
    split at hs
    · rename_i hl
      rw [Bool.and_eq_true] at hl
      obtain ⟨k, hk, rfl⟩ := Option.map_eq_some_iff.mp hs
      obtain ⟨v, w, rfl, h1, h2⟩ := hb.two
      obtain ⟨a, o, xs, rfl, k1, k0, k2⟩ := h1.tup
      obtain ⟨j, z, rfl, g2, g3, g4⟩ := firstAt_at hk
      rw [Nat.zero_add] at q
      exact ⟨_, _, rfl, a, w, y, ys, j, z, rfl, rfl, dp_bp e h1 hl.1, dp_bp e h2 hl.2, hl.1, hl.2, g2, g3, g4, pq_val e q (.int _)⟩
    · cases hs
  · cases hs
section
variable {Γ : Ctx} {x : DenO} {d : DenOs} {p p' pm : Bool} {pos apos : Pos} {o a : Expr} {es : List Expr}
theorem e_lindex (h1 : SndO Γ o x p pm) (h2 : SndOs Γ (a :: es) d p') (hp : (p' || !pm) = true) (he : (a :: es).all plainE = true) (hl : (a :: es).length < 20) (hc : notCall o = true) (hline : (apos.endLine == pos.line) = true) : SndE Γ (.Call (.Attribute o "index" apos) (a :: es) [] pos) (dM "list" pLIndex x d) (p && p') :=
  snd_meth PySem.F.plainAttrs_list PySem.F.slot_list_index PySem.F.type_list_index (fun X _ hr => mt_indexD (room_u hr)) rl_lindex (by decide) h1 h2 hp he hl hc hline
theorem e_tindex (h1 : SndO Γ o x p pm) (h2 : SndOs Γ (a :: es) d p') (hp : (p' || !pm) = true) (he : (a :: es).all plainE = true) (hl : (a :: es).length < 20) (hc : notCall o = true) (hline : (apos.endLine == pos.line) = true) : SndE Γ (.Call (.Attribute o "index" apos) (a :: es) [] pos) (dM "tuple" pTIndex x d) (p && p') :=
  snd_meth PySem.F.plainAttrs_tuple PySem.F.slot_tuple_index PySem.F.type_tuple_index (fun X _ hr => mt_tindexD (room_u hr)) rl_tindex (by decide) h1 h2 hp he hl hc hline
end

/-! ### enumerate, zip -/
def pairUp : List PyData → List PyData → List PyData
  | x :: xs, y :: ys => .tuple [x, y] :: pairUp xs ys
  | _, _ => []
theorem pairUp_get : ∀ {xs ys : List PyData} {i : Nat} {d : PyData}, (pairUp xs ys)[i]? = some d → ∃ x y, xs[i]? = some x ∧ ys[i]? = some y ∧ d = .tuple [x, y]
  | [], _, _, _, h => by simp [pairUp] at h
  | _ :: _, [], _, _, h => by simp [pairUp] at h
  | x :: xs, y :: ys, 0, d, h => by simp [pairUp] at h; exact ⟨x, y, rfl, rfl, h.symm⟩
  | x :: xs, y :: ys, i + 1, d, h => by
    obtain ⟨a, b, h1, h2, h3⟩ := pairUp_get (i := i) (by simpa [pairUp] using h)
    exact ⟨a, b, by simpa using h1, by simpa using h2, h3⟩
theorem pairUp_len : ∀ (xs ys : List PyData), (pairUp xs ys).length = min xs.length ys.length
  | [], _ => by simp [pairUp]
  | _ :: _, [] => by simp [pairUp]
  | x :: xs, y :: ys => by simp [pairUp, pairUp_len xs ys]
theorem new_pair {K : PySem.W.Frag} {F2 H : Hp} {T : Addr} {x y : V} {d e : PyData} (e3 : Ex F2 H) (hn : H T = none) (h1 : Rp K F2 d x) (h2 : Rp K F2 e y) : (∀ a, H a ≠ none → upd H T (.tup [x, y]) a ≠ none) ∧ Grow F2 H F2 (upd H T (.tup [x, y])) ∧ Taken true K F2 (upd H T (.tup [x, y])) (.tuple [d, e]) (.ref T) := by
  refine ⟨fun a h => ?_, ⟨.refl _, .new hn, e3.trans (.new hn), fun _ _ h => h⟩, fun ds z => ?_⟩
  · by_cases q : a = T
    · subst q; rw [upd_same]; exact fun z => nomatch z
    · rw [upd_ne q]; exact h
  · cases z
    exact ⟨T, [x, y], rfl, .inl (.inl upd_same), .cons h1 (.cons h2 .nil)⟩
theorem sqL_inj {K : PySem.W.Frag} {H : Hp} {l : Addr} {vs : List V} (h : H l = some (.lst vs)) : SqL K H l vs := .inl (.inl h)
theorem src_enum {K : PySem.W.Frag} {F : Hp} {l : Addr} {vs : List V} {ds : List PyData} (h : F l = some (.lst vs)) (r : RpAll K F ds vs) : Src true K F (Ite K l) (pairUp (rngD 0 ds.length) ds) := by
  refine ⟨fun i H d e q => ?_, fun i H e q => ?_⟩
  · obtain ⟨x, y, g1, g2, rfl⟩ := pairUp_get q
    obtain ⟨v, h1, h2⟩ := RpAll.at' r g2
    have hx : x = .int (i : Nat) := by
      have hi : i < ds.length := (List.getElem?_eq_some_iff.mp g2).1
      unfold rngD at g1
      rw [List.getElem?_map, List.getElem?_range hi] at g1
      have := (Option.some.inj g1).symm
      rw [this]
      show PyData.int (0 + ((i : Nat) : Int)) = _
      rw [Int.zero_add]
    subst hx
    refine ⟨⟨vs, v, sqL_inj (e _ _ h), h1⟩, fun w H' ⟨T, u, e1, hn, e2, hu⟩ F2 e3 e4 => ?_⟩
    subst e1
    subst e2
    have := hu vs (sqL_inj (e _ _ h))
    rw [h1] at this
    cases this
    exact new_pair e4 hn (.int _) (h2.mono e3)
  · refine ⟨vs, sqL_inj (e _ _ h), ?_⟩
    rw [pairUp_len, rngD_length, Nat.min_self] at q
    rw [← r.length]; exact q
theorem src_zip {K : PySem.W.Frag} {F : Hp} {l m : Addr} {vs ws : List V} {ds es : List PyData} (h : F l = some (.lst vs)) (r : RpAll K F ds vs) (h' : F m = some (.lst ws)) (r' : RpAll K F es ws) : Src true K F (Itz K l m) (pairUp ds es) := by
  refine ⟨fun i H d e q => ?_, fun i H e q => ?_⟩
  · obtain ⟨x, y, g1, g2, rfl⟩ := pairUp_get q
    obtain ⟨v, h1, h2⟩ := RpAll.at' r g1
    obtain ⟨w, k1, k2⟩ := RpAll.at' r' g2
    refine ⟨⟨vs, ws, v, w, sqL_inj (e _ _ h), sqL_inj (e _ _ h'), h1, k1⟩, fun w' H' ⟨T, u, t, e1, hn, e2, hu, ht⟩ F2 e3 e4 => ?_⟩
    subst e1
    subst e2
    have q1 := hu vs (sqL_inj (e _ _ h))
    have q2 := ht ws (sqL_inj (e _ _ h'))
    rw [h1] at q1
    rw [k1] at q2
    cases q1
    cases q2
    exact new_pair e4 hn (h2.mono e3) (k2.mono e3)
  · refine ⟨vs, ws, sqL_inj (e _ _ h), sqL_inj (e _ _ h'), ?_⟩
    rw [pairUp_len, r.length, r'.length] at q
    omega
theorem sqT_inj {K : PySem.W.Frag} {F H : Hp} {l : Addr} {o : Obj} {vs : List V} (h : F l = some (.frz o (.tup vs))) (e : Ex F H) : SqT K H l vs := .inl (.inr ⟨_, e _ _ h⟩)
theorem src_zipT {K : PySem.W.Frag} {F : Hp} {l m : Addr} {o o' : Obj} {vs ws : List V} {ds es : List PyData} (h : F l = some (.frz o (.tup vs))) (r : RpAll K F ds vs) (h' : F m = some (.frz o' (.tup ws))) (r' : RpAll K F es ws) : Src true K F (RZ.ItzT K l m) (pairUp ds es) := by
  refine ⟨fun i H d e q => ?_, fun i H e q => ?_⟩
  · obtain ⟨x, y, g1, g2, rfl⟩ := pairUp_get q
    obtain ⟨v, h1, h2⟩ := RpAll.at' r g1
    obtain ⟨w, k1, k2⟩ := RpAll.at' r' g2
    refine ⟨⟨vs, ws, v, w, sqT_inj h e, sqT_inj h' e, h1, k1⟩, fun w' H' ⟨T, u, t, e1, hn, e2, hu, ht⟩ F2 e3 e4 => ?_⟩
    subst e1
    subst e2
    have q1 := hu vs (sqT_inj h e)
    have q2 := ht ws (sqT_inj h' e)
    rw [h1] at q1
    rw [k1] at q2
    cases q1
    cases q2
    exact new_pair e4 hn (h2.mono e3) (k2.mono e3)
  · refine ⟨vs, ws, sqT_inj h e, sqT_inj h' e, ?_⟩
    rw [pairUp_len, r.length, r'.length] at q
    omega
def iEnumD (d : Den) : DenI := fun Φ ρ => (oOf d Φ ρ).bind fun r => match r.1 with
  | .list ds => .ok (pairUp (rngD 0 ds.length) ds, r.2)
  | _ => .stuck
def iZipD (a : DenOs) : DenI := fun Φ ρ => (a Φ ρ).bind fun r => match r.1 with
  | [.list ds, .list es] => .ok (pairUp ds es, r.2)
  | [.tuple ds, .tuple es] => .ok (pairUp ds es, r.2)
  | _ => .stuck
section
variable {Γ : Ctx} {tg e e2 : Expr} {d : Den} {a : DenOs} {p tp : Bool} {fpos pos tpos : Pos} {elts : List Expr} {kk : Nat}
theorem snd_iEnum (h : SndE Γ e d p) (he : plainE e = true) (hg : Γ.sc.names.lookup ("enumerate" : Str) = some .globalImplicit) (hf : ("enumerate" : Str) ∈ Γ.blts) : SndI Γ (.Tuple elts kk tpos) (.Call (.Name "enumerate" fpos) [e] [] pos) (iEnumD d) p true := by
  intro X Φ B F H ρ σ R W C hK T Rl hq
  refine PI.w (pi_enum (gl_of C hg) (C.blt _ hf) (pa_ws (by rw [List.all_cons, List.all_nil, Bool.and_true]; exact he)) (star_of he)) ?_
  refine snd_oOf h X Φ B F H ρ σ _ W C hK T Rl (wp_mono (wp_bind (c := oOf d Φ ρ) hq) (fun y q v F1 H1 R1 e1 e2 hv => ?_) fun _ q => q)
  obtain ⟨y, ρ1⟩ := y
  have hv : Rp B.K F1 y v := hv
  cases y with
  | list ds =>
    cases hv with
    | lst h1 h2 => exact ⟨_, _, rfl, sqL_inj (R1.kept.ex _ _ h1), q _ F1 H1 R1 e1 e2 (hK ▸ src_enum h1 h2)⟩
  | _ => exact q.elim
theorem snd_iZip (h : SndFs Γ [e, e2] a p) (he : [e, e2].all plainE = true) (hg : Γ.sc.names.lookup ("zip" : Str) = some .globalImplicit) (hf : ("zip" : Str) ∈ Γ.blts) : SndI Γ (.Tuple elts kk tpos) (.Call (.Name "zip" fpos) [e, e2] [] pos) (iZipD a) p true := by
  intro X Φ B F H ρ σ R W C hK T Rl hq
  have he' := he
  rw [List.all_cons, Bool.and_eq_true] at he'
  refine PI.w (RZ.pi_zipA (gl_of C hg) (C.blt _ hf) (pa_ws he) (star_of he'.1) (plain_any he'.2)) ?_
  refine h X Φ B F H ρ σ _ W C hK T Rl (wp_mono (wp_bind (c := a Φ ρ) hq) (fun y q vs F1 H1 R1 e1 e2 hv => ?_) fun _ q => q)
  obtain ⟨y, ρ1⟩ := y
  have hv : RpAll B.K F1 y vs := hv
  cases hv with
  | nil => exact q.elim
  | cons r1 r2 =>
    cases r2 with
    | nil => cases r1 <;> exact q.elim
    | cons r2 r3 =>
      cases r3 with
      | cons _ _ => cases r1 <;> cases r2 <;> exact q.elim
      | nil =>
        cases r1 with
        | lst h1 k1 =>
          cases r2 with
          | lst h2 k2 => exact ⟨_, _, _, _, rfl, .inl ⟨sqL_inj (R1.kept.ex _ _ h1), sqL_inj (R1.kept.ex _ _ h2), q _ F1 H1 R1 e1 e2 (hK ▸ src_zip h1 k1 h2 k2)⟩⟩
          | _ => exact q.elim
        | tup h1 _ k1 =>
          cases r2 with
          | tup h2 _ k2 => exact ⟨_, _, _, _, rfl, .inr ⟨sqT_inj h1 R1.kept.ex, sqT_inj h2 R1.kept.ex, q _ F1 H1 R1 e1 e2 (hK ▸ src_zipT h1 k1 h2 k2)⟩⟩
          | _ => exact q.elim
        | _ => cases r2 <;> exact q.elim
end
end Dn

/-! Den13: sorted(set(xs)) of pairs as one operation. -/
namespace Dn
open PySem PySem.Spec L2
open PyProof.Rows hiding St

section
variable {X : Cx}
/-- set(xs), the pairs known -/
def rSetF (K : PySem.W.Frag) (P : Program) (w : World) : List V → Hp → VK → Prop := fun xs H Q => ∃ (l : Addr) (ks : List (Addr × List Int)), xs = [V.ref l] ∧ (SqL K H l (ks.map fun p => V.ref p.1) ∨ SqT K H l (ks.map fun p => V.ref p.1)) ∧ (∀ p ∈ ks, SqT K H p.1 (p.2.map V.int)) ∧
  (∀ L : List (Addr × List Int), (L.map (·.2)).Nodup → (∀ p ∈ L, p ∈ ks) → L.length < 63) ∧
  ∀ a L, H a = none → (∀ p ∈ L, p ∈ ks) → (∀ p ∈ ks, p.2 ∈ L.map (·.2)) → Q (.ref a) (upd H a (SetTO P w a L))
theorem call_setF (hc : X.calm = true) (hu : X.A.units + 64 < cLine) : CallR X (.type "set") (rSetF X.K X.prog X.w) := by
  intro pins s σ H xs us Q I r ⟨l, ks, e, hl, hk, few, q⟩
  subst e
  rw [Vals.ref1 r]
  have hn : H s.heap.objs.size = none := I.hok.fresh (Nat.le_refl _)
  have fin : ∀ (g : Heap) (tk : Nat) L es ep t, SetTR X.prog X.w g s.heap.objs.size L es ep t → Got ks ks.length L → (∀ b o, s.heap.get? b = some o → g.get? b = some o) → EP X pins σ Q (.ref s.heap.objs.size) { s with heap := g, toks := tk } := fun g tk L es ep t R got k =>
    ⟨.ref s.heap.objs.size, upd H s.heap.objs.size (SetTO X.prog X.w s.heap.objs.size L), I.laid (t' := tk) k (Nat.le_refl _) (setTO_new R.t0), rfl, q _ L hn (fun p hp => List.mem_of_mem_take (got.sub p hp)) fun p hp => got.all p (by rw [List.take_length]; exact hp)⟩
  rcases hl with hl | hl
  · obtain ⟨its, rv, pl, hz⟩ := I.list hl
    exact set_of_list (P := X.prog) (w := X.w) ks (I.ok.hd hc) pl.isList (by simpa using refs_of_vals rv) (fun p hp => I.isT (hk p hp)) few (by omega) fin
  · obtain ⟨its, rv, pl, hz⟩ := I.tuple hl
    exact set_of_tuple (P := X.prog) (w := X.w) ks (I.ok.hd hc) pl (by simpa using refs_of_vals rv) (fun p hp => I.isT (hk p hp)) few (by omega) fin
end
/-! ### pairs -/
def pairsOf : List PyData → Option (List (Int × Int))
  | [] => some []
  | .tuple [.int i, .int j] :: ds => (pairsOf ds).map ((i, j) :: ·)
  | _ :: _ => none
def prD (p : Int × Int) : PyData := .tuple [.int p.1, .int p.2]
def lexP (p q : Int × Int) : Bool := decide (p.1 < q.1 ∨ (p.1 = q.1 ∧ p.2 ≤ q.2))
def dedP : List (Int × Int) → List (Int × Int)
  | [] => []
  | p :: ps => if p ∈ ps then dedP ps else p :: dedP ps
def setSort (ps : List (Int × Int)) : List (Int × Int) := (dedP ps).mergeSort lexP
def smallP (ps : List (Int × Int)) : Bool := ps.all fun p => decide (0 ≤ p.1) && decide (p.1 < 64) && decide (0 ≤ p.2) && decide (p.2 < 64)
def coreSS (ds : List PyData) : Option (List PyData) := (pairsOf ds).bind fun ps => if smallP ps && decide ((dedP ps).length ≤ 62) then some ((setSort ps).map prD) else none
def pSortSet : PyData → Option (List PyData)
  | .list ds => coreSS ds
  | .tuple ds => coreSS ds
  | _ => none
def dSS (d : DenO) : Den := fun Φ ρ => (d Φ ρ).bind fun r => (opt (pSortSet r.1)).bind fun ds => .ok (.own ds, r.2)
theorem dedP_mem {p : Int × Int} : ∀ ps, p ∈ dedP ps ↔ p ∈ ps
  | [] => Iff.rfl
  | q :: ps => by
    unfold dedP
    split
    · rename_i h
      rw [dedP_mem ps, List.mem_cons]
      exact ⟨.inr, fun z => z.elim (fun e => e ▸ h) id⟩
    · rw [List.mem_cons, List.mem_cons, dedP_mem ps]
theorem dedP_nodup : ∀ ps, (dedP ps).Nodup
  | [] => List.nodup_nil
  | q :: ps => by
    unfold dedP
    split
    · exact dedP_nodup ps
    · rename_i h
      exact List.nodup_cons.mpr ⟨fun z => h ((dedP_mem ps).mp z), dedP_nodup ps⟩
theorem lexP_trans (a b c : Int × Int) (h : lexP a b = true) (h' : lexP b c = true) : lexP a c = true := by
  unfold lexP at *
  simp only [decide_eq_true_eq] at *
  omega
theorem lexP_total (a b : Int × Int) : (lexP a b || lexP b a) = true := by
  unfold lexP
  simp only [Bool.or_eq_true, decide_eq_true_eq]
  omega
theorem lexP_anti {a b : Int × Int} (h : lexP a b = true) (h' : lexP b a = true) : a = b := by
  unfold lexP at *
  simp only [decide_eq_true_eq] at *
  exact Prod.ext (by omega) (by omega)
theorem setSort_mem {p : Int × Int} {ps : List (Int × Int)} : p ∈ setSort ps ↔ p ∈ ps := by
  unfold setSort
  rw [List.mem_mergeSort, dedP_mem]
theorem setSort_sorted (ps : List (Int × Int)) : (setSort ps).Pairwise fun a b => lexP a b = true := List.pairwise_mergeSort lexP_trans lexP_total _
theorem setSort_nodup (ps : List (Int × Int)) : (setSort ps).Nodup := ((List.mergeSort_perm _ _).nodup_iff).mpr (dedP_nodup ps)
/-- what is sorted so, without doubles, and holds the same -/
theorem setSort_eq {ps qs : List (Int × Int)} (h : ∀ p, p ∈ qs ↔ p ∈ ps) (nd : qs.Nodup) (st : qs.Pairwise fun a b => lexP a b = true) : qs = setSort ps :=
  List.Perm.eq_of_pairwise (fun a b _ _ => lexP_anti) st (setSort_sorted ps) ((List.perm_ext_iff_of_nodup nd (setSort_nodup ps)).mpr fun p => by rw [h, setSort_mem])
def keyP (p : Int × Int) : List Int := [p.1, p.2]
/-- the pairs with their tuples -/
theorem pairs_rp {K : PySem.W.Frag} {F : Hp} : ∀ {ds : List PyData} {vs : List V} {ps : List (Int × Int)}, RpAll K F ds vs → pairsOf ds = some ps →
    ∃ ks : List (Addr × List Int), vs = ks.map (fun k => V.ref k.1) ∧ ks.map (·.2) = ps.map keyP ∧ ∀ k ∈ ks, ∃ o, F k.1 = some (.frz o (.tup (k.2.map V.int))) ∧ o.dict = none
  | [], _, _, r, h => by cases r; cases h; exact ⟨[], rfl, rfl, fun k z => nomatch z⟩
  | d :: ds, _, ps, r, h => by
    cases r with
    | cons r1 r2 =>
      unfold pairsOf at h
      split at h
      · rename_i z; cases z
      · rename_i i j ds' z
        cases z
        obtain ⟨qs, h1, rfl⟩ := Option.map_eq_some_iff.mp h
        obtain ⟨ks, g1, g2, g3⟩ := pairs_rp r2 h1
        cases r1 with
        | tup k1 k0 k2 =>
          cases k2 with
          | cons m1 m2 =>
            cases m2 with
            | cons m2 m3 =>
              cases m3
              cases m1
              cases m2
              refine ⟨(_, [i, j]) :: ks, by rw [g1]; rfl, by rw [List.map_cons, List.map_cons, g2]; rfl, fun k hk => ?_⟩
              rcases List.mem_cons.mp hk with e | hk
              · subst e; exact ⟨_, k1, k0⟩
              · exact g3 k hk
      · cases h
theorem nodup_len {α : Type} [DecidableEq α] : ∀ (xs ys : List α), xs.Nodup → (∀ x ∈ xs, x ∈ ys) → xs.length ≤ ys.length
  | [], _, _, _ => Nat.zero_le _
  | x :: xs, ys, nd, h => by
    obtain ⟨h1, h2⟩ := List.nodup_cons.mp nd
    have hx := h x List.mem_cons_self
    have := nodup_len xs (ys.erase x) h2 fun y hy => (List.mem_erase_of_ne (fun e : y = x => h1 (by rw [← e]; exact hy))).mpr (h y (List.mem_cons_of_mem _ hy))
    rw [List.length_erase_of_mem hx] at this
    have := List.length_pos_of_mem hx
    rw [List.length_cons]
    omega
theorem len_of_keys {L : List (Addr × List Int)} {qs : List (Int × Int)} (nd : (L.map (·.2)).Nodup) (sub : ∀ k ∈ L, ∃ q ∈ qs, k.2 = keyP q) (hl : (dedP qs).length ≤ 62) : L.length < 63 := by
  have h : (L.map (·.2)).length ≤ ((dedP qs).map keyP).length := by
    refine nodup_len _ _ nd fun x hx => ?_
    obtain ⟨k, hk, rfl⟩ := List.mem_map.mp hx
    obtain ⟨q, hq, e⟩ := sub k hk
    rw [e]
    exact List.mem_map.mpr ⟨q, (dedP_mem qs).mpr hq, rfl⟩
  rw [List.length_map, List.length_map] at h
  omega
theorem keyP_inj {p q : Int × Int} (h : keyP p = keyP q) : p = q := by
  unfold keyP at h
  injection h with h1 h2
  injection h2 with h2 _
  exact Prod.ext h1 h2
theorem lex_of_code {p q : Int × Int} (h : TS.code 64 (keyP p) ≤ TS.code 64 (keyP q)) (b1 : 0 ≤ p.1 ∧ p.1 < 64) (b2 : 0 ≤ p.2 ∧ p.2 < 64) (b3 : 0 ≤ q.1 ∧ q.1 < 64) (b4 : 0 ≤ q.2 ∧ q.2 < 64) : lexP p q = true := by
  unfold lexP
  rw [decide_eq_true_eq]
  unfold keyP at h
  rw [code_pair, code_pair] at h
  omega
theorem back_keys {L : List (Addr × List Int)} {qs : List (Int × Int)} (sub : ∀ k ∈ L, ∃ q ∈ qs, k.2 = keyP q) : ∃ rs : List (Int × Int), L.map (·.2) = rs.map keyP ∧ ∀ r ∈ rs, r ∈ qs := by
  induction L with
  | nil => exact ⟨[], rfl, fun r h => nomatch h⟩
  | cons k L ih =>
    obtain ⟨rs, h1, h2⟩ := ih fun y hy => sub y (List.mem_cons_of_mem _ hy)
    obtain ⟨q, hq, e⟩ := sub k List.mem_cons_self
    refine ⟨q :: rs, by rw [List.map_cons, List.map_cons, h1, e], fun r hr => ?_⟩
    rcases List.mem_cons.mp hr with z | z
    · rw [z]; exact hq
    · exact h2 r z
theorem boot_set' : bootBuiltins "set" = some (.type "set") := by decide +kernel
theorem rp_keys {K : PySem.W.Frag} {F : Hp} : ∀ {L : List (Addr × List Int)} {rs : List (Int × Int)}, L.map (·.2) = rs.map keyP → (∀ k ∈ L, ∃ o, F k.1 = some (.frz o (.tup (k.2.map V.int))) ∧ o.dict = none) → RpAll K F (rs.map prD) (L.map fun k => V.ref k.1)
  | [], [], _, _ => .nil
  | [], _ :: _, h, _ => by cases h
  | _ :: _, [], h, _ => by cases h
  | k :: L, r :: rs, h, f => by
    rw [List.map_cons, List.map_cons] at h
    injection h with h1 h2
    obtain ⟨o, g1, g2⟩ := f k List.mem_cons_self
    rw [h1] at g1
    exact .cons (.tup g1 g2 (.cons (.int _) (.cons (.int _) .nil))) (rp_keys h2 fun y hy => f y (List.mem_cons_of_mem _ hy))
theorem pSortSet_inv {y : PyData} {ds : List PyData} (h : pSortSet y = some ds) : ∃ ys ps, (y = .list ys ∨ y = .tuple ys) ∧ pairsOf ys = some ps ∧ smallP ps = true ∧ (dedP ps).length ≤ 62 ∧ ds = (setSort ps).map prD := by
  have core : ∀ ys, coreSS ys = some ds → ∃ ps, pairsOf ys = some ps ∧ smallP ps = true ∧ (dedP ps).length ≤ 62 ∧ ds = (setSort ps).map prD := fun ys h => by
    unfold coreSS at h
    obtain ⟨ps, h1, h2⟩ := Option.bind_eq_some_iff.mp h
    split at h2
    · rename_i c
      rw [Bool.and_eq_true, decide_eq_true_eq] at c
      cases h2
      exact ⟨ps, h1, c.1, c.2, rfl⟩
    · cases h2
  unfold pSortSet at h
  split at h
  · obtain ⟨ps, g⟩ := core _ h; exact ⟨_, ps, .inl rfl, g⟩
  · obtain ⟨ps, g⟩ := core _ h; exact ⟨_, ps, .inr rfl, g⟩
  · cases h
theorem snd_sortSet {Γ : Ctx} {e : Expr} {d : DenO} {p m : Bool} {fpos spos pos pos2 : Pos} (h : SndO Γ e d p m) (he : plainE e = true) (hg : Γ.sc.names.lookup ("sorted" : Str) = some .globalImplicit) (hf : ("sorted" : Str) ∈ Γ.blts) (hg2 : Γ.sc.names.lookup ("set" : Str) = some .globalImplicit) (hf2 : ("set" : Str) ∈ Γ.blts) :
    SndE Γ (.Call (.Name "sorted" fpos) [.Call (.Name "set" spos) [e] [] pos2] [] pos) (dSS d) p := by
  intro X Φ B F H ρ σ Q W C hK T R hq
  have hu := C.room.un
  have I1 : PE X (.Call (.Name "set" spos) [e] [] pos2) (tCB (rSetF X.K X.prog X.w) (wEs X [e])) :=
    pe_callTy (call_setF C.calm (by omega)) (gl_of C hg2) (C.blt _ hf2) boot_set' (pa_ws (by rw [List.all_cons, List.all_nil, Bool.and_true]; exact he)) (by decide) (by decide) (star_of he)
  refine PE.w (pe_callB (cr_sortedT C.calm) (gl_of C hg) (C.blt _ hf) boot_sorted' (pa_cons I1 pa_nil) (by decide) (by decide)) ?_
  refine h X Φ B F H ρ σ _ W C hK T R (wp_mono (wp_bind (c := d Φ ρ) hq) (fun y q v F1 H1 R1 e1 e2 hv => ?_) fun _ q => q)
  obtain ⟨y, ρ1⟩ := y
  cases g : pSortSet y with
  | none =>
    replace q : ((opt (pSortSet y)).bind fun ds => Out.ok (Slot.own ds, ρ1)).wp (EvP B F H σ p Q) (ExP X B F σ W) := q
    rw [g] at q; exact q.elim
  | some ds =>
    replace q : ((opt (pSortSet y)).bind fun ds => Out.ok (Slot.own ds, ρ1)).wp (EvP B F H σ p Q) (ExP X B F σ W) := q
    rw [g] at q
    replace q : EvP B F H σ p Q (.own ds, ρ1) := q
    obtain ⟨ys, ps, hy, h1, h2, h3, rfl⟩ := pSortSet_inv g
    obtain ⟨l, vs, rfl, k1, k2⟩ := hv.bp.seq R1.kept.ex hy
    obtain ⟨ks, rfl, g2, g3⟩ := pairs_rp k2 h1
    have hF : ∀ {F' : Hp}, Ex F1 F' → ∀ k ∈ ks, SqT X.K F' k.1 (k.2.map V.int) := fun ex k hk => by
      obtain ⟨o, z, _⟩ := g3 k hk
      exact .inl (.inr ⟨o, ex _ _ z⟩)
    have sub : ∀ k ∈ ks, ∃ p ∈ ps, k.2 = keyP p := fun k hk => by
      have : k.2 ∈ ps.map keyP := by rw [← g2]; exact List.mem_map.mpr ⟨k, hk, rfl⟩
      obtain ⟨p, hp, e⟩ := List.mem_map.mp this
      exact ⟨p, hp, e.symm⟩
    have bd : ∀ p ∈ ps, (0 ≤ p.1 ∧ p.1 < 64) ∧ (0 ≤ p.2 ∧ p.2 < 64) := fun p hp => by
      have := List.all_eq_true.mp h2 p hp
      simp only [Bool.and_eq_true, decide_eq_true_eq] at this
      exact ⟨⟨this.1.1.1, this.1.1.2⟩, this.1.2, this.2⟩
    refine ⟨l, ks, rfl, hK ▸ k1, hF R1.kept.ex, fun L nd hs => len_of_keys nd (fun k hk => sub k (hs k hk)) h3, fun a L ha hL1 hL2 => ?_⟩
    have exa : Ex H1 (upd H1 a (SetTO X.prog X.w a L)) := .new ha
    refine ⟨a, L, 2, 64, rfl, upd_same, fun k hk => hF (R1.kept.ex.trans exa) k (hL1 k hk), by decide, fun k hk => ?_, fun L' t pm nd hl' hw ht => ?_⟩
    · obtain ⟨p, hp, e⟩ := sub k (hL1 k hk)
      obtain ⟨b1, b2⟩ := bd p hp
      rw [e]
      exact ⟨rfl, by
        intro x hx
        unfold keyP at hx
        rcases List.mem_cons.mp hx with z | z
        · rw [z]; exact b1
        · rw [List.mem_singleton.mp z]; exact b2⟩
    · have inL : ∀ k ∈ L', k ∈ ks := fun k hk => hL1 k (pm.mem_iff.mp hk)
      obtain ⟨rs, w1, w2⟩ := back_keys (L := L') (qs := ps) fun k hk => sub k (inL k hk)
      have rnd : rs.Nodup := by
        rw [w1] at nd
        exact List.Pairwise.of_map keyP (fun a b hne e => hne (congrArg keyP e)) nd
      have rmem : ∀ r, r ∈ rs ↔ r ∈ ps := fun r => by
        refine ⟨w2 r, fun hr => ?_⟩
        have z1 : keyP r ∈ ks.map (·.2) := by rw [g2]; exact List.mem_map.mpr ⟨r, hr, rfl⟩
        obtain ⟨k, hk, ek⟩ := List.mem_map.mp z1
        have z2 : k.2 ∈ L'.map (·.2) := (pm.map (·.2)).mem_iff.mpr (hL2 k hk)
        rw [ek, w1] at z2
        obtain ⟨r', hr', er⟩ := List.mem_map.mp z2
        rw [← keyP_inj er]; exact hr'
      have rst : rs.Pairwise fun a b => lexP a b = true := by
        have z : (L'.map (·.2)).Pairwise fun a b => TS.code 64 a ≤ TS.code 64 b := List.pairwise_map.mpr hw
        rw [w1, List.pairwise_map] at z
        refine List.Pairwise.imp_of_mem (fun {a b} ha hb z => ?_) z
        obtain ⟨b1, b2⟩ := bd a (w2 a ha)
        obtain ⟨b3, b4⟩ := bd b (w2 b hb)
        exact lex_of_code z b1 b2 b3 b4
      have er := setSort_eq rmem rnd rst
      subst er
      exact pq_of (R1.grow exa) e1 (fun z => (e2 z).trans exa) q t _ ht (rp_keys w1 fun k hk => g3 k (inL k hk))
/-! ### x = [..] where a comprehension's block sees x -/
theorem sw_cell {elt : Expr} {gs : List Comprehension} {scope : Scope} {pos py : Pos} {y : Str} {l : Nat} {env : PySem.Env} (hy : env.scope.names.lookup y = some .cell) : swapsWith (.ListComp elt gs scope pos) (some (.Name y py)) l env = pure false := by
  have ky : env.kindOf y = some .cell := hy
  have e : ((some NameKind.cell : Option NameKind) == some NameKind.local) = false := by decide
  unfold swapsWith
  simp only [ky, e, Bool.and_false, Bool.false_and]
theorem snd_setC {Γ : Ctx} {i : Nat} {x : Str} {elt : Expr} {gs : List Comprehension} {scope : Scope} {pos pos' spos : Pos} {d : Den} {p : Bool} (hN : Γ.N[i]? = some x) (hl : Γ.sc.names.lookup x = some .cell) (hi : Γ.np ≤ i) (h : SndE Γ (.ListComp elt gs scope pos) d p) :
    SndS Γ (.Assign [.Name x pos'] (.ListComp elt gs scope pos) spos) (dSet i d) := by
  intro X Φ B F H ρ σ D W C BO bo hK T R hq
  have hl' : X.env.scope.names.lookup x = some .cell := by rw [C.sc]; exact hl
  refine PS.w (ps_set (i := i) (by rw [C.nm]; exact C.nd) (by rw [C.nm]; exact hN) (.inr hl') pe_w (sw_cell hl') (.inl (BO.fn x))) ?_
  exact h X Φ B F H ρ σ _ W C hK T R (wp_mono (wp_bind (c := d Φ ρ) hq) (fun r q v F1 H1 R1 e1 _ hv => q (σ.set i (some v)) F1 H1 (R1.put hv i (Nat.le_trans bo.vs hi)) e1) ExS.ex)
end Dn

/-! Den14: plain reasoning over meanings. -/
namespace Dn
open PySem PySem.Spec L2
open PyProof.Rows hiding St

theorem run_at (T : Tx) {x : Str} {d : DefI} (h : T.find x = some d) (n : Nat) (as : List Slot) : T.run (n + 1) x as = dBody d.ps.length d.N.length d.b (T.run n) as := by
  show (match T.find x with
    | some d => dBody d.ps.length d.N.length d.b (T.run n) as
    | none => .stuck) = _
  rw [h]
theorem wp_ok {α : Type} {a : α} {P : α → Prop} {E : Exc → Prop} (h : P a) : (Out.ok a).wp P E := h
theorem wp_bind' {α β : Type} {c : Out α} {f : α → Out β} {P : β → Prop} {E : Exc → Prop} (h : c.wp (fun a => (f a).wp P E) E) : (c.bind f).wp P E := by
  cases c with
  | ok a => exact h
  | exc x => exact h
  | stuck => exact h
theorem wp_eq {α : Type} {c : Out α} {a : α} {P : α → Prop} {E : Exc → Prop} (e : c = .ok a) (h : P a) : c.wp P E := by rw [e]; exact h
theorem bind_of {α β : Type} {c : Out α} {a : α} {f : α → Out β} (e : c = .ok a) : c.bind f = f a := by rw [e]; rfl
theorem ok_bind {α β : Type} (a : α) (f : α → Out β) : (Out.ok a).bind f = f a := rfl
theorem forL_wp {f : PyData → Env → Out (Fl × Env)} {P : Fl × Env → Prop} {E : Exc → Prop} (I : List PyData → Env → Prop) (fin : ∀ ρ, I [] ρ → P (.nx, ρ))
    (step : ∀ d ds ρ, I (d :: ds) ρ → (f d ρ).wp (fun r => match r.1 with
      | .nx => I ds r.2
      | .cnt => I ds r.2
      | .brk => P (.nx, r.2)
      | .ret s => P (.ret s, r.2)) E) : ∀ (ds : List PyData) (ρ : Env), I ds ρ → (forL f ds ρ).wp P E
  | [], ρ, h => fin ρ h
  | d :: ds, ρ, h => by
    refine wp_bind' (wp_mono (step d ds ρ h) (fun r q => ?_) fun _ q => q)
    obtain ⟨fl, ρ1⟩ := r
    cases fl with
    | nx => exact forL_wp I fin step ds ρ1 q
    | cnt => exact forL_wp I fin step ds ρ1 q
    | brk => exact q
    | ret s => exact q
theorem lcL_wp {f : PyData → Env → Out (Option PyData × Env)} {P : List PyData × Env → Prop} {E : Exc → Prop} (I : List PyData → List PyData → Env → Prop) 
    (step : ∀ d ds acc ρ, I (d :: ds) acc ρ → (f d ρ).wp (fun r => I ds (acc ++ r.1.toList) r.2) E) : ∀ (ds acc : List PyData) (ρ : Env), I ds acc ρ → (∀ out ρ', I [] (acc ++ out) ρ' → P (out, ρ')) → (lcL f ds ρ).wp P E
  | [], acc, ρ, h, fin => fin [] ρ (by rw [List.append_nil]; exact h)
  | d :: ds, acc, ρ, h, fin => by
    refine wp_bind' (wp_mono (step d ds acc ρ h) (fun r q => ?_) fun _ q => q)
    refine wp_bind' (lcL_wp (P := fun z => P (r.1.toList ++ z.1, z.2)) I step ds _ r.2 q fun out ρ' h' => fin _ ρ' ?_)
    rw [← List.append_assoc]
    exact h'
/-- a comprehension whose turns leave the names -/
theorem lcL_map {f : PyData → Env → Out (Option PyData × Env)} {ρ : Env} (g : PyData → Option PyData) : ∀ (ds : List PyData), (∀ d ∈ ds, f d ρ = .ok (g d, ρ)) → lcL f ds ρ = .ok (ds.filterMap g, ρ)
  | [], _ => rfl
  | d :: ds, h => by
    show (f d ρ).bind _ = _
    rw [h d List.mem_cons_self, ok_bind, lcL_map g ds fun y hy => h y (List.mem_cons_of_mem _ hy)]
    show Out.ok ((g d).toList ++ ds.filterMap g, ρ) = _
    rw [List.filterMap_cons]
    cases g d <;> rfl
theorem whileN_wp {c : Den} {b : DenS} {Φ : Calls} {P : Fl × Env → Prop} {E : Exc → Prop} (I : Nat → Env → Prop)
    (step : ∀ k ρ, I k ρ → (c Φ ρ).wp (fun r => match r.1 with
      | .val (.bool true) => (b Φ r.2).wp (fun s => match s.1 with
        | .nx => ∃ j, j < k ∧ I j s.2
        | .cnt => ∃ j, j < k ∧ I j s.2
        | .brk => P (.nx, s.2)
        | .ret x => P (.ret x, s.2)) E
      | .val (.bool false) => P (.nx, r.2)
      | _ => False) E) : ∀ (n k : Nat) (ρ : Env), k < n → I k ρ → (whileN c b Φ n ρ).wp P E
  | 0, k, ρ, hk, _ => absurd hk (Nat.not_lt_zero _)
  | n + 1, k, ρ, hk, h => by
    refine wp_bind' (wp_mono (step k ρ h) (fun r q => ?_) fun _ q => q)
    obtain ⟨s, ρ1⟩ := r
    cases s with
    | val d =>
      cases d with
      | bool v =>
        cases v with
        | true =>
          refine wp_bind' (wp_mono q (fun r q => ?_) fun _ q => q)
          obtain ⟨fl, ρ2⟩ := r
          cases fl with
          | nx => obtain ⟨j, hj, hi⟩ := q; exact whileN_wp I step n j ρ2 (by omega) hi
          | cnt => obtain ⟨j, hj, hi⟩ := q; exact whileN_wp I step n j ρ2 (by omega) hi
          | brk => exact q
          | ret x => exact q
        | false => exact q
      | _ => exact q.elim
    | _ => exact q.elim
/-- the law's end, by what it may give -/
theorem law_of {K : PySem.W.Frag} {mg : Str → Option Value} {H : Hp} {a : Addr} {ns : List Int} {φ : List Slot → Out (Slot × List Slot)} (h : (φ [.scr ns]).wp (fun r => r.1 = .val (.bool true)) fun _ => False) (hS : SqL K H a (ns.map V.int)) {Q : VK} {E : XK} (hQ : ∀ H', Q (.bl true) H') : SpF mg K 1 φ [.ref a] H Q E := by
  refine ⟨rfl, H, [.scr ns], .refl H, rfl, ⟨rfl, fun i d q => ?_, fun i ms q => ?_, fun i s q qs => ?_, fun i v q => ?_, fun i j s t b ne q qs => ?_⟩, fun s hs => ?_, ?_⟩
  · cases i with
    | zero => cases q
    | succ i => simp at q
  · cases i with
    | zero => cases q; exact ⟨a, rfl, hS⟩
    | succ i => simp at q
  · cases i with
    | zero => cases q; cases qs
    | succ i => simp at q
  · cases i with
    | zero => cases q; rfl
    | succ i => simp at q
  · cases i with
    | zero => cases q; cases qs
    | succ i => simp at q
  · simp at hs; subst hs; exact fun z => nomatch z
  · refine wp_mono h (fun r e v F' H' b => ?_) fun _ z => z.elim
    obtain ⟨r, outs⟩ := r
    have e : r = .val (.bool true) := e
    subst e
    rcases b.ret with ⟨d, e, r⟩ | ⟨e, _⟩
    · cases e; cases r; exact hQ _
    · cases e
theorem noExc {P : Program} {w : World} {o : List PySem.Env} {H : Hp} {s s' : Shared} {e : Value} (h : L2N.CX P w o H s (fun _ _ _ => False) e s') : False := by
  obtain ⟨_, _, _, _, _, _, _, _, _, _, _, _, z⟩ := h
  exact z
end Dn

/-! Den15: how meanings are taken apart, one step at a time. -/
namespace Dn
open PySem PySem.Spec L2
open PyProof.Rows hiding St
section
variable {Φ : Calls} {ρ ρ2 : Env} {a b c t : Den} {o e l : DenO} {as : DenOs} {f : Prim} {s s' : DenS} {i j n np : Nat} {d x y : PyData} {r : DenA} {is : List Nat} {q : Str} {T : String} {g : MutF} {tg : Tgt} {so : DenI}
  {g3 : PyData → Option Int → Option Int → Option Slot} {l1 l2 : Option DenO} {g1 g2 : Int → Int → Bool} {ds es xs : List PyData} {ss : List Slot} {sl s2 : Slot} {la : List (Option Nat × Slot)} {ns : List Int} {k m : Int} {v : Bool}
def kSeq (s' : DenS) (Φ : Calls) : Fl × Env → Out (Fl × Env) := fun r => match r.1 with
  | .nx => s' Φ r.2
  | f => .ok (f, r.2)
@[simp] theorem x_dSeq : dSeq s s' Φ ρ = (s Φ ρ).bind (kSeq s' Φ) := id rfl
@[simp] theorem x_dSeq1 : kSeq s' Φ (.nx, ρ) = s' Φ ρ := id rfl
@[simp] theorem x_dSeq2 : kSeq s' Φ (.brk, ρ) = .ok (.brk, ρ) := id rfl
@[simp] theorem x_dSeq3 : kSeq s' Φ (.cnt, ρ) = .ok (.cnt, ρ) := id rfl
@[simp] theorem x_dSeq4 : kSeq s' Φ (.ret sl, ρ) = .ok (.ret sl, ρ) := id rfl
def vGet (o : Option Slot) (i : Nat) (ρ : Env) : Out (Slot × Env) := match o with
  | some (.val d) => .ok (.val d, ρ)
  | some (.own ds) => .ok (.val (.list ds), ρ.set i (.val (.list ds)))
  | some (.odc false es) => .ok (.val (.dict es), ρ.set i (.val (.dict es)))
  | _ => .stuck
@[simp] theorem x_dVar : dVar i Φ ρ = vGet (ρ[i]?) i ρ := id rfl
@[simp] theorem x_dVar1 : vGet (some (.val d)) i ρ = .ok (.val d, ρ) := id rfl
@[simp] theorem x_dVar2 : vGet (some (.own ds)) i ρ = .ok (.val (.list ds), ρ.set i (.val (.list ds))) := id rfl
def oGet (o : Option Slot) (ρ : Env) : Out (PyData × Env) := match o with
  | some (.val d) => .ok (d, ρ)
  | some (.own ds) => .ok (.list ds, ρ)
  | some (.odc false es) => .ok (.dict es, ρ)
  | _ => .stuck
@[simp] theorem x_oVar : oVar i Φ ρ = oGet (ρ[i]?) ρ := id rfl
@[simp] theorem x_oVar1 : oGet (some (.val d)) ρ = .ok (d, ρ) := id rfl
@[simp] theorem x_oVar2 : oGet (some (.own ds)) ρ = .ok (.list ds, ρ) := id rfl
@[simp] theorem x_dLit : dLit d Φ ρ = .ok (.val d, ρ) := id rfl
def kOf : Slot × Env → Out (PyData × Env) := fun r => match r.1 with
  | .val x => .ok (x, r.2)
  | .own ds => .ok (.list ds, r.2)
  | .odc false es => .ok (.dict es, r.2)
  | _ => .stuck
@[simp] theorem x_oOf : oOf a Φ ρ = (a Φ ρ).bind kOf := id rfl
@[simp] theorem x_oOf1 : kOf (.val d, ρ) = .ok (d, ρ) := id rfl
@[simp] theorem x_oOf2 : kOf (.own ds, ρ) = .ok (.list ds, ρ) := id rfl
def kOs2 (x : PyData) : List PyData × Env → Out (List PyData × Env) := fun y => .ok (x :: y.1, y.2)
def kOs (as : DenOs) (Φ : Calls) : PyData × Env → Out (List PyData × Env) := fun x => (as Φ x.2).bind (kOs2 x.1)
@[simp] theorem x_osNil : osNil Φ ρ = .ok ([], ρ) := id rfl
@[simp] theorem x_osCons : osCons o as Φ ρ = (o Φ ρ).bind (kOs as Φ) := id rfl
@[simp] theorem x_osCons1 : kOs as Φ (x, ρ) = (as Φ ρ).bind (kOs2 x) := id rfl
@[simp] theorem x_osCons2 : kOs2 x (ds, ρ) = .ok (x :: ds, ρ) := id rfl
@[simp] theorem x_fsNil : fsNil Φ ρ = .ok ([], ρ) := id rfl
@[simp] theorem x_fsCons : fsCons a as Φ ρ = (oOf a Φ ρ).bind (kOs as Φ) := id rfl
def kTup : List PyData × Env → Out (Slot × Env) := fun x => guard' (decide (x.1.length ≤ 1000)) (.ok (.val (.tuple x.1), x.2))
def kLst : List PyData × Env → Out (Slot × Env) := fun x => guard' (decide (x.1.length ≤ 1000)) (.ok (.own x.1, x.2))
@[simp] theorem x_dTup : dTup as Φ ρ = (as Φ ρ).bind kTup := id rfl
@[simp] theorem x_dTup1 : kTup (ds, ρ) = guard' (decide (ds.length ≤ 1000)) (.ok (.val (.tuple ds), ρ)) := id rfl
@[simp] theorem x_dLst : dLst as Φ ρ = (as Φ ρ).bind kLst := id rfl
@[simp] theorem x_dLst1 : kLst (ds, ρ) = guard' (decide (ds.length ≤ 1000)) (.ok (.own ds, ρ)) := id rfl
def kP2 (o : Option Slot) (ρ : Env) : Out (Slot × Env) := (opt o).bind fun s => .ok (s, ρ)
def kP (f : Prim) : List PyData × Env → Out (Slot × Env) := fun x => kP2 (f x.1) x.2
@[simp] theorem x_dP : dP f as Φ ρ = (as Φ ρ).bind (kP f) := id rfl
@[simp] theorem x_dP1 : kP f (ds, ρ) = kP2 (f ds) ρ := id rfl
@[simp] theorem x_dP2 : kP2 (some sl) ρ = .ok (sl, ρ) := id rfl
def kNot : Slot × Env → Out (Slot × Env) := fun x => match x.1 with
  | .val (.bool b) => .ok (.val (.bool !b), x.2)
  | _ => .stuck
@[simp] theorem x_dNot : dNot a Φ ρ = (a Φ ρ).bind kNot := id rfl
@[simp] theorem x_dNot1 : kNot (.val (.bool v), ρ) = .ok (.val (.bool !v), ρ) := id rfl
def kAnd (b : Den) (Φ : Calls) : Slot × Env → Out (Slot × Env) := fun x => match x.1 with
  | .val (.bool true) => b Φ x.2
  | .val (.bool false) => .ok (.val (.bool false), x.2)
  | _ => .stuck
@[simp] theorem x_dAnd : dAnd a b Φ ρ = (a Φ ρ).bind (kAnd b Φ) := id rfl
@[simp] theorem x_dAnd1 : kAnd b Φ (.val (.bool true), ρ) = b Φ ρ := id rfl
@[simp] theorem x_dAnd2 : kAnd b Φ (.val (.bool false), ρ) = .ok (.val (.bool false), ρ) := id rfl
def kOr (b : Den) (Φ : Calls) : Slot × Env → Out (Slot × Env) := fun x => match x.1 with
  | .val (.bool true) => .ok (.val (.bool true), x.2)
  | .val (.bool false) => b Φ x.2
  | _ => .stuck
@[simp] theorem x_dOr : dOr a b Φ ρ = (a Φ ρ).bind (kOr b Φ) := id rfl
@[simp] theorem x_dOr1 : kOr b Φ (.val (.bool true), ρ) = .ok (.val (.bool true), ρ) := id rfl
@[simp] theorem x_dOr2 : kOr b Φ (.val (.bool false), ρ) = b Φ ρ := id rfl
def kIf (a b : Den) (Φ : Calls) : Slot × Env → Out (Slot × Env) := fun x => match x.1 with
  | .val (.bool true) => a Φ x.2
  | .val (.bool false) => b Φ x.2
  | _ => .stuck
@[simp] theorem x_dIf : dIf t a b Φ ρ = (t Φ ρ).bind (kIf a b Φ) := id rfl
@[simp] theorem x_dIf1 : kIf a b Φ (.val (.bool true), ρ) = a Φ ρ := id rfl
@[simp] theorem x_dIf2 : kIf a b Φ (.val (.bool false), ρ) = b Φ ρ := id rfl
def kScr2 (o : Option Int) (ρ : Env) : Out (Slot × Env) := (opt o).bind fun n => .ok (.val (.int n), ρ)
def kScr (ns : List Int) : PyData × Env → Out (Slot × Env) := fun x => match x.1 with
  | .int k => kScr2 (atI ns k) x.2
  | _ => .stuck
def sAt (p : Option Slot) (o : DenO) (Φ : Calls) (ρ : Env) : Out (Slot × Env) := match p with
  | some (.scr ns) => (o Φ ρ).bind (kScr ns)
  | _ => .stuck
@[simp] theorem x_dScrAt : dScrAt i o Φ ρ = sAt (ρ[i]?) o Φ ρ := id rfl
@[simp] theorem x_dScrAt1 : sAt (some (.scr ns)) o Φ ρ = (o Φ ρ).bind (kScr ns) := id rfl
@[simp] theorem x_dScrAt2 : kScr ns (.int k, ρ) = kScr2 (atI ns k) ρ := id rfl
@[simp] theorem x_dScrAt3 : kScr2 (some k) ρ = .ok (.val (.int k), ρ) := id rfl
def sLen (p : Option Slot) (ρ : Env) : Out (Slot × Env) := match p with
  | some (.scr ns) => .ok (.val (.int ns.length), ρ)
  | _ => .stuck
@[simp] theorem x_dScrLen : dScrLen i Φ ρ = sLen (ρ[i]?) ρ := id rfl
@[simp] theorem x_dScrLen1 : sLen (some (.scr ns)) ρ = .ok (.val (.int ns.length), ρ) := id rfl
def kPart : PyData × Env → Out (Option Int × Env) := fun x => match x.1 with
  | .int k => .ok (some k, x.2)
  | _ => .stuck
@[simp] theorem x_oPart0 : oPart none Φ ρ = .ok (none, ρ) := id rfl
@[simp] theorem x_oPart1 : oPart (some o) Φ ρ = (o Φ ρ).bind kPart := id rfl
@[simp] theorem x_oPart2 : kPart (.int k, ρ) = .ok (some k, ρ) := id rfl
def kAs (p : Option Nat × Slot) : List (Option Nat × Slot) × Env → Out (List (Option Nat × Slot) × Env) := fun y => .ok (p :: y.1, y.2)
def aVar (p : Option Slot) (i : Nat) (r : DenA) (Φ : Calls) (ρ : Env) : Out (List (Option Nat × Slot) × Env) := match p with
  | some (.val d) => (r Φ ρ).bind (kAs (none, .val d))
  | some (.scr ns) => (r Φ ρ).bind (kAs (none, .scr ns))
  | some (.own ds) => (r Φ (ρ.set i .un)).bind (kAs (some i, .own ds))
  | some (.odc t es) => (r Φ (ρ.set i .un)).bind (kAs (some i, .odc t es))
  | _ => .stuck
def kAe (r : DenA) (Φ : Calls) : Slot × Env → Out (List (Option Nat × Slot) × Env) := fun x => (r Φ x.2).bind (kAs (none, x.1))
@[simp] theorem x_asNil : asNil Φ ρ = .ok ([], ρ) := id rfl
@[simp] theorem x_asVar : asVar i r Φ ρ = aVar (ρ[i]?) i r Φ ρ := id rfl
@[simp] theorem x_asVar1 : aVar (some (.val d)) i r Φ ρ = (r Φ ρ).bind (kAs (none, .val d)) := id rfl
@[simp] theorem x_asVar2 : aVar (some (.scr ns)) i r Φ ρ = (r Φ ρ).bind (kAs (none, .scr ns)) := id rfl
@[simp] theorem x_asVar3 : aVar (some (.own ds)) i r Φ ρ = (r Φ (ρ.set i .un)).bind (kAs (some i, .own ds)) := id rfl
@[simp] theorem x_asVar4 {p : Option Nat × Slot} : kAs p (la, ρ) = .ok (p :: la, ρ) := id rfl
@[simp] theorem x_asExp : asExp a r Φ ρ = (a Φ ρ).bind (kAe r Φ) := id rfl
@[simp] theorem x_asExp1 : kAe r Φ (sl, ρ) = (r Φ ρ).bind (kAs (none, sl)) := id rfl
def kCall2 (n : Nat) (la : List (Option Nat × Slot)) (ρ : Env) : Slot × List Slot → Out (Slot × Env) := fun r => guard' (r.2.length == n) (.ok (r.1, giveBack la r.2 ρ))
def kCall (q : Str) (n : Nat) (Φ : Calls) : List (Option Nat × Slot) × Env → Out (Slot × Env) := fun y => guard' (y.1.length == n) ((Φ q (y.1.map (·.2))).bind (kCall2 n y.1 y.2))
@[simp] theorem x_dCall : dCall q n r Φ ρ = (r Φ ρ).bind (kCall q n Φ) := id rfl
@[simp] theorem x_dCall1 : kCall q n Φ (la, ρ) = guard' (la.length == n) ((Φ q (la.map (·.2))).bind (kCall2 n la ρ)) := id rfl
@[simp] theorem x_dCall2 : kCall2 n la ρ (sl, ss) = guard' (ss.length == n) (.ok (sl, giveBack la ss ρ)) := id rfl
@[simp] theorem x_gb0 : giveBack [] [] ρ = ρ := id rfl
@[simp] theorem x_gb1 : giveBack ((some i, sl) :: la) (s2 :: ss) ρ = giveBack la ss (ρ.set i s2) := id rfl
@[simp] theorem x_gb2 : giveBack ((none, sl) :: la) (s2 :: ss) ρ = giveBack la ss ρ := id rfl
@[simp] theorem x_dSkip : dSkip Φ ρ = .ok (.nx, ρ) := id rfl
@[simp] theorem x_dBrk : dBrk Φ ρ = .ok (.brk, ρ) := id rfl
@[simp] theorem x_dCnt : dCnt Φ ρ = .ok (.cnt, ρ) := id rfl
@[simp] theorem x_dStop : dStop Φ ρ = .stuck := id rfl
def kDo : Slot × Env → Out (Fl × Env) := fun r => .ok (.nx, r.2)
@[simp] theorem x_dDo : dDo a Φ ρ = (a Φ ρ).bind kDo := id rfl
@[simp] theorem x_dDo1 : kDo (sl, ρ) = .ok (.nx, ρ) := id rfl
def kIfS (s s' : DenS) (Φ : Calls) : Slot × Env → Out (Fl × Env) := fun r => match r.1 with
  | .val (.bool true) => s Φ r.2
  | .val (.bool false) => s' Φ r.2
  | _ => .stuck
@[simp] theorem x_dIfS : dIfS t s s' Φ ρ = (t Φ ρ).bind (kIfS s s' Φ) := id rfl
@[simp] theorem x_dIfS1 : kIfS s s' Φ (.val (.bool true), ρ) = s Φ ρ := id rfl
@[simp] theorem x_dIfS2 : kIfS s s' Φ (.val (.bool false), ρ) = s' Φ ρ := id rfl
def kSet (i : Nat) : Slot × Env → Out (Fl × Env) := fun r => .ok (.nx, r.2.set i r.1)
@[simp] theorem x_dSet : dSet i a Φ ρ = (a Φ ρ).bind (kSet i) := id rfl
@[simp] theorem x_dSet1 : kSet i (sl, ρ) = .ok (.nx, ρ.set i sl) := id rfl
def rGet (o : Option Slot) (i : Nat) (ρ : Env) : Out (Fl × Env) := match o with
  | some (.val d) => .ok (.ret (.val d), ρ)
  | some (.own ds) => .ok (.ret (.own ds), ρ.set i .un)
  | some (.odc t es) => .ok (.ret (.odc t es), ρ.set i .un)
  | _ => .stuck
@[simp] theorem x_dRetV : dRetV i Φ ρ = rGet (ρ[i]?) i ρ := id rfl
@[simp] theorem x_dRetV1 : rGet (some (.val d)) i ρ = .ok (.ret (.val d), ρ) := id rfl
@[simp] theorem x_dRetV2 : rGet (some (.own ds)) i ρ = .ok (.ret (.own ds), ρ.set i .un) := id rfl
def kRet : Slot × Env → Out (Fl × Env) := fun r => .ok (.ret r.1, r.2)
@[simp] theorem x_dRet : dRet a Φ ρ = (a Φ ρ).bind kRet := id rfl
@[simp] theorem x_dRet1 : kRet (sl, ρ) = .ok (.ret sl, ρ) := id rfl
@[simp] theorem x_dRetN : dRetN Φ ρ = .ok (.ret (.val .none), ρ) := id rfl
def kUnp2 (o : Option Env) : Out (Fl × Env) := (opt o).bind fun ρ => .ok (.nx, ρ)
def kUnp (is : List Nat) : Slot × Env → Out (Fl × Env) := fun r => match r.1 with
  | .val (.tuple ds) => kUnp2 (setAll is ds r.2)
  | _ => .stuck
@[simp] theorem x_dUnp : dUnp is a Φ ρ = (a Φ ρ).bind (kUnp is) := id rfl
@[simp] theorem x_dUnp1 : kUnp is (.val (.tuple ds), ρ) = kUnp2 (setAll is ds ρ) := id rfl
@[simp] theorem x_dUnp2 : kUnp2 (some ρ) = .ok (.nx, ρ) := id rfl
@[simp] theorem x_set0 : setAll [] [] ρ = some ρ := id rfl
@[simp] theorem x_set1 : setAll (i :: is) (d :: ds) ρ = setAll is ds (ρ.set i (.val d)) := id rfl
def kPar (i j : Nat) : List PyData × Env → Out (Fl × Env) := fun r => match r.1 with
  | [x, y] => .ok (.nx, (r.2.set i (.val x)).set j (.val y))
  | _ => .stuck
@[simp] theorem x_dPar : dPar i j as Φ ρ = (as Φ ρ).bind (kPar i j) := id rfl
@[simp] theorem x_dPar1 : kPar i j ([x, y], ρ) = .ok (.nx, (ρ.set i (.val x)).set j (.val y)) := id rfl
def kSx4 (o : Option Nat) (i : Nat) (ds : List PyData) (x : PyData) (ρ : Env) : Out (Fl × Env) := (opt o).bind fun m => .ok (.nx, ρ.set i (.own (ds.set m x)))
def kSx2 (i : Nat) (x : PyData) : PyData × Env → Out (Fl × Env) := fun j => match j.1, j.2[i]? with
  | .int n, some (.own ds) => kSx4 (ixN ds.length n) i ds x j.2
  | _, _ => .stuck
def kSx3 (o : Option Slot) (i : Nat) (n : Int) (x : PyData) (ρ : Env) : Out (Fl × Env) := match o with
  | some (.own ds) => kSx4 (ixN ds.length n) i ds x ρ
  | _ => .stuck
def kSx (i : Nat) (o : DenO) (Φ : Calls) : PyData × Env → Out (Fl × Env) := fun r => guard' (isOwnL r.2 i) ((o Φ r.2).bind (kSx2 i r.1))
@[simp] theorem x_dSetIx : dSetIx i o a Φ ρ = (oOf a Φ ρ).bind (kSx i o Φ) := id rfl
@[simp] theorem x_dSetIx1 : kSx i o Φ (x, ρ) = guard' (isOwnL ρ i) ((o Φ ρ).bind (kSx2 i x)) := id rfl
@[simp] theorem x_dSetIx2 : kSx2 i x (.int k, ρ) = kSx3 (ρ[i]?) i k x ρ := by
  unfold kSx2 kSx3
  cases h : ρ[i]? with
  | none => simp [h]
  | some s => cases s <;> simp [h]
@[simp] theorem x_dSetIx3 : kSx3 (some (.own ds)) i k x ρ = kSx4 (ixN ds.length k) i ds x ρ := id rfl
@[simp] theorem x_dSetIx4 : kSx4 (some j) i ds x ρ = .ok (.nx, ρ.set i (.own (ds.set j x))) := id rfl
def kMut3 (o : Option (PyData × List PyData)) (i : Nat) (ρ : Env) : Out (Slot × Env) := (opt o).bind fun m => .ok (.val m.1, ρ.set i (.own m.2))
def kMut2 (p : Option Slot) (i : Nat) (g : MutF) (xs : List PyData) (ρ : Env) : Out (Slot × Env) := match p with
  | some (.own ds) => kMut3 (g ds xs) i ρ
  | _ => .stuck
def kMut (i : Nat) (g : MutF) : List PyData × Env → Out (Slot × Env) := fun r => kMut2 (r.2[i]?) i g r.1 r.2
@[simp] theorem x_dMut : dMut i g as Φ ρ = guard' (isOwnL ρ i) ((as Φ ρ).bind (kMut i g)) := id rfl
@[simp] theorem x_dMut1 : kMut i g (xs, ρ) = kMut2 (ρ[i]?) i g xs ρ := id rfl
@[simp] theorem x_dMut2 : kMut2 (some (.own ds)) i g xs ρ = kMut3 (g ds xs) i ρ := id rfl
@[simp] theorem x_dMut3 : kMut3 (some (x, ds)) i ρ = .ok (.val x, ρ.set i (.own ds)) := id rfl
def kSq : PyData × Env → Out (List PyData × Env) := fun r => match r.1 with
  | .list ds => .ok (ds, r.2)
  | .tuple ds => .ok (ds, r.2)
  | _ => .stuck
@[simp] theorem x_iSeq : iSeq o Φ ρ = (o Φ ρ).bind kSq := id rfl
@[simp] theorem x_iSeq1 : kSq (.list ds, ρ) = .ok (ds, ρ) := id rfl
@[simp] theorem x_iSeq2 : kSq (.tuple ds, ρ) = .ok (ds, ρ) := id rfl
def kR1 : PyData × Env → Out (List PyData × Env) := fun r => match r.1 with
  | .int n => guard' (small62 n) (.ok (rngD 0 n.toNat, r.2))
  | _ => .stuck
@[simp] theorem x_iR1 : iR1 o Φ ρ = (o Φ ρ).bind kR1 := id rfl
@[simp] theorem x_iR1a : kR1 (.int k, ρ) = guard' (small62 k) (.ok (rngD 0 k.toNat, ρ)) := id rfl
def kR2b (x : PyData) : PyData × Env → Out (List PyData × Env) := fun s => match x, s.1 with
  | .int i, .int j => guard' (small62 i && small62 j) (.ok (rngD i (j - i).toNat, s.2))
  | _, _ => .stuck
def kR2 (e : DenO) (Φ : Calls) : PyData × Env → Out (List PyData × Env) := fun r => (e Φ r.2).bind (kR2b r.1)
@[simp] theorem x_iR2 : iR2 o e Φ ρ = (o Φ ρ).bind (kR2 e Φ) := id rfl
@[simp] theorem x_iR2a : kR2 e Φ (x, ρ) = (e Φ ρ).bind (kR2b x) := id rfl
@[simp] theorem x_iR2b : kR2b (.int k) (.int m, ρ) = guard' (small62 k && small62 m) (.ok (rngD k (m - k).toNat, ρ)) := id rfl
def fB2 (o : Option Env) (s : DenS) (Φ : Calls) : Out (Fl × Env) := (opt o).bind fun ρ => s Φ ρ
def fB (tg : Tgt) (s : DenS) (Φ : Calls) : PyData → Env → Out (Fl × Env) := fun d ρ => fB2 (putT tg d ρ) s Φ
def kFor (tg : Tgt) (s : DenS) (Φ : Calls) : List PyData × Env → Out (Fl × Env) := fun r => forL (fB tg s Φ) r.1 r.2
@[simp] theorem x_dFor : dFor tg so s Φ ρ = (so Φ ρ).bind (kFor tg s Φ) := id rfl
@[simp] theorem x_dFor1 : kFor tg s Φ (ds, ρ) = forL (fB tg s Φ) ds ρ := id rfl
@[simp] theorem x_dFor2 : fB tg s Φ d ρ = fB2 (putT tg d ρ) s Φ := id rfl
@[simp] theorem x_dFor3 : fB2 (some ρ) s Φ = s Φ ρ := id rfl
@[simp] theorem x_forL0 {h : PyData → Env → Out (Fl × Env)} : forL h [] ρ = .ok (.nx, ρ) := id rfl
@[simp] theorem x_putNm : putT (.nm i) d ρ = some (ρ.set i (.val d)) := id rfl
@[simp] theorem x_putTp : putT (.tp is) (.tuple ds) ρ = setAll is ds ρ := id rfl
@[simp] theorem x_dWhile : dWhile a s Φ ρ = whileN a s Φ turnsMost ρ := id rfl
def kLR : List PyData × Env → Out (Slot × Env) := fun r => guard' (decide (r.1.length ≤ 1000000)) (.ok (.own r.1, r.2))
@[simp] theorem x_dListR : dListR so Φ ρ = (so Φ ρ).bind kLR := id rfl
@[simp] theorem x_dListR1 : kLR (ds, ρ) = guard' (decide (ds.length ≤ 1000000)) (.ok (.own ds, ρ)) := id rfl
def kEn : PyData × Env → Out (List PyData × Env) := fun r => match r.1 with
  | .list ds => .ok (pairUp (rngD 0 ds.length) ds, r.2)
  | _ => .stuck
@[simp] theorem x_iEnumD : iEnumD a Φ ρ = (oOf a Φ ρ).bind kEn := id rfl
@[simp] theorem x_iEnumD1 : kEn (.list ds, ρ) = .ok (pairUp (rngD 0 ds.length) ds, ρ) := id rfl
def kZp : List PyData × Env → Out (List PyData × Env) := fun r => match r.1 with
  | [.list ds, .list es] => .ok (pairUp ds es, r.2)
  | [.tuple ds, .tuple es] => .ok (pairUp ds es, r.2)
  | _ => .stuck
@[simp] theorem x_iZipD : iZipD as Φ ρ = (as Φ ρ).bind kZp := id rfl
@[simp] theorem x_iZipD1 : kZp ([.list ds, .list es], ρ) = .ok (pairUp ds es, ρ) := id rfl
@[simp] theorem x_iZipD2 : kZp ([.tuple ds, .tuple es], ρ) = .ok (pairUp ds es, ρ) := id rfl
def kSS2 (o : Option (List PyData)) (ρ : Env) : Out (Slot × Env) := (opt o).bind fun ds => .ok (.own ds, ρ)
def kSS : PyData × Env → Out (Slot × Env) := fun r => kSS2 (pSortSet r.1) r.2
@[simp] theorem x_dSS : dSS o Φ ρ = (o Φ ρ).bind kSS := id rfl
@[simp] theorem x_dSS1 : kSS (x, ρ) = kSS2 (pSortSet x) ρ := id rfl
@[simp] theorem x_dSS2 : kSS2 (some ds) ρ = .ok (.own ds, ρ) := id rfl
def kLc2 (is : List Nat) (ρ : Env) : List PyData × Env → Out (Slot × Env) := fun z => .ok (.own z.1, unwipe is ρ z.2)
def kLc (tg : Tgt) (t a : Den) (is : List Nat) (Φ : Calls) : List PyData × Env → Out (Slot × Env) := fun r => guard' (decide (r.1.length ≤ 1000000)) ((noX (lcL (lcT tg t a is Φ) r.1 (wipeE is r.2))).bind (kLc2 is r.2))
@[simp] theorem x_dLc : dLc tg so t a is Φ ρ = (so Φ ρ).bind (kLc tg t a is Φ) := id rfl
@[simp] theorem x_dLc1 : kLc tg t a is Φ (ds, ρ) = guard' (decide (ds.length ≤ 1000000)) ((noX (lcL (lcT tg t a is Φ) ds (wipeE is ρ))).bind (kLc2 is ρ)) := id rfl
@[simp] theorem x_dLc2 : kLc2 is ρ (ds, ρ2) = .ok (.own ds, unwipe is ρ ρ2) := id rfl
def lT3 (is : List Nat) : PyData × Env → Out (Option PyData × Env) := fun y => .ok (some y.1, wipeE is y.2)
def lT2 (a : Den) (is : List Nat) (Φ : Calls) : Slot × Env → Out (Option PyData × Env) := fun b => match b.1 with
  | .val (.bool true) => (oOf a Φ b.2).bind (lT3 is)
  | .val (.bool false) => .ok (none, wipeE is b.2)
  | _ => .stuck
def lT1 (o : Option Env) (t a : Den) (is : List Nat) (Φ : Calls) : Out (Option PyData × Env) := (opt o).bind fun ρ => (t Φ ρ).bind (lT2 a is Φ)
@[simp] theorem x_lcT : lcT tg t a is Φ d ρ = lT1 (putT tg d ρ) t a is Φ := id rfl
@[simp] theorem x_lcT1 : lT1 (some ρ) t a is Φ = (t Φ ρ).bind (lT2 a is Φ) := id rfl
@[simp] theorem x_lcT2 : lT2 a is Φ (.val (.bool true), ρ) = (oOf a Φ ρ).bind (lT3 is) := id rfl
@[simp] theorem x_lcT3 : lT2 a is Φ (.val (.bool false), ρ) = .ok (none, wipeE is ρ) := id rfl
@[simp] theorem x_lcT4 : lT3 is (d, ρ) = .ok (some d, wipeE is ρ) := id rfl
@[simp] theorem x_dYes : dYes Φ ρ = .ok (.val (.bool true), ρ) := id rfl
@[simp] theorem x_wipe0 : wipeE [] ρ = ρ := id rfl
@[simp] theorem x_wipe1 : wipeE (i :: is) ρ = (wipeE is ρ).set i .un := id rfl
def uW (o : Option Slot) (i : Nat) (ρ : Env) : Env := match o with
  | some (.val d) => ρ.set i (.val d)
  | _ => ρ
@[simp] theorem x_unw0 : unwipe [] ρ ρ2 = ρ2 := id rfl
@[simp] theorem x_unw1 : unwipe (i :: is) ρ ρ2 = uW (ρ[i]?) i (unwipe is ρ ρ2) := by
  show (match ρ[i]? with
    | some (.val d) => (unwipe is ρ ρ2).set i (.val d)
    | _ => unwipe is ρ ρ2) = _
  unfold uW
  split <;> rfl
@[simp] theorem x_unw2 : uW (some (.val d)) i ρ = ρ.set i (.val d) := id rfl
@[simp] theorem x_unw3 : uW (some .un) i ρ = ρ := id rfl
@[simp] theorem x_unw4 : uW (some (.own ds)) i ρ = ρ := id rfl
def kSl3 (g3 : PyData → Option Int → Option Int → Option Slot) (x : PyData) (lo : Option Int) : Option Int × Env → Out (Slot × Env) := fun u => kP2 (g3 x lo u.1) u.2
def kSl2 (g3 : PyData → Option Int → Option Int → Option Slot) (l2 : Option DenO) (Φ : Calls) (x : PyData) : Option Int × Env → Out (Slot × Env) := fun l => (oPart l2 Φ l.2).bind (kSl3 g3 x l.1)
def kSl (g3 : PyData → Option Int → Option Int → Option Slot) (l1 l2 : Option DenO) (Φ : Calls) : PyData × Env → Out (Slot × Env) := fun x => (oPart l1 Φ x.2).bind (kSl2 g3 l2 Φ x.1)
@[simp] theorem x_dSl : dSl g3 o l1 l2 Φ ρ = (o Φ ρ).bind (kSl g3 l1 l2 Φ) := id rfl
@[simp] theorem x_dSl1 : kSl g3 l1 l2 Φ (x, ρ) = (oPart l1 Φ ρ).bind (kSl2 g3 l2 Φ x) := id rfl
@[simp] theorem x_dSl2 {lo : Option Int} : kSl2 g3 l2 Φ x (lo, ρ) = (oPart l2 Φ ρ).bind (kSl3 g3 x lo) := id rfl
@[simp] theorem x_dSl3 {lo hi : Option Int} : kSl3 g3 x lo (hi, ρ) = kP2 (g3 x lo hi) ρ := id rfl
def kCh4 (g2 : Int → Int → Bool) (j : Int) : PyData × Env → Out (Slot × Env) := fun z => match z.1 with
  | .int k => .ok (.val (.bool (g2 j k)), z.2)
  | _ => .stuck
def kCh3 (b : Bool) (g2 : Int → Int → Bool) (l : DenO) (Φ : Calls) (j : Int) (ρ : Env) : Out (Slot × Env) := if b then (l Φ ρ).bind (kCh4 g2 j) else .ok (.val (.bool false), ρ)
def kCh2 (g1 g2 : Int → Int → Bool) (l : DenO) (Φ : Calls) (x : PyData) : PyData × Env → Out (Slot × Env) := fun y => match x, y.1 with
  | .int i, .int j => kCh3 (g1 i j) g2 l Φ j y.2
  | _, _ => .stuck
def kCh (g1 g2 : Int → Int → Bool) (e l : DenO) (Φ : Calls) : PyData × Env → Out (Slot × Env) := fun x => (e Φ x.2).bind (kCh2 g1 g2 l Φ x.1)
@[simp] theorem x_dCh : dCh g1 g2 o e l Φ ρ = (o Φ ρ).bind (kCh g1 g2 e l Φ) := id rfl
@[simp] theorem x_dCh1 : kCh g1 g2 e l Φ (x, ρ) = (e Φ ρ).bind (kCh2 g1 g2 l Φ x) := id rfl
@[simp] theorem x_dCh2 : kCh2 g1 g2 l Φ (.int k) (.int m, ρ) = kCh3 (g1 k m) g2 l Φ m ρ := id rfl
@[simp] theorem x_dCh3 : kCh3 true g2 l Φ m ρ = (l Φ ρ).bind (kCh4 g2 m) := id rfl
@[simp] theorem x_dCh4 : kCh3 false g2 l Φ m ρ = .ok (.val (.bool false), ρ) := id rfl
@[simp] theorem x_dCh5 : kCh4 g2 m (.int k, ρ) = .ok (.val (.bool (g2 m k)), ρ) := id rfl
def kM2 (f : Prim) (x : PyData) : List PyData × Env → Out (Slot × Env) := fun a => kP2 (f (x :: a.1)) a.2
def kM (T : String) (f : Prim) (as : DenOs) (Φ : Calls) : PyData × Env → Out (Slot × Env) := fun o => guard' (tyD o.1 == T) ((as Φ o.2).bind (kM2 f o.1))
@[simp] theorem x_dM : dM T f o as Φ ρ = (o Φ ρ).bind (kM T f as Φ) := id rfl
@[simp] theorem x_dM1 : kM T f as Φ (x, ρ) = guard' (tyD x == T) ((as Φ ρ).bind (kM2 f x)) := id rfl
@[simp] theorem x_dM2 : kM2 f x (ds, ρ) = kP2 (f (x :: ds)) ρ := id rfl
@[simp] theorem x_tyT : tyD (.tuple ds) = "tuple" := id rfl
@[simp] theorem x_tyL : tyD (.list ds) = "list" := id rfl
@[simp] theorem x_ok {A1 B1 : Type} {u : A1} {h : A1 → Out B1} : (Out.ok u).bind h = h u := id rfl
@[simp] theorem x_stk {A1 B1 : Type} {h : A1 → Out B1} : (Out.stuck : Out A1).bind h = .stuck := id rfl
@[simp] theorem x_gt {A1 : Type} {h : Out A1} : guard' true h = h := id rfl
@[simp] theorem x_nox {A1 : Type} {u : A1} : noX (Out.ok u) = .ok u := id rfl
@[simp] theorem x_wpo {A1 : Type} {u : A1} {P : A1 → Prop} {E : Exc → Prop} : (Out.ok u).wp P E = P u := id rfl
def kBody (ss : List Slot) (np : Nat) : Fl × Env → Out (Slot × List Slot) := fun r => match r.1 with
  | .ret s => fin ss np s r.2
  | .nx => fin ss np (.val .none) r.2
  | _ => .stuck
@[simp] theorem x_body : dBody np n s Φ ss = (s Φ (ss ++ List.replicate (n - np) .un)).bind (kBody ss np) := id rfl
@[simp] theorem x_body1 : kBody ss np (.ret sl, ρ) = guard' (outsOk ss (ρ.take np)) (.ok (sl, ρ.take np)) := id rfl
@[simp] theorem x_body2 : kBody ss np (.nx, ρ) = guard' (outsOk ss (ρ.take np)) (.ok (.val .none, ρ.take np)) := id rfl
@[simp] theorem x_outs0 : outsOk [] ss = true := by cases ss <;> rfl
@[simp] theorem x_outs1 : outsOk (.val d :: ss) (sl :: ρ) = outsOk ss ρ := id rfl
@[simp] theorem x_outs2 : outsOk (.scr ns :: ss) (sl :: ρ) = outsOk ss ρ := id rfl
@[simp] theorem x_outs3 : outsOk (.own ds :: ss) (.own es :: ρ) = outsOk ss ρ := id rfl
@[simp] theorem x_outs4 : outsOk (.own ds :: ss) (.val d :: ρ) = outsOk ss ρ := id rfl
@[simp] theorem x_own0 : isOwnL (.own ds :: ρ) 0 = true := id rfl
@[simp] theorem x_own1 : isOwnL (sl :: ρ) (i + 1) = isOwnL ρ i := by
  unfold isOwnL
  rw [List.getElem?_cons_succ]
@[simp] theorem x_len1 : pLen [.list ds] = some (.val (.int ds.length)) := id rfl
@[simp] theorem x_len2 : pLen [.tuple ds] = some (.val (.int ds.length)) := id rfl
@[simp] theorem x_add1 : pAdd [.int k, .int m] = some (.val (.int (k + m))) := id rfl
@[simp] theorem x_sub1 : pSub [.int k, .int m] = some (.val (.int (k - m))) := id rfl
@[simp] theorem x_lt1 : pLt [.int k, .int m] = some (.val (.bool (decide (k < m)))) := id rfl
@[simp] theorem x_le1 : pLe [.int k, .int m] = some (.val (.bool (decide (k ≤ m)))) := id rfl
@[simp] theorem x_gt1 : pGt [.int k, .int m] = some (.val (.bool (decide (m < k)))) := id rfl
@[simp] theorem x_ge1 : pGe [.int k, .int m] = some (.val (.bool (decide (m ≤ k)))) := id rfl
@[simp] theorem x_eq1 : pEq [.int k, .int m] = some (.val (.bool (decide (k = m)))) := by
  simp [pEq, SeqAt.shaped, PyData.canLay0, PyData.depth, PyData.eqv]
  rfl
@[simp] theorem x_ne1 : pNe [.int k, .int m] = some (.val (.bool (!decide (k = m)))) := by
  simp [pNe, SeqAt.shaped, PyData.canLay0, PyData.depth, PyData.eqv]
  rfl
@[simp] theorem x_ix1 : pIx [.list ds, .int k] = (atI ds k).map .val := id rfl
@[simp] theorem x_ix2 : pIx [.tuple ds, .int k] = (atI ds k).map .val := id rfl
@[simp] theorem x_is1 : pIs T [x] = some (.val (.bool (isT T x))) := id rfl
@[simp] theorem x_lo1 : pListOf [.list ds] = some (.own ds) := id rfl
@[simp] theorem x_lo2 : pListOf [.tuple ds] = some (.own ds) := id rfl
@[simp] theorem x_to1 : pTupOf [.list ds] = some (.val (.tuple ds)) := id rfl
@[simp] theorem x_to2 : pTupOf [.tuple ds] = some (.val (.tuple ds)) := id rfl
theorem x_div (h : 0 < m) (h' : m < 1073741824) : pDiv [.int k, .int m] = some (.val (.int (k / m))) := by
  have : m.natAbs.log2 < 9000 := Nat.lt_of_lt_of_le (PySem.Flt.log2_lt_of (k := 30) (by decide) (by omega)) (by decide)
  simp [pDiv, pI2, h, this]
theorem x_mod (h : 0 < m) : pMod [.int k, .int m] = some (.val (.int (k % m))) := by
  simp [pMod, pI2, h]
theorem big2_of {i j : Int} {a b : Nat} (ha : i.natAbs < 2 ^ a) (hb : j.natAbs < 2 ^ b) (h0 : 0 < a) (h1 : 0 < b) (h : a + b ≤ 1000000) : big2 i j = true := by
  have := wide_mul ha hb h0 h1 h
  unfold big2
  unfold CMulW at this
  simpa using this
theorem x_mul (h : big2 k m = true) : pMul [.int k, .int m] = some (.val (.int (k * m))) := by
  simp [pMul, h]
theorem x_ixn {α : Type} {xs : List α} {n : Nat} {z : α} (h : xs[n]? = some z) : atI xs (n : Int) = some z := by
  unfold atI ixN
  have := (List.getElem?_eq_some_iff.mp h).1
  rw [if_pos (Int.natCast_nonneg n), if_pos (by omega)]
  exact h
@[simp] theorem x_at0 {α : Type} {z : α} {zs : List α} : atI (z :: zs) 0 = some z := x_ixn (n := 0) rfl
@[simp] theorem x_at1 {α : Type} {z w : α} {zs : List α} : atI (z :: w :: zs) 1 = some w := x_ixn (n := 1) rfl
@[simp] theorem x_at2 {α : Type} {z w u : α} {zs : List α} : atI (z :: w :: u :: zs) 2 = some u := x_ixn (n := 2) rfl
@[simp] theorem x_at3 {α : Type} {z w u t : α} {zs : List α} : atI (z :: w :: u :: t :: zs) 3 = some t := x_ixn (n := 3) rfl
end
end Dn

/-! Den16: loops by places; lists of whole numbers, of pairs, as data. -/
namespace Dn
open PySem PySem.Spec L2
open PyProof.Rows hiding St
/-- what a turn must reach -/
def LoopP (N : Env → Prop) (P : Fl × Env → Prop) : Fl × Env → Prop := fun r => match r.1 with
  | .nx => N r.2
  | .cnt => N r.2
  | .brk => P (.nx, r.2)
  | .ret s => P (.ret s, r.2)
@[simp] theorem loopP_nx {N : Env → Prop} {P : Fl × Env → Prop} {ρ : Env} : LoopP N P (.nx, ρ) = N ρ := id rfl
@[simp] theorem loopP_cnt {N : Env → Prop} {P : Fl × Env → Prop} {ρ : Env} : LoopP N P (.cnt, ρ) = N ρ := id rfl
@[simp] theorem loopP_brk {N : Env → Prop} {P : Fl × Env → Prop} {ρ : Env} : LoopP N P (.brk, ρ) = P (.nx, ρ) := id rfl
@[simp] theorem loopP_ret {N : Env → Prop} {P : Fl × Env → Prop} {s : Slot} {ρ : Env} : LoopP N P (.ret s, ρ) = P (.ret s, ρ) := id rfl
theorem forI_wp {f : PyData → Env → Out (Fl × Env)} {P : Fl × Env → Prop} {E : Exc → Prop} {ds : List PyData} {ρ : Env} (I : Nat → Env → Prop) (h : I 0 ρ) (fin : ∀ ρ, I ds.length ρ → P (.nx, ρ))
    (step : ∀ i d ρ, ds[i]? = some d → I i ρ → (f d ρ).wp (LoopP (I (i + 1)) P) E) : (forL f ds ρ).wp P E := by
  refine forL_wp (fun l ρ => ∃ i, l = ds.drop i ∧ i ≤ ds.length ∧ I i ρ) ?fin ?step ds ρ ⟨0, by rw [List.drop_zero], Nat.zero_le _, h⟩
  case fin =>
    intro ρ ⟨i, e, hi, q⟩
    have : i = ds.length := by
      have := congrArg List.length e
      rw [List.length_drop, List.length_nil] at this
      omega
    subst this
    exact fin ρ q
  case step =>
    intro d l ρ ⟨i, e, hi, q⟩
    have lt : i < ds.length := by
      have := congrArg List.length e
      rw [List.length_drop, List.length_cons] at this
      omega
    rw [List.drop_eq_getElem_cons lt] at e
    injection e with e1 e2
    refine wp_mono (step i d ρ (by rw [e1]; exact List.getElem?_eq_getElem lt) q) (fun r z => ?_) fun _ z => z
    obtain ⟨fl, ρ1⟩ := r
    cases fl with
    | nx => exact ⟨i + 1, e2, lt, z⟩
    | cnt => exact ⟨i + 1, e2, lt, z⟩
    | brk => exact z
    | ret s => exact z
theorem rngD_get {lo : Int} {n i : Nat} {d : PyData} (h : (rngD lo n)[i]? = some d) : i < n ∧ d = .int (lo + (i : Nat)) := by
  have hi : i < n := by
    have := (List.getElem?_eq_some_iff.mp h).1
    rw [rngD_length] at this
    exact this
  unfold rngD at h
  rw [List.getElem?_map, List.getElem?_range hi] at h
  exact ⟨hi, (Option.some.inj h).symm⟩
theorem forR_wp {f : PyData → Env → Out (Fl × Env)} {P : Fl × Env → Prop} {E : Exc → Prop} {lo : Int} {n : Nat} {ρ : Env} (I : Nat → Env → Prop) (h : I 0 ρ) (fin : ∀ ρ, I n ρ → P (.nx, ρ))
    (step : ∀ i ρ, i < n → I i ρ → (f (.int (lo + (i : Nat))) ρ).wp (LoopP (I (i + 1)) P) E) : (forL f (rngD lo n) ρ).wp P E := by
  refine forI_wp I h (fun ρ z => fin ρ (by rw [rngD_length] at z; exact z)) fun i d ρ hd q => ?_
  obtain ⟨hi, e⟩ := rngD_get hd
  subst e
  exact step i ρ hi q
/-- a comprehension, turn by turn -/
theorem lcI_wp {f : PyData → Env → Out (Option PyData × Env)} {P : List PyData × Env → Prop} {E : Exc → Prop} {ds : List PyData} {ρ : Env} (I : Nat → List PyData → Env → Prop) (h : I 0 [] ρ) (fin : ∀ out ρ, I ds.length out ρ → P (out, ρ))
    (step : ∀ i d acc ρ, ds[i]? = some d → I i acc ρ → (f d ρ).wp (fun r => I (i + 1) (acc ++ r.1.toList) r.2) E) : (lcL f ds ρ).wp P E := by
  refine lcL_wp (fun l acc ρ => ∃ i, l = ds.drop i ∧ i ≤ ds.length ∧ I i acc ρ) ?step ds [] ρ ⟨0, by rw [List.drop_zero], Nat.zero_le _, h⟩ ?fin
  case step =>
    intro d l acc ρ ⟨i, e, hi, q⟩
    have lt : i < ds.length := by
      have := congrArg List.length e
      rw [List.length_drop, List.length_cons] at this
      omega
    rw [List.drop_eq_getElem_cons lt] at e
    injection e with e1 e2
    exact wp_mono (step i d acc ρ (by rw [e1]; exact List.getElem?_eq_getElem lt) q) (fun r z => ⟨i + 1, e2, lt, z⟩) fun _ z => z
  case fin =>
    intro out ρ' ⟨i, e, hi, q⟩
    have : i = ds.length := by
      have := congrArg List.length e
      rw [List.length_drop, List.length_nil] at this
      omega
    subst this
    exact fin out ρ' q
theorem noX_wp {α : Type} {c : Out α} {P : α → Prop} {E : Exc → Prop} (h : c.wp P fun _ => False) : (noX c).wp P E := by
  cases c with
  | ok a => exact h
  | exc x => exact h.elim
  | stuck => exact h

/-! ### lists of whole numbers, of pairs -/
abbrev nsD (ns : List Int) : List PyData := ns.map .int
abbrev psD (ps : List (Int × Int)) : List PyData := ps.map prD
theorem rngD_map (lo : Int) (n : Nat) : rngD lo n = nsD ((List.range n).map fun i => lo + (i : Nat)) := by
  unfold rngD nsD
  rw [List.map_map]
  rfl
theorem pairsOf_map : ∀ ps : List (Int × Int), pairsOf (psD ps) = some ps
  | [] => rfl
  | p :: ps => by
    show (pairsOf (psD ps)).map ((p.1, p.2) :: ·) = _
    rw [pairsOf_map ps]
    rfl
theorem numsOf_map : ∀ ns : List Int, numsOf (nsD ns) = some ns
  | [] => rfl
  | n :: ns => by
    show (numsOf (nsD ns)).map (n :: ·) = _
    rw [numsOf_map ns]
    rfl
theorem boolsOf_map : ∀ bs : List Bool, boolsOf (bs.map .bool) = some bs
  | [] => rfl
  | b :: bs => by
    show (boolsOf (bs.map .bool)).map (b :: ·) = _
    rw [boolsOf_map bs]
    rfl
theorem lay_ns : ∀ ns : List Int, PyData.canLayAll0 (nsD ns) = true ∧ PyData.depthAll (nsD ns) = 0
  | [] => by simp [PyData.canLayAll0, PyData.depthAll]
  | n :: ns => by
    obtain ⟨h1, h2⟩ := lay_ns ns
    simp only [List.map_cons, PyData.canLayAll0, PyData.depthAll, PyData.canLay0, PyData.depth, h1, h2]
    simp
theorem lay_ps : ∀ ps : List (Int × Int), PyData.canLayAll0 (psD ps) = true ∧ PyData.depthAll (psD ps) ≤ 1
  | [] => by simp [PyData.canLayAll0, PyData.depthAll]
  | p :: ps => by
    obtain ⟨h1, h2⟩ := lay_ps ps
    have h2 : PyData.depthAll (ps.map prD) ≤ 1 := h2
    simp only [List.map_cons, PyData.canLayAll0, PyData.depthAll, prD, PyData.canLay0, PyData.depth, h1]
    refine ⟨by simp, by simp; omega⟩
theorem sh_nsT (ns : List Int) : SeqAt.shaped (.tuple (nsD ns)) = true := by
  obtain ⟨h1, h2⟩ := lay_ns ns
  simp [SeqAt.shaped, PyData.canLay0, PyData.depth, h1, h2]
theorem sh_nsL (ns : List Int) : SeqAt.shaped (.list (nsD ns)) = true := by
  obtain ⟨h1, h2⟩ := lay_ns ns
  simp [SeqAt.shaped, PyData.canLay0, PyData.depth, h1, h2]
theorem sh_psT (ps : List (Int × Int)) : SeqAt.shaped (.tuple (psD ps)) = true := by
  obtain ⟨h1, h2⟩ := lay_ps ps
  simp [SeqAt.shaped, PyData.canLay0, PyData.depth, h1]
  omega
theorem sh_psL (ps : List (Int × Int)) : SeqAt.shaped (.list (psD ps)) = true := by
  obtain ⟨h1, h2⟩ := lay_ps ps
  simp [SeqAt.shaped, PyData.canLay0, PyData.depth, h1]
  omega
theorem sh_int (i : Int) : SeqAt.shaped (.int i) = true := by simp [SeqAt.shaped, PyData.canLay0, PyData.depth]
theorem sh_pr (p : Int × Int) : SeqAt.shaped (prD p) = true := by simp [SeqAt.shaped, prD, PyData.canLay0, PyData.canLayAll0, PyData.depth, PyData.depthAll]
/-- an order as data -/
def ordD (n : Int) (ps : List (Int × Int)) : PyData := .tuple [.int n, .tuple (psD ps)]
theorem sh_ord (n : Int) (ps : List (Int × Int)) : SeqAt.shaped (ordD n ps) = true := by
  obtain ⟨h1, h2⟩ := lay_ps ps
  simp [SeqAt.shaped, ordD, PyData.canLay0, PyData.canLayAll0, PyData.depth, PyData.depthAll, h1]
  omega
theorem eqv_int (i j : Int) : PyData.eqv (.int i) (.int j) = (i == j) := by simp [PyData.eqv]
theorem eqv_pr (p q : Int × Int) : PyData.eqv (prD p) (prD q) = (p == q) := by
  simp only [prD, PyData.eqv, PyData.eqvAll, Bool.and_true]
  rfl
theorem eqv_ns : ∀ ns ms : List Int, PyData.eqvAll (nsD ns) (nsD ms) = (ns == ms)
  | [], [] => by simp [PyData.eqvAll]
  | [], _ :: _ => by simp [PyData.eqvAll]
  | _ :: _, [] => by simp [PyData.eqvAll]
  | n :: ns, m :: ms => by
    simp only [List.map_cons, PyData.eqvAll, PyData.eqv]
    rw [eqv_ns ns ms]
    rfl
theorem eqv_ps : ∀ ps qs : List (Int × Int), PyData.eqvAll (psD ps) (psD qs) = (ps == qs)
  | [], [] => by simp [PyData.eqvAll]
  | [], _ :: _ => by simp [PyData.eqvAll]
  | _ :: _, [] => by simp [PyData.eqvAll]
  | p :: ps, q :: qs => by
    simp only [List.map_cons, PyData.eqvAll, eqv_pr]
    rw [eqv_ps ps qs]
    rfl
theorem any_pr (ps : List (Int × Int)) (p : Int × Int) : anyEq (psD ps) (prD p) = decide (p ∈ ps) := by
  unfold anyEq
  rw [List.any_map]
  have : ((fun z => PyData.eqv z (prD p)) ∘ prD) = fun q => q == p := by
    funext q
    exact eqv_pr q p
  rw [this, Bool.eq_iff_iff, List.any_eq_true, decide_eq_true_eq]
  constructor
  · rintro ⟨q, hq, e⟩
    rw [← eq_of_beq e]
    exact hq
  · exact fun h => ⟨p, h, beq_self_eq_true p⟩
theorem any_int (ns : List Int) (n : Int) : anyEq (nsD ns) (.int n) = decide (n ∈ ns) := by
  unfold anyEq
  rw [List.any_map]
  have : ((fun z => PyData.eqv z (.int n)) ∘ PyData.int) = fun q => q == n := by
    funext q
    exact eqv_int q n
  rw [this, Bool.eq_iff_iff, List.any_eq_true, decide_eq_true_eq]
  constructor
  · rintro ⟨q, hq, e⟩
    rw [← eq_of_beq e]
    exact hq
  · exact fun h => ⟨n, h, beq_self_eq_true n⟩
end Dn

/-! Den17: orders as data, comprehensions over them. -/
namespace Dn
open PySem PySem.Spec L2
open PyProof.Rows hiding St
theorem ok_of_wp {α : Type} {c : Out α} {a : α} (h : c.wp (fun r => r = a) fun _ => False) : c = .ok a := by
  cases c with
  | ok b => exact congrArg Out.ok h
  | exc x => exact h.elim
  | stuck => exact h.elim
/-- a run, not to be taken apart by itself -/
@[irreducible] def Tx.go (T : Tx) (n : Nat) : Calls := T.run n
theorem go_run (T : Tx) (n : Nat) : T.go n = T.run n := by
  unfold Tx.go
  rfl
theorem go_at (T : Tx) {x : Str} {d : DefI} (h : T.find x = some d) (n : Nat) (as : List Slot) : T.go (n + 1) x as = dBody d.ps.length d.N.length d.b (T.go n) as := by
  rw [go_run, go_run]
  exact run_at T h n as
theorem of_wp {α : Type} {c : Out α} {P : α → Prop} (h : c.wp P fun _ => False) : ∃ r, c = .ok r ∧ P r := by
  cases c with
  | ok a => exact ⟨a, rfl, h⟩
  | exc x => exact h.elim
  | stuck => exact h.elim
theorem psD_get {ps : List (Int × Int)} {i : Nat} {d : PyData} (h : (psD ps)[i]? = some d) : ∃ p, ps[i]? = some p ∧ p ∈ ps ∧ d = prD p := by
  unfold psD at h
  rw [List.getElem?_map] at h
  obtain ⟨p, hp, e⟩ := Option.map_eq_some_iff.mp h
  exact ⟨p, hp, List.mem_of_getElem? hp, e.symm⟩
theorem x_ninT (ps : List (Int × Int)) (i j : Int) : pNin [.tuple [.int i, .int j], .tuple (psD ps)] = some (.val (.bool (!decide ((i, j) ∈ ps)))) := by
  have h1 := sh_pr (i, j)
  have h2 := sh_psT ps
  have h3 := any_pr ps (i, j)
  unfold prD at h1 h3
  unfold pNin
  simp only [h1, h2, h3, Bool.and_self, if_true]
theorem x_inT (ps : List (Int × Int)) (i j : Int) : pIn [.tuple [.int i, .int j], .tuple (psD ps)] = some (.val (.bool (decide ((i, j) ∈ ps)))) := by
  have h1 := sh_pr (i, j)
  have h2 := sh_psT ps
  have h3 := any_pr ps (i, j)
  unfold prD at h1 h3
  unfold pIn
  simp only [h1, h2, h3, Bool.and_self, if_true]
theorem lcL_enc {α : Type} {f : PyData → Env → Out (Option PyData × Env)} {ρ : Env} (enc : α → PyData) (h : α → PyData) : ∀ (xs : List α), (∀ x ∈ xs, f (enc x) ρ = .ok (some (h x), ρ)) → lcL f (xs.map enc) ρ = .ok (xs.map h, ρ)
  | [], _ => rfl
  | x :: xs, hf => by
    show (f (enc x) ρ).bind _ = _
    rw [hf x List.mem_cons_self, ok_bind, lcL_enc enc h xs fun y hy => hf y (List.mem_cons_of_mem _ hy)]
    rfl
/-- with a test -/
theorem lcL_enc2 {α : Type} {f : PyData → Env → Out (Option PyData × Env)} {ρ : Env} (enc : α → PyData) (c : α → Bool) (h : α → PyData) : ∀ (xs : List α), (∀ x ∈ xs, f (enc x) ρ = .ok (if c x then some (h x) else none, ρ)) → lcL f (xs.map enc) ρ = .ok ((xs.filter c).map h, ρ)
  | [], _ => rfl
  | x :: xs, hf => by
    show (f (enc x) ρ).bind _ = _
    rw [hf x List.mem_cons_self, ok_bind, lcL_enc2 enc c h xs fun y hy => hf y (List.mem_cons_of_mem _ hy)]
    rw [List.filter_cons]
    cases c x <;> rfl
theorem x_all {α : Type} (xs : List α) (b : α → Bool) : pAll [.list (xs.map fun x => .bool (b x))] = some (.val (.bool (xs.all b))) := by
  have : (xs.map fun x => PyData.bool (b x)) = (xs.map b).map .bool := by rw [List.map_map]; rfl
  rw [this]
  show Option.map (fun bs : List Bool => Slot.val (PyData.bool (bs.all id))) (boolsOf ((xs.map b).map PyData.bool)) = _
  rw [boolsOf_map]
  simp
theorem beq_dec {α : Type} [BEq α] [LawfulBEq α] [DecidableEq α] (a b : α) : (a == b) = decide (a = b) := by
  rw [Bool.eq_iff_iff]
  simp
theorem x_eqPL (ps qs : List (Int × Int)) : pEq [.list (psD ps), .list (psD qs)] = some (.val (.bool (decide (ps = qs)))) := by
  unfold pEq
  simp only [sh_psL, PyData.eqv, eqv_ps, Bool.and_self, if_true, beq_dec]
theorem x_nePL (ps qs : List (Int × Int)) : pNe [.list (psD ps), .list (psD qs)] = some (.val (.bool (!decide (ps = qs)))) := by
  unfold pNe
  simp only [sh_psL, PyData.eqv, eqv_ps, Bool.and_self, if_true, beq_dec]
theorem x_neO (m k : Int) (ps qs : List (Int × Int)) : pNe [ordD m ps, ordD k qs] = some (.val (.bool (!decide (m = k ∧ ps = qs)))) := by
  show (if (SeqAt.shaped (ordD m ps) && SeqAt.shaped (ordD k qs)) = true then some (Slot.val (PyData.bool (!PyData.eqv (ordD m ps) (ordD k qs)))) else none) = _
  rw [if_pos (by rw [sh_ord, sh_ord]; rfl)]
  have : PyData.eqv (ordD m ps) (ordD k qs) = decide (m = k ∧ ps = qs) := by
    simp only [ordD, PyData.eqv, PyData.eqvAll, eqv_ps, Bool.and_true]
    rw [Bool.eq_iff_iff]
    simp
  rw [this]
theorem x_ssT (ps : List (Int × Int)) (h : smallP ps = true) (h2 : (dedP ps).length ≤ 62) : pSortSet (.tuple (psD ps)) = some (psD (setSort ps)) := by
  simp [pSortSet, coreSS, pairsOf_map, h, h2]
theorem x_ssL (ps : List (Int × Int)) (h : smallP ps = true) (h2 : (dedP ps).length ≤ 62) : pSortSet (.list (psD ps)) = some (psD (setSort ps)) := by
  simp [pSortSet, coreSS, pairsOf_map, h, h2]
/-- pairs within n -/
def inN (n : Int) (ps : List (Int × Int)) : Prop := ∀ p ∈ ps, 0 ≤ p.1 ∧ p.1 < n ∧ 0 ≤ p.2 ∧ p.2 < n
theorem inN_small {n : Int} {ps : List (Int × Int)} (h : inN n ps) (hn : n ≤ 64) : smallP ps = true := by
  unfold smallP
  rw [List.all_eq_true]
  intro p hp
  have := h p hp
  simp only [Bool.and_eq_true, decide_eq_true_eq]
  omega
/-- a sorted list without doubles is its own set -/
theorem setSort_self {ps : List (Int × Int)} (nd : ps.Nodup) (st : ps.Pairwise fun a b => lexP a b = true) : setSort ps = ps := (setSort_eq (ps := ps) (fun _ => Iff.rfl) nd st).symm
theorem dedP_of {ps : List (Int × Int)} (nd : ps.Nodup) : (dedP ps).length = ps.length := by
  have h1 := nodup_len _ _ (dedP_nodup ps) fun x hx => (dedP_mem ps).mp hx
  have h2 := nodup_len _ _ nd fun x hx => (dedP_mem ps).mpr hx
  omega
/-- an order -/
structure IsOrd (n : Int) (ps : List (Int × Int)) : Prop where
  lo : 1 ≤ n
  hi : n ≤ 8
  bd : inN n ps
  nd : ps.Nodup
  st : ps.Pairwise fun a b => lexP a b = true
  irr : ∀ p ∈ ps, p.1 ≠ p.2
  tr : ∀ p ∈ ps, ∀ q ∈ ps, p.2 = q.1 → (p.1, q.2) ∈ ps
def allPairs : List (Int × Int) := ((List.range 8).flatMap fun i : Nat => (List.range 8).map fun j : Nat => ((i : Int), (j : Int))).filter fun p => p.1 ≠ p.2
theorem IsOrd.len {n : Int} {ps : List (Int × Int)} (h : IsOrd n ps) : ps.length ≤ 56 := by
  have e : allPairs.length = 56 := by decide +kernel
  rw [← e]
  refine nodup_len _ _ h.nd fun p hp => ?_
  have b := h.bd p hp
  have i := h.irr p hp
  have := h.hi
  unfold allPairs
  rw [List.mem_filter, List.mem_flatMap]
  refine ⟨⟨p.1.toNat, List.mem_range.mpr (by omega), List.mem_map.mpr ⟨p.2.toNat, List.mem_range.mpr (by omega), ?_⟩⟩, by simpa using i⟩
  exact Prod.ext (by simp; omega) (by simp; omega)
end Dn

/-! Den18: sorting pairs, places, rows told. -/
namespace Dn
open PySem PySem.Spec L2
open PyProof.Rows hiding St
theorem alike_pr (p q : Int × Int) : PySem.W.alike (prD p) (prD q) = true := by
  simp [PySem.W.alike, PySem.W.alikeAll, prD]
theorem sortOk_ps (ps : List (Int × Int)) : sortOk (psD ps) = true := by
  unfold sortOk
  simp only [Bool.and_eq_true, Bool.or_eq_true, List.all_eq_true]
  refine ⟨fun d hd => ?_, .inl fun d hd => ?_⟩
  · obtain ⟨p, _, rfl⟩ := List.mem_map.mp hd
    refine ⟨sh_pr p, fun e he => ?_⟩
    obtain ⟨q, _, rfl⟩ := List.mem_map.mp he
    exact alike_pr p q
  · obtain ⟨p, _, rfl⟩ := List.mem_map.mp hd
    rfl
def sortP (ps : List (Int × Int)) : List (Int × Int) := ps.mergeSort lexP
theorem sortD_ps (ps : List (Int × Int)) : sortD (psD ps) = psD (sortP ps) := by
  have h : ∀ p q : Int × Int, lexP p q = PySem.W.dataLe false id (prD p) (prD q) := fun p q => by
    have := congrFun (congrFun (PySem.W.dataLe_ii (β := Int × Int) Prod.fst Prod.snd) p) q
    exact this.symm
  unfold sortD sortP psD
  exact (List.map_mergeSort (r := lexP) (s := PySem.W.dataLe false id) (f := prD) (l := ps) fun a _ b _ => h a b).symm
theorem x_sorted (ps : List (Int × Int)) (h : ps.length ≤ 1000000) : pSorted [.list (psD ps)] = some (.own (psD (sortP ps))) := by
  have : (psD ps).length = ps.length := List.length_map _
  show (if (sortOk (psD ps) && decide ((psD ps).length ≤ 1000000)) = true then some (Slot.own (sortD (psD ps))) else none) = _
  rw [if_pos (by rw [sortOk_ps, this, decide_eq_true h]; rfl), sortD_ps]
theorem sortP_len (ps : List (Int × Int)) : (sortP ps).length = ps.length := List.length_mergeSort _
theorem x_addPL (ps qs : List (Int × Int)) (h : ps.length + qs.length ≤ 1000000) : pAdd [.list (psD ps), .list (psD qs)] = some (.own (psD (ps ++ qs))) := by
  show (if (psD ps).length + (psD qs).length ≤ 1000000 then some (Slot.own (psD ps ++ psD qs)) else none) = _
  rw [if_pos (by simpa using h)]
  simp
theorem x_neLL (ns ms : List Int) : pNe [.list (nsD ns), .list (nsD ms)] = some (.val (.bool (!decide (ns = ms)))) := by
  unfold pNe
  simp only [sh_nsL, PyData.eqv, eqv_ns, Bool.and_self, if_true, beq_dec]
theorem x_neL0 (ns : List Int) : pNe [.list (nsD ns), .list []] = some (.val (.bool (!decide (ns = [])))) := x_neLL ns []
theorem x_tidx (r : List Int) (x : Int) (h : x ∈ r) : pTIndex [.tuple (nsD r), .int x] = some (.val (.int (r.idxOf x : Nat))) := by
  have f : ∀ (l : List Int) (k : Nat), x ∈ l → firstAt (.int x) (nsD l) k = some (k + l.idxOf x) := by
    intro l
    induction l with
    | nil => intro k h; cases h
    | cons a l ih =>
      intro k h
      show (if PyData.eqv (.int a) (.int x) = true then some k else firstAt (.int x) (nsD l) (k + 1)) = _
      rw [eqv_int]
      by_cases c : a = x
      · subst c
        simp
      · rw [if_neg (by simpa using c), ih (k + 1) (by
          rcases List.mem_cons.mp h with z | z
          · exact absurd z.symm c
          · exact z), List.idxOf_cons]
        have : (a == x) = false := by simpa using c
        rw [this]
        simp
        omega
  unfold pTIndex
  simp only [sh_nsT, sh_int, Bool.and_self, if_true, f r 0 h, Option.map_some, Nat.zero_add]
/-- rows as data -/
abbrev rsD (rs : List (List Int)) : List PyData := rs.map fun r => .tuple (nsD r)
/-- what all rows tell -/
def tells (rs : List (List Int)) (p : Int × Int) : Bool := decide (p.1 ≠ p.2) && rs.all fun r => decide (r.idxOf p.1 < r.idxOf p.2)
def gridP (n : Nat) : List (Int × Int) := (List.range n).flatMap fun a : Nat => (List.range n).map fun b : Nat => ((a : Int), (b : Int))
def toldP (n : Nat) (rs : List (List Int)) : List (Int × Int) := (gridP n).filter (tells rs)
theorem mem_grid {n : Nat} {p : Int × Int} : p ∈ gridP n ↔ 0 ≤ p.1 ∧ p.1 < n ∧ 0 ≤ p.2 ∧ p.2 < n := by
  unfold gridP
  rw [List.mem_flatMap]
  constructor
  · rintro ⟨a, ha, h⟩
    obtain ⟨b, hb, rfl⟩ := List.mem_map.mp h
    rw [List.mem_range] at ha hb
    simp only
    omega
  · intro h
    exact ⟨p.1.toNat, List.mem_range.mpr (by omega), List.mem_map.mpr ⟨p.2.toNat, List.mem_range.mpr (by omega), Prod.ext (by simp; omega) (by simp; omega)⟩⟩
theorem grid_sorted (n : Nat) : (gridP n).Pairwise fun p q => p.1 < q.1 ∨ (p.1 = q.1 ∧ p.2 < q.2) := by
  unfold gridP
  rw [List.pairwise_flatMap]
  constructor
  · intro a _
    rw [List.pairwise_map]
    refine List.Pairwise.imp (fun {x y} h => ?_) (List.pairwise_lt_range (n := n))
    right
    exact ⟨rfl, by simpa using h⟩
  · refine List.Pairwise.imp (fun {x y} h p hp q hq => ?_) (List.pairwise_lt_range (n := n))
    obtain ⟨b, _, rfl⟩ := List.mem_map.mp hp
    obtain ⟨c, _, rfl⟩ := List.mem_map.mp hq
    left
    simpa using h
theorem told_ord {n : Nat} {rs : List (List Int)} (h1 : 1 ≤ n) (h2 : n ≤ 8) (hne : rs ≠ []) : IsOrd n (toldP n rs) := by
  have srt : (toldP n rs).Pairwise fun p q => p.1 < q.1 ∨ (p.1 = q.1 ∧ p.2 < q.2) := List.Pairwise.filter _ (grid_sorted n)
  have mem : ∀ p, p ∈ toldP n rs ↔ p ∈ gridP n ∧ tells rs p = true := fun p => List.mem_filter
  refine ⟨by omega, by omega, fun p hp => mem_grid.mp ((mem p).mp hp).1, ?_, ?_, fun p hp => ?_, fun p hp q hq e => ?_⟩
  · refine List.Pairwise.imp (fun {p q} h e => ?_) srt
    subst e
    omega
  · refine List.Pairwise.imp (fun {p q} h => ?_) srt
    unfold lexP
    rw [decide_eq_true_eq]
    omega
  · have := ((mem p).mp hp).2
    unfold tells at this
    simp only [Bool.and_eq_true, decide_eq_true_eq] at this
    exact this.1
  · obtain ⟨g1, t1⟩ := (mem p).mp hp
    obtain ⟨g2, t2⟩ := (mem q).mp hq
    have g1 := mem_grid.mp g1
    have g2 := mem_grid.mp g2
    unfold tells at t1 t2
    simp only [Bool.and_eq_true, decide_eq_true_eq, List.all_eq_true] at t1 t2
    have lt : ∀ r ∈ rs, r.idxOf p.1 < r.idxOf q.2 := fun r hr => by
      have a := t1.2 r hr
      have b := t2.2 r hr
      rw [e] at a
      omega
    refine (mem _).mpr ⟨mem_grid.mpr ⟨g1.1, g1.2.1, g2.2.2.1, g2.2.2.2⟩, ?_⟩
    unfold tells
    simp only [Bool.and_eq_true, decide_eq_true_eq, List.all_eq_true]
    refine ⟨fun z => ?_, lt⟩
    cases rs with
    | nil => exact hne rfl
    | cons r rs =>
      have := lt r List.mem_cons_self
      have z : p.1 = q.2 := z
      rw [z] at this
      exact absurd this (Nat.lt_irrefl _)
theorem erase_map {α β : Type} (f : α → β) : ∀ (l : List α) (k : Nat), (l.map f).eraseIdx k = (l.eraseIdx k).map f
  | [], k => by cases k <;> rfl
  | a :: l, 0 => rfl
  | a :: l, k + 1 => congrArg (f a :: ·) (erase_map f l k)
theorem erase_perm {α : Type} : ∀ (l : List α) (k : Nat) (h : k < l.length), (l[k] :: l.eraseIdx k).Perm l
  | a :: l, 0, _ => List.Perm.refl _
  | a :: l, k + 1, h => by
    have ih := erase_perm l k (by simpa using h)
    exact (List.Perm.swap a _ _).trans (List.Perm.cons a ih)
/-- place i of a list goes out -/
theorem popAt_ns (l : List Int) (i : Int) (h : 0 ≤ i) (h2 : i < l.length) (h3 : l.length ≤ 1000000) : ∃ v, mPopAt (nsD l) [.int i] = some (.int v, nsD (l.eraseIdx i.toNat)) ∧ (v :: l.eraseIdx i.toNat).Perm l := by
  have lt : i.toNat < l.length := by omega
  refine ⟨l[i.toNat], ?_, ?_⟩
  · have e1 : seqIndex? i (nsD l).length = some i.toNat := by
      rw [List.length_map]
      unfold seqIndex?
      simp
      omega
    have e2 : (nsD l)[i.toNat]? = some (.int l[i.toNat]) := by
      rw [List.getElem?_map, List.getElem?_eq_getElem lt]
      rfl
    show (if (decide (-(2 ^ 62) ≤ i) && decide (i < 2 ^ 62)) = true then (seqIndex? i (nsD l).length).bind fun k => ((nsD l)[k]?).map fun d => (d, (nsD l).eraseIdx k) else none) = _
    rw [if_pos (by rw [Bool.and_eq_true, decide_eq_true_eq, decide_eq_true_eq]; omega), e1]
    show ((nsD l)[i.toNat]?).map _ = _
    rw [e2]
    show some (PyData.int _, (l.map PyData.int).eraseIdx i.toNat) = _
    rw [erase_map]
  · exact erase_perm l _ lt
theorem x_app (ds : List PyData) (d : PyData) (h : ds.length < 1000000) : mAppend ds [d] = some (.none, ds ++ [d]) := by
  show (if ds.length < 1000000 then some (PyData.none, ds ++ [d]) else none) = _
  rw [if_pos h]
theorem x_ext (ds es : List PyData) (h : ds.length + es.length ≤ 1000000) : mExtend ds [.list es] = some (.none, ds ++ es) := by
  show (if ds.length + es.length ≤ 1000000 then some (PyData.none, ds ++ es) else none) = _
  rw [if_pos h]
/-- pairs from pairs -/
theorem lcL_pp {f : PyData → Env → Out (Option PyData × Env)} {ρ : Env} (g : Int × Int → Int × Int) (ps : List (Int × Int)) (hf : ∀ p ∈ ps, f (prD p) ρ = .ok (some (prD (g p)), ρ)) : lcL f (psD ps) ρ = .ok (psD (ps.map g), ρ) := by
  rw [lcL_enc prD (fun p => prD (g p)) ps hf]
  simp
/-- pairs from a range -/
theorem lcL_rp {f : PyData → Env → Out (Option PyData × Env)} {ρ : Env} (lo : Int) (n : Nat) (g : Nat → Int × Int) (hf : ∀ i : Nat, i < n → f (.int (lo + (i : Nat))) ρ = .ok (some (prD (g i)), ρ)) : lcL f (rngD lo n) ρ = .ok (psD ((List.range n).map g), ρ) := by
  unfold rngD
  rw [lcL_enc (fun i : Nat => PyData.int (lo + (i : Nat))) (fun i => prD (g i)) (List.range n) fun i hi => hf i (List.mem_range.mp hi)]
  simp
def kLoop (f : PyData → Env → Out (Fl × Env)) (ds : List PyData) : Fl × Env → Out (Fl × Env) := fun r => match r.1 with
  | .nx => forL f ds r.2
  | .cnt => forL f ds r.2
  | .brk => .ok (.nx, r.2)
  | .ret s => .ok (.ret s, r.2)
section
variable {f : PyData → Env → Out (Fl × Env)} {d : PyData} {ds : List PyData} {ρ : Env} {sl : Slot}
theorem x_for1 : forL f (d :: ds) ρ = (f d ρ).bind (kLoop f ds) := rfl
@[simp] theorem x_loop1 : kLoop f ds (.nx, ρ) = forL f ds ρ := id rfl
@[simp] theorem x_loop2 : kLoop f ds (.cnt, ρ) = forL f ds ρ := id rfl
@[simp] theorem x_loop3 : kLoop f ds (.brk, ρ) = .ok (.nx, ρ) := id rfl
@[simp] theorem x_loop4 : kLoop f ds (.ret sl, ρ) = .ok (.ret sl, ρ) := id rfl
end
theorem x_ord0 (m : Int) (ps : List (Int × Int)) : pIx [ordD m ps, .int 0] = some (.val (.int m)) := rfl
theorem x_ord1 (m : Int) (ps : List (Int × Int)) : pIx [ordD m ps, .int 1] = some (.val (.tuple (psD ps))) := rfl
theorem x_ordT (m : Int) (ps : List (Int × Int)) : isT "tuple" (ordD m ps) = true := rfl
theorem x_neOO (m : Int) (ps : List (Int × Int)) : pNe [ordD m ps, ordD m ps] = some (.val (.bool false)) := by
  rw [x_neO]
  simp
theorem small_in {i : Int} (h : 0 ≤ i) (h2 : i ≤ 1000000) : small62 i = true := by
  have a : -(2 ^ 62) ≤ i := by omega
  have b : i < 2 ^ 62 := by omega
  unfold small62
  rw [decide_eq_true a, decide_eq_true b]
  rfl
end Dn

/-! Den19: the greatest list of members that all go together (plain Lean, no program in sight). -/
namespace Dn
variable {α : Type}
def clq (c : α → α → Bool) : List α → Nat
  | [] => 0
  | t :: l => max (clq c l) (1 + clq c (l.filter (c t)))
termination_by l => l.length
decreasing_by
  · simp
  · have h := List.length_filter_le (fun x : {x // x ∈ l} => c t x.val) l.attach
    rw [List.length_attach] at h
    simp only [List.length_unattach, List.length_cons]
    exact Nat.lt_succ_of_le h
theorem clq_nil (c : α → α → Bool) : clq c [] = 0 := by rw [clq]
theorem clq_cons (c : α → α → Bool) (t : α) (l : List α) : clq c (t :: l) = max (clq c l) (1 + clq c (l.filter (c t))) := by rw [clq]
theorem clq_le (c : α → α → Bool) (n : Nat) : ∀ l : List α, l.length ≤ n → clq c l ≤ l.length := by
  induction n with
  | zero => intro l h; cases l with
    | nil => rw [clq_nil]; exact Nat.zero_le _
    | cons t l => simp at h
  | succ n ih => intro l h; cases l with
    | nil => rw [clq_nil]; exact Nat.zero_le _
    | cons t l =>
      have h0 := List.length_filter_le (c t) l
      rw [List.length_cons] at h ⊢
      have h1 := ih l (by omega)
      have h2 := ih (l.filter (c t)) (by omega)
      rw [clq_cons]
      omega
theorem clq_len (c : α → α → Bool) (l : List α) : clq c l ≤ l.length := clq_le c l.length l (Nat.le_refl _)
theorem clq_ge (c : α → α → Bool) (n : Nat) : ∀ l s : List α, l.length ≤ n → s.Sublist l → s.Pairwise (fun a b => c a b = true) → s.length ≤ clq c l := by
  induction n with
  | zero => intro l s h hs _; have := hs.length_le; omega
  | succ n ih => intro l s h hs hp; cases l with
    | nil => have := hs.length_le; rw [clq_nil]; simpa using this
    | cons t l =>
      have h0 := List.length_filter_le (c t) l
      rw [List.length_cons] at h
      rw [clq_cons]
      cases hs with
      | cons _ hs => have := ih l s (by omega) hs hp; omega
      | cons_cons _ hs =>
        rename_i s
        have ⟨p1, p2⟩ := List.pairwise_cons.mp hp
        have e : s.filter (c t) = s := List.filter_eq_self.mpr p1
        have h1 := hs.filter (c t)
        rw [e] at h1
        have := ih (l.filter (c t)) s (by omega) h1 p2
        rw [List.length_cons]
        omega
theorem clq_ex (c : α → α → Bool) (n : Nat) : ∀ l : List α, l.length ≤ n → ∃ s : List α, s.Sublist l ∧ s.Pairwise (fun a b => c a b = true) ∧ s.length = clq c l := by
  induction n with
  | zero => intro l h; cases l with
    | nil => exact ⟨[], List.Sublist.refl _, List.Pairwise.nil, by rw [clq_nil]; rfl⟩
    | cons t l => simp at h
  | succ n ih => intro l h; cases l with
    | nil => exact ⟨[], List.Sublist.refl _, List.Pairwise.nil, by rw [clq_nil]; rfl⟩
    | cons t l =>
      have h0 := List.length_filter_le (c t) l
      rw [List.length_cons] at h
      obtain ⟨s1, a1, a2, a3⟩ := ih l (by omega)
      obtain ⟨s2, b1, b2, b3⟩ := ih (l.filter (c t)) (by omega)
      rw [clq_cons]
      by_cases k : 1 + clq c (l.filter (c t)) ≤ clq c l
      · exact ⟨s1, a1.cons _, a2, by omega⟩
      · refine ⟨t :: s2, ?_, List.pairwise_cons.mpr ⟨fun b hb => ?_, b2⟩, by rw [List.length_cons]; omega⟩
        · exact (b1.trans List.filter_sublist).cons_cons t
        · exact (List.mem_filter.mp (b1.subset hb)).2
theorem clq_sub (c : α → α → Bool) {l m : List α} (h : l.Sublist m) : clq c l ≤ clq c m := by
  obtain ⟨s, a1, a2, a3⟩ := clq_ex c l.length l (Nat.le_refl _)
  rw [← a3]
  exact clq_ge c m.length m s (Nat.le_refl _) (a1.trans h) a2
theorem pw_mem {R : α → α → Prop} (sy : ∀ a b, R a b → R b a) : ∀ {l : List α}, l.Pairwise R → ∀ x ∈ l, ∀ y ∈ l, x ≠ y → R x y := by
  intro l
  induction l with
  | nil => intro _ x hx; exact absurd hx (List.not_mem_nil)
  | cons t l ih =>
    intro h x hx y hy hne
    have ⟨p1, p2⟩ := List.pairwise_cons.mp h
    rcases List.mem_cons.mp hx with e1 | h1
    · rcases List.mem_cons.mp hy with e2 | h2
      · exact absurd (e1.trans e2.symm) hne
      · rw [e1]; exact p1 y h2
    · rcases List.mem_cons.mp hy with e2 | h2
      · rw [e2]; exact sy _ _ (p1 x h1)
      · exact ih p2 x h1 y h2 hne
theorem nodup_sub_len [BEq α] [LawfulBEq α] : ∀ (s l : List α), s.Nodup → (∀ x ∈ s, x ∈ l) → s.length ≤ l.length := by
  intro s
  induction s with
  | nil => intro l _ _; exact Nat.zero_le _
  | cons t s ih =>
    intro l nd h
    have ⟨n1, n2⟩ := List.nodup_cons.mp nd
    have ht := h t List.mem_cons_self
    have := ih (l.erase t) n2 fun x hx => (List.mem_erase_of_ne (fun e => n1 (by rw [← e]; exact hx))).mpr (h x (List.mem_cons_of_mem _ hx))
    have e := List.length_erase_of_mem ht
    have pos := List.length_pos_of_mem ht
    rw [List.length_cons]
    omega
/-- A pairwise crossing list of members of l, in any order, is no longer than clq (c symmetric, l without doubles). -/
theorem clq_any [DecidableEq α] (c : α → α → Bool) (sy : ∀ a b, c a b = c b a) {l s : List α} (nl : l.Nodup) (ns : s.Nodup) (hs : ∀ x ∈ s, x ∈ l) (hp : ∀ x ∈ s, ∀ y ∈ s, x ≠ y → c x y = true) : s.length ≤ clq c l := by
  have h1 : s.length ≤ (l.filter fun x => decide (x ∈ s)).length := nodup_sub_len s _ ns fun x hx => List.mem_filter.mpr ⟨hs x hx, decide_eq_true hx⟩
  have h2 : (l.filter fun x => decide (x ∈ s)).Pairwise fun a b => c a b = true := by
    have nf : (l.filter fun x => decide (x ∈ s)).Nodup := nl.sublist List.filter_sublist
    refine List.Pairwise.imp_of_mem (fun {a b} ha hb hne => ?_) nf
    exact hp a (of_decide_eq_true (List.mem_filter.mp ha).2) b (of_decide_eq_true (List.mem_filter.mp hb).2) hne
  exact Nat.le_trans h1 (clq_ge c l.length l _ (Nat.le_refl _) List.filter_sublist h2)
/-- Members sent to better members: the greatest lists are of one length. -/
theorem clq_send [DecidableEq α] (c : α → α → Bool) (sy : ∀ a b, c a b = c b a) {l : List α} (p : α → Bool) (nl : l.Nodup) (f : α → α) (hf : ∀ x ∈ l, f x ∈ l ∧ p (f x) = true) (hc : ∀ x ∈ l, ∀ y ∈ l, c x y = true → c (f x) (f y) = true ∧ f x ≠ f y) : clq c (l.filter p) = clq c l := by
  apply Nat.le_antisymm (clq_sub c List.filter_sublist)
  obtain ⟨s, a1, a2, a3⟩ := clq_ex c l.length l (Nat.le_refl _)
  have e : (s.map f).length = clq c l := by rw [List.length_map, a3]
  rw [← e]
  have pw : s.Pairwise fun x y => f x ≠ f y := List.Pairwise.imp_of_mem (fun {a b} ha hb h => (hc a (a1.subset ha) b (a1.subset hb) h).2) a2
  have nd : (s.map f).Nodup := List.pairwise_map.mpr pw
  have pc : (s.map f).Pairwise fun a b => c a b = true := List.pairwise_map.mpr (List.Pairwise.imp_of_mem (fun {a b} ha hb h => (hc a (a1.subset ha) b (a1.subset hb) h).1) a2)
  refine clq_any c sy (nl.sublist List.filter_sublist) nd (fun x hx => ?_) fun x hx y hy hne => ?_
  · obtain ⟨z, hz, rfl⟩ := List.mem_map.mp hx
    have := hf z (a1.subset hz)
    exact List.mem_filter.mpr this
  · exact pw_mem (fun a b h => by rw [sy]; exact h) pc x hx y hy hne
end Dn

/-! Den20: the greatest pairwise list of places below m, by bit sets and by growing lists (plain Lean). -/
namespace Dn
def bitsL (m lot : Nat) : List Nat := (List.range m).filter fun i => lot.testBit i
theorem bitsL_succ (m lot : Nat) : bitsL (m + 1) lot = bitsL m lot ++ if lot.testBit m then [m] else [] := by
  unfold bitsL
  rw [List.range_succ, List.filter_append]
  cases h : lot.testBit m <;> simp [List.filter_cons, h]
theorem bitsL_low {m lot : Nat} : bitsL m (2 ^ m + lot) = bitsL m lot := by
  unfold bitsL
  refine List.filter_congr fun i hi => ?_
  exact Nat.testBit_two_pow_add_gt (List.mem_range.mp hi) lot
theorem bitsL_ex : ∀ (m : Nat) (s : List Nat), s.Sublist (List.range m) → ∃ lot, lot < 2 ^ m ∧ bitsL m lot = s := by
  intro m
  induction m with
  | zero => intro s h; refine ⟨0, by decide, ?_⟩; have := h.length_le; simp at this; subst this; rfl
  | succ m ih =>
    intro s h
    rw [List.range_succ] at h
    obtain ⟨s1, s2, rfl, h1, h2⟩ := List.sublist_append_iff.mp h
    obtain ⟨lot, g1, rfl⟩ := ih s1 h1
    have p : 2 ^ (m + 1) = 2 ^ m + 2 ^ m := by rw [Nat.pow_succ]; omega
    cases h2 with
    | cons _ h2 =>
      have := h2.length_le
      cases s2 with
      | cons _ _ => simp at this
      | nil =>
        refine ⟨lot, by omega, ?_⟩
        rw [bitsL_succ, Nat.testBit_lt_two_pow g1]
        rfl
    | cons_cons _ h2 =>
      rename_i s2
      have := h2.length_le
      cases s2 with
      | cons _ _ => simp at this
      | nil =>
        refine ⟨2 ^ m + lot, by omega, ?_⟩
        rw [bitsL_succ, bitsL_low, Nat.testBit_two_pow_add_eq, Nat.testBit_lt_two_pow g1]
        rfl
/-- The greatest w over the numbers below n that pass p. -/
def widN (p : Nat → Bool) (w : Nat → Nat) : Nat → Nat
  | 0 => 0
  | n + 1 => if p n then max (widN p w n) (w n) else widN p w n
theorem widN_ge (p : Nat → Bool) (w : Nat → Nat) {i : Nat} (hp : p i = true) : ∀ {n : Nat}, i < n → w i ≤ widN p w n := by
  intro n
  induction n with
  | zero => intro h; omega
  | succ n ih =>
    intro h
    unfold widN
    by_cases e : i = n
    · subst e; rw [if_pos hp]; omega
    · have := ih (by omega)
      split <;> omega
theorem widN_le (p : Nat → Bool) (w : Nat → Nat) (k : Nat) (h : ∀ i, p i = true → w i ≤ k) : ∀ n : Nat, widN p w n ≤ k := by
  intro n
  induction n with
  | zero => exact Nat.zero_le _
  | succ n ih =>
    unfold widN
    split
    · rename_i hp; have := h n hp; omega
    · exact ih
def pwB (c : Nat → Nat → Bool) (s : List Nat) : Bool := s.all fun a => s.all fun b => decide (a = b) || c a b
theorem pwB_iff {c : Nat → Nat → Bool} {s : List Nat} : pwB c s = true ↔ ∀ a ∈ s, ∀ b ∈ s, a ≠ b → c a b = true := by
  unfold pwB
  rw [List.all_eq_true]
  refine forall_congr' fun a => imp_congr_right fun _ => ?_
  rw [List.all_eq_true]
  refine forall_congr' fun b => imp_congr_right fun _ => ?_
  rw [Bool.or_eq_true, decide_eq_true_eq]
  constructor
  · intro h n; exact h.resolve_left n
  · intro h; by_cases e : a = b
    · exact .inl e
    · exact .inr (h e)
theorem width_bits (c : Nat → Nat → Bool) (sy : ∀ a b, c a b = c b a) (m : Nat) : widN (fun lot => pwB c (bitsL m lot)) (fun lot => (bitsL m lot).length) (2 ^ m) = clq c (List.range m) := by
  apply Nat.le_antisymm
  · refine widN_le _ _ _ (fun lot h => ?_) _
    have h := pwB_iff.mp h
    refine clq_ge c _ (List.range m) _ (Nat.le_refl _) List.filter_sublist ?_
    have nd : (bitsL m lot).Nodup := List.nodup_range.sublist List.filter_sublist
    exact List.Pairwise.imp_of_mem (fun {a b} ha hb hne => h a ha b hb hne) nd
  · obtain ⟨s, a1, a2, a3⟩ := clq_ex c _ (List.range m) (Nat.le_refl _)
    obtain ⟨lot, l1, l2⟩ := bitsL_ex m s a1
    rw [← a3, ← l2]
    refine widN_ge (fun lot => pwB c (bitsL m lot)) (fun lot => (bitsL m lot).length) (i := lot) ?_ l1
    refine pwB_iff.mpr ?_
    rw [l2]
    exact pw_mem (fun a b h => by rw [sy]; exact h) a2
end Dn

/-! Den21: rows of growing lists; row number k holds the pairwise lists of length k (plain Lean). -/
namespace Dn
def addsTo (c : Nat → Nat → Bool) (s : List Nat) (t : Nat) : Bool := s.all fun a => decide (a < t) && c a t
def grow (c : Nat → Nat → Bool) (m : Nat) (row : List (List Nat)) : List (List Nat) := row.flatMap fun s => ((List.range m).filter (addsTo c s)).map fun t => s ++ [t]
def lev (c : Nat → Nat → Bool) (m : Nat) : Nat → List (List Nat)
  | 0 => [[]]
  | k + 1 => grow c m (lev c m k)
theorem mem_lev (c : Nat → Nat → Bool) (m : Nat) : ∀ (k : Nat) (s : List Nat), s ∈ lev c m k ↔ s.length = k ∧ s.Pairwise (fun a b => a < b ∧ c a b = true) ∧ ∀ x ∈ s, x < m := by
  intro k
  induction k with
  | zero =>
    intro s
    constructor
    · intro h
      have e : s = [] := List.mem_singleton.mp h
      subst e
      exact ⟨rfl, List.Pairwise.nil, fun x h => absurd h List.not_mem_nil⟩
    · intro h
      have e : s = [] := List.length_eq_zero_iff.mp h.1
      subst e
      exact List.mem_singleton.mpr rfl
  | succ k ih =>
    intro s
    show s ∈ grow c m (lev c m k) ↔ _
    unfold grow
    rw [List.mem_flatMap]
    constructor
    · rintro ⟨r, hr, h⟩
      obtain ⟨t, ht, rfl⟩ := List.mem_map.mp h
      obtain ⟨h1, h2⟩ := List.mem_filter.mp ht
      obtain ⟨l1, l2, l3⟩ := (ih r).mp hr
      refine ⟨by rw [List.length_append, l1]; rfl, List.pairwise_append.mpr ⟨l2, List.pairwise_singleton _ _, fun a ha b hb => ?_⟩, fun x hx => ?_⟩
      · have e := List.mem_singleton.mp hb
        subst e
        have := List.all_eq_true.mp h2 a ha
        rw [Bool.and_eq_true, decide_eq_true_eq] at this
        exact this
      · rcases List.mem_append.mp hx with h | h
        · exact l3 x h
        · rw [List.mem_singleton.mp h]; exact List.mem_range.mp h1
    · rintro ⟨l1, l2, l3⟩
      have ne : s ≠ [] := fun e => by rw [e] at l1; simp at l1
      have e : s.dropLast ++ [s.getLast ne] = s := List.dropLast_concat_getLast ne
      rw [← e] at l2 l3
      obtain ⟨p1, _, p3⟩ := List.pairwise_append.mp l2
      refine ⟨s.dropLast, (ih _).mpr ⟨by rw [List.length_dropLast, l1]; rfl, p1, fun x hx => l3 x (List.mem_append.mpr (.inl hx))⟩, ?_⟩
      refine List.mem_map.mpr ⟨s.getLast ne, List.mem_filter.mpr ⟨List.mem_range.mpr (l3 _ (List.mem_append.mpr (.inr (List.mem_singleton.mpr rfl)))), ?_⟩, e⟩
      refine List.all_eq_true.mpr fun a ha => ?_
      rw [Bool.and_eq_true, decide_eq_true_eq]
      exact p3 a ha _ (List.mem_singleton.mpr rfl)
theorem sub_range : ∀ (m : Nat) (s : List Nat), s.Pairwise (fun a b => a < b) → (∀ x ∈ s, x < m) → s.Sublist (List.range m) := by
  intro m
  induction m with
  | zero => intro s _ h; cases s with
    | nil => exact List.Sublist.refl _
    | cons a s => exact absurd (h a List.mem_cons_self) (Nat.not_lt_zero a)
  | succ m ih =>
    intro s hp hm
    rw [List.range_succ]
    by_cases ne : s = []
    · subst ne; exact List.nil_sublist _
    have e : s.dropLast ++ [s.getLast ne] = s := List.dropLast_concat_getLast ne
    have hl := hm _ (List.getLast_mem ne)
    rw [← e] at hp
    obtain ⟨p1, _, p3⟩ := List.pairwise_append.mp hp
    have q : s.dropLast.Sublist (List.range m) := ih _ p1 fun x hx => by
      have := p3 x hx _ (List.mem_singleton.mpr rfl)
      omega
    by_cases c : s.getLast ne = m
    · rw [← e, c]; exact q.append (List.Sublist.refl _)
    · refine List.Sublist.trans (ih s (by rw [← e]; exact hp) fun x hx => ?_) (List.sublist_append_left _ _)
      rw [← e] at hx
      rcases List.mem_append.mp hx with h | h
      · have := p3 x h _ (List.mem_singleton.mpr rfl); omega
      · rw [List.mem_singleton.mp h]; omega
theorem lev_ne (c : Nat → Nat → Bool) (m k : Nat) : lev c m k ≠ [] ↔ k ≤ clq c (List.range m) := by
  constructor
  · intro h
    obtain ⟨s, hs⟩ := List.exists_mem_of_ne_nil _ h
    obtain ⟨l1, l2, l3⟩ := (mem_lev c m k s).mp hs
    rw [← l1]
    exact clq_ge c _ (List.range m) s (Nat.le_refl _) (sub_range m s (l2.imp fun h => h.1) l3) (l2.imp fun h => h.2)
  · intro h
    obtain ⟨s, a1, a2, a3⟩ := clq_ex c _ (List.range m) (Nat.le_refl _)
    have lt : s.Pairwise fun a b => a < b := List.Pairwise.sublist a1 List.pairwise_lt_range
    have both : s.Pairwise fun a b => a < b ∧ c a b = true := lt.and a2
    have hm : s.take k ∈ lev c m k := (mem_lev c m k _).mpr ⟨by rw [List.length_take]; omega, both.sublist (List.take_sublist _ _), fun x hx => List.mem_range.mp (a1.subset ((List.take_sublist _ _).subset hx))⟩
    intro e
    rw [e] at hm
    exact absurd hm List.not_mem_nil
theorem lev_nil (c : Nat → Nat → Bool) (m k : Nat) : lev c m k = [] ↔ clq c (List.range m) < k := by
  have h := lev_ne c m k
  constructor
  · intro e; exact Nat.lt_of_not_le fun q => h.mpr q e
  · intro q; exact Classical.byContradiction fun e => Nat.not_le_of_lt q (h.mp e)
end Dn

/-! Den22: turns of an order and its sharp turns: their greatest crossing lists are of one length (plain Lean). -/
namespace Dn
abbrev PrI := Int × Int
def apartB (ps : List PrI) (a b : Int) : Bool := decide (a ≠ b) && (decide ((a, b) ∉ ps) && decide ((b, a) ∉ ps))
def onB (ps : List PrI) (p q : PrI) : Bool := decide (p.1 = q.2) || decide ((p.1, q.2) ∈ ps)
def crossB (ps : List PrI) (p q : PrI) : Bool := onB ps p q && onB ps q p
def sharpB (ps : List PrI) (p : PrI) : Bool := (ps.filter fun q => decide (q.2 = p.1)).all (fun q => decide ((q.1, p.2) ∈ ps)) && (ps.filter fun q => decide (q.1 = p.2)).all fun q => decide ((p.1, q.2) ∈ ps)
theorem crossB_sym (ps : List PrI) (p q : PrI) : crossB ps p q = crossB ps q p := Bool.and_comm _ _
theorem onB_iff {ps : List PrI} {p q : PrI} : onB ps p q = true ↔ p.1 = q.2 ∨ (p.1, q.2) ∈ ps := by
  unfold onB
  rw [Bool.or_eq_true, decide_eq_true_eq, decide_eq_true_eq]
theorem apartB_iff {ps : List PrI} {a b : Int} : apartB ps a b = true ↔ a ≠ b ∧ (a, b) ∉ ps ∧ (b, a) ∉ ps := by
  unfold apartB
  rw [Bool.and_eq_true, Bool.and_eq_true, decide_eq_true_eq, decide_eq_true_eq, decide_eq_true_eq]
theorem sharpB_iff {ps : List PrI} {p : PrI} : sharpB ps p = true ↔ (∀ c, (c, p.1) ∈ ps → (c, p.2) ∈ ps) ∧ ∀ d, (p.2, d) ∈ ps → (p.1, d) ∈ ps := by
  unfold sharpB
  rw [Bool.and_eq_true, List.all_eq_true, List.all_eq_true]
  constructor
  · rintro ⟨h1, h2⟩
    exact ⟨fun c h => of_decide_eq_true (h1 (c, p.1) (List.mem_filter.mpr ⟨h, decide_eq_true rfl⟩)), fun d h => of_decide_eq_true (h2 (p.2, d) (List.mem_filter.mpr ⟨h, decide_eq_true rfl⟩))⟩
  · rintro ⟨h1, h2⟩
    refine ⟨fun q hq => decide_eq_true ?_, fun q hq => decide_eq_true ?_⟩
    · obtain ⟨a1, a2⟩ := List.mem_filter.mp hq
      have e := of_decide_eq_true a2
      exact h1 q.1 (by rw [← e]; exact a1)
    · obtain ⟨a1, a2⟩ := List.mem_filter.mp hq
      have e := of_decide_eq_true a2
      exact h2 q.2 (by rw [← e]; exact a1)
theorem countP_lt {α : Type} {p q : α → Bool} : ∀ {l : List α}, (∀ x ∈ l, p x = true → q x = true) → (∃ x ∈ l, q x = true ∧ p x = false) → l.countP p < l.countP q := by
  intro l
  induction l with
  | nil => rintro _ ⟨x, hx, _⟩; exact absurd hx List.not_mem_nil
  | cons t l ih =>
    intro h ⟨x, hx, x1, x2⟩
    have mono : l.countP p ≤ l.countP q := List.countP_mono_left fun y hy => h y (List.mem_cons_of_mem _ hy)
    rw [List.countP_cons, List.countP_cons]
    rcases List.mem_cons.mp hx with rfl | hx
    · rw [x1, x2]
      simp only [if_true, Bool.false_eq_true, if_false]
      omega
    · have := ih (fun y hy => h y (List.mem_cons_of_mem _ hy)) ⟨x, hx, x1, x2⟩
      have ht := h t List.mem_cons_self
      cases e : p t with
      | true => rw [ht e]; simp only [if_true]; omega
      | false => cases q t <;> simp <;> omega
section
variable {ps : List PrI} (irr : ∀ p ∈ ps, p.1 ≠ p.2) (tr : ∀ p ∈ ps, ∀ q ∈ ps, p.2 = q.1 → (p.1, q.2) ∈ ps)
include irr tr
theorem sharp_ex (n : Nat) : ∀ a b : Int, apartB ps a b = true → ps.countP (fun q => decide ((q.1, a) ∈ ps)) + ps.countP (fun q => decide ((b, q.2) ∈ ps)) ≤ n → ∃ a' b', apartB ps a' b' = true ∧ sharpB ps (a', b') = true ∧ (a' = a ∨ (a', a) ∈ ps) ∧ (b' = b ∨ (b, b') ∈ ps) := by
  have T : ∀ {x y z : Int}, (x, y) ∈ ps → (y, z) ∈ ps → (x, z) ∈ ps := fun h1 h2 => tr _ h1 _ h2 rfl
  have I : ∀ {x : Int}, (x, x) ∉ ps := fun h => irr _ h rfl
  induction n with
  | zero =>
    intro a b h hn
    refine ⟨a, b, h, sharpB_iff.mpr ⟨fun c hc => ?_, fun d hd => ?_⟩, .inl rfl, .inl rfl⟩
    · have : 0 < ps.countP (fun q => decide ((q.1, a) ∈ ps)) := List.countP_pos_iff.mpr ⟨(c, a), hc, decide_eq_true hc⟩
      omega
    · have : 0 < ps.countP (fun q => decide ((b, q.2) ∈ ps)) := List.countP_pos_iff.mpr ⟨(b, d), hd, decide_eq_true hd⟩
      omega
  | succ n ih =>
    intro a b h hn
    obtain ⟨h1, h2, h3⟩ := apartB_iff.mp h
    by_cases s : sharpB ps (a, b) = true
    · exact ⟨a, b, h, s, .inl rfl, .inl rfl⟩
    · by_cases k : ∀ c, (c, a) ∈ ps → (c, b) ∈ ps
      · have k2 : ¬ ∀ d, (b, d) ∈ ps → (a, d) ∈ ps := fun k2 => s (sharpB_iff.mpr ⟨k, k2⟩)
        obtain ⟨d, k3⟩ := Classical.not_forall.mp k2
        obtain ⟨d1, d2⟩ := Classical.not_imp.mp k3
        have ap : apartB ps a d = true := apartB_iff.mpr ⟨fun e => h3 (e ▸ d1), d2, fun q => h3 (T d1 q)⟩
        have lt : ps.countP (fun q => decide ((d, q.2) ∈ ps)) < ps.countP (fun q => decide ((b, q.2) ∈ ps)) := countP_lt (fun x _ hx => decide_eq_true (T d1 (of_decide_eq_true hx))) ⟨(b, d), d1, decide_eq_true d1, decide_eq_false I⟩
        obtain ⟨a', b', r1, r2, r3, r4⟩ := ih a d ap (by omega)
        refine ⟨a', b', r1, r2, r3, .inr ?_⟩
        rcases r4 with e | r4
        · rw [e]; exact d1
        · exact T d1 r4
      · obtain ⟨c, k3⟩ := Classical.not_forall.mp k
        obtain ⟨c1, c2⟩ := Classical.not_imp.mp k3
        have ap : apartB ps c b = true := apartB_iff.mpr ⟨fun e => h3 (e ▸ c1), c2, fun q => h3 (T q c1)⟩
        have lt : ps.countP (fun q => decide ((q.1, c) ∈ ps)) < ps.countP (fun q => decide ((q.1, a) ∈ ps)) := countP_lt (fun x _ hx => decide_eq_true (T (of_decide_eq_true hx) c1)) ⟨(c, a), c1, decide_eq_true c1, decide_eq_false I⟩
        obtain ⟨a', b', r1, r2, r3, r4⟩ := ih c b ap (by omega)
        refine ⟨a', b', r1, r2, .inr ?_, r4⟩
        rcases r3 with e | r3
        · rw [e]; exact c1
        · exact T r3 c1
/-- Over a list of all turns, the sharp ones alone give as long a crossing list. -/
theorem clq_sharp {l : List PrI} (nl : l.Nodup) (hl : ∀ p ∈ l, apartB ps p.1 p.2 = true) (full : ∀ p ∈ l, ∀ a' b', apartB ps a' b' = true → (a' = p.1 ∨ (a', p.1) ∈ ps) → (b' = p.2 ∨ (p.2, b') ∈ ps) → (a', b') ∈ l) : clq (crossB ps) (l.filter (sharpB ps)) = clq (crossB ps) l := by
  have T : ∀ {x y z : Int}, (x, y) ∈ ps → (y, z) ∈ ps → (x, z) ∈ ps := fun h1 h2 => tr _ h1 _ h2 rfl
  have ex : ∀ p : PrI, ∃ r : PrI, p ∈ l → r ∈ l ∧ apartB ps r.1 r.2 = true ∧ sharpB ps r = true ∧ (r.1 = p.1 ∨ (r.1, p.1) ∈ ps) ∧ (r.2 = p.2 ∨ (p.2, r.2) ∈ ps) := by
    intro p
    by_cases h : p ∈ l
    · obtain ⟨a', b', r1, r2, r3, r4⟩ := sharp_ex irr tr _ p.1 p.2 (hl p h) (Nat.le_refl _)
      exact ⟨(a', b'), fun _ => ⟨full p h a' b' r1 r3 r4, r1, r2, r3, r4⟩⟩
    · exact ⟨p, fun q => absurd q h⟩
  have on : ∀ p ∈ l, ∀ q ∈ l, onB ps p q = true → onB ps (Classical.choose (ex p)) (Classical.choose (ex q)) = true := by
    intro p hp q hq h
    obtain ⟨_, _, _, p3, _⟩ := Classical.choose_spec (ex p) hp
    obtain ⟨_, _, _, _, q4⟩ := Classical.choose_spec (ex q) hq
    have h := onB_iff.mp h
    refine onB_iff.mpr ?_
    rcases p3 with e | p3
    · rw [e]
      rcases q4 with e | q4
      · rw [e]; exact h
      · rcases h with e | h
        · rw [e]; exact .inr q4
        · exact .inr (T h q4)
    · have h' : ((Classical.choose (ex p)).1, q.2) ∈ ps := by
        rcases h with e | h
        · rw [← e]; exact p3
        · exact T p3 h
      rcases q4 with e | q4
      · rw [e]; exact .inr h'
      · exact .inr (T h' q4)
  refine clq_send (crossB ps) (crossB_sym ps) (sharpB ps) nl (fun p => Classical.choose (ex p)) (fun p hp => ?_) fun p hp q hq h => ?_
  · obtain ⟨p0, _, p2, _⟩ := Classical.choose_spec (ex p) hp
    exact ⟨p0, p2⟩
  · have h : onB ps p q = true ∧ onB ps q p = true := by unfold crossB at h; rwa [Bool.and_eq_true] at h
    have o1 := on p hp q hq h.1
    refine ⟨by unfold crossB; rw [o1, on q hq p hp h.2]; rfl, fun e => ?_⟩
    obtain ⟨_, p1, _⟩ := Classical.choose_spec (ex p) hp
    obtain ⟨n1, n2, n3⟩ := apartB_iff.mp p1
    rw [← e] at o1
    rcases onB_iff.mp o1 with e | o
    · exact n1 e
    · exact n2 o
end
end Dn

/-! Den23: small laws of data that many texts use: pairs by rows, lists of lists, slices, greatest and least. -/
namespace Dn
open PySem PySem.Spec L2
open PyProof.Rows hiding St
@[simp] theorem x_neg1 {k : Int} : pNeg [.int k] = some (.val (.int (-k))) := id rfl
def isW : PyData → Bool
  | .int _ => true
  | _ => false
def rowP (m i : Nat) : List (Int × Int) := (List.range m).map fun b : Nat => ((i : Int), (b : Int))
def partP (m i : Nat) : List (Int × Int) := (List.range i).flatMap fun a : Nat => rowP m a
theorem part_succ (m i : Nat) : partP m (i + 1) = partP m i ++ rowP m i := by
  unfold partP
  rw [List.range_succ, List.flatMap_append]
  simp
theorem part_all (m : Nat) : partP m m = gridP m := rfl
theorem row_succ (i j : Nat) : rowP (j + 1) i = rowP j i ++ [((i : Int), (j : Int))] := by
  unfold rowP
  rw [List.range_succ, List.map_append]
  rfl
theorem row_len (m i : Nat) : (rowP m i).length = m := by simp [rowP]
theorem part_len (m i : Nat) : (partP m i).length = i * m := by
  induction i with
  | zero => simp [partP]
  | succ i ih => rw [part_succ, List.length_append, ih, Nat.succ_mul, row_len]
theorem partF_len {m i : Nat} (h : m ≤ 8) (h2 : i ≤ 8) (q : Int × Int → Bool) : ((partP m i).filter q).length ≤ 64 := by
  have h1 := List.length_filter_le q (partP m i)
  rw [part_len] at h1
  have h3 : i * m ≤ 8 * 8 := Nat.mul_le_mul h2 h
  omega
theorem rowF_len (m i : Nat) (q : Int × Int → Bool) : ((rowP m i).filter q).length ≤ m := by
  have h1 := List.length_filter_le q (rowP m i)
  rw [row_len] at h1
  exact h1
/-- one row of pairs, with a test -/
theorem lcL_row {f : PyData → Env → Out (Option PyData × Env)} {ρ : Env} (m i : Nat) (q : Int × Int → Bool)
    (hf : ∀ j : Nat, j < m → f (.int (0 + (j : Nat))) ρ = .ok (if q ((i : Int), (j : Int)) then some (prD ((i : Int), (j : Int))) else none, ρ)) : lcL f (rngD 0 m) ρ = .ok (psD ((rowP m i).filter q), ρ) := by
  unfold rngD
  rw [lcL_enc2 (fun j : Nat => PyData.int (0 + (j : Nat))) (fun j : Nat => q ((i : Int), (j : Int))) (fun j : Nat => prD ((i : Int), (j : Int))) (List.range m) fun j hj => hf j (List.mem_range.mp hj)]
  unfold rowP psD
  rw [List.filter_map, List.map_map]
  rfl
def upTo (m : Nat) : List Int := (List.range m).map fun i : Nat => (i : Int)
theorem upTo_len (m : Nat) : (upTo m).length = m := by simp [upTo]
theorem mem_upTo {m : Nat} {x : Int} : x ∈ upTo m ↔ 0 ≤ x ∧ x < m := by
  unfold upTo
  rw [List.mem_map]
  constructor
  · rintro ⟨i, hi, rfl⟩
    rw [List.mem_range] at hi
    omega
  · intro h
    exact ⟨x.toNat, List.mem_range.mpr (by omega), by omega⟩
theorem upTo_nd (m : Nat) : (upTo m).Nodup := by
  unfold upTo
  exact List.Pairwise.map _ (fun a b h e => h (by omega)) (List.nodup_range (n := m))
theorem rng_upTo (m : Nat) : rngD 0 m = nsD (upTo m) := by
  rw [rngD_map]
  unfold upTo
  simp
theorem x_pr0 (p : Int × Int) : pIx [prD p, .int 0] = some (.val (.int p.1)) := rfl
theorem x_pr1 (p : Int × Int) : pIx [prD p, .int 1] = some (.val (.int p.2)) := rfl
theorem x_allP (ps : List (Int × Int)) (b : Int × Int → Bool) : pAll [.list (ps.map fun x => .bool (b x))] = some (.val (.bool (ps.all b))) := x_all ps b
theorem x_max2 (a b : Nat) : pMax [.int a, .int b] = some (.val (.int (max a b : Nat))) := by
  show some (Slot.val (PyData.int (if (b : Int) > a then (b : Int) else a))) = _
  congr 3
  split <;> omega
theorem x_min2 (a b : Nat) : pMin [.int a, .int b] = some (.val (.int (min a b : Nat))) := by
  show some (Slot.val (PyData.int (if (b : Int) < a then (b : Int) else a))) = _
  congr 3
  split <;> omega
theorem x_ixP (ls : List (Int × Int)) (i : Nat) (h : i < ls.length) : pIx [.list (psD ls), .int (i : Int)] = some (.val (prD ls[i])) := by
  have e : (psD ls)[i]? = some (prD ls[i]) := by
    unfold psD
    rw [List.getElem?_map, List.getElem?_eq_getElem h]
    rfl
  show (atI (psD ls) (i : Int)).map Slot.val = _
  rw [x_ixn e]
  rfl
theorem x_maxmin1 (k c : Nat) : pMin [.int k, .int c] = some (.val (.int (min k c : Nat))) ∧ pMax [.int 1, .int (min k c : Nat)] = some (.val (.int (max 1 (min k c) : Nat))) := ⟨x_min2 k c, x_max2 1 _⟩
/-! ### enumerate, slices -/
theorem enumP_get {ls : List (Int × Int)} {i : Nat} {d : PyData} (h : (pairUp (rngD 0 ls.length) (psD ls))[i]? = some d) : ∃ t, i < ls.length ∧ ls.drop i = t :: ls.drop (i + 1) ∧ d = .tuple [.int i, prD t] := by
  obtain ⟨x, y, e1, e2, e3⟩ := pairUp_get h
  obtain ⟨h1, h2⟩ := rngD_get e1
  obtain ⟨p, q1, q2, q3⟩ := psD_get e2
  subst e3 h2 q3
  have := List.getElem?_eq_some_iff.mp q1
  obtain ⟨lt, e⟩ := this
  exact ⟨p, lt, by rw [List.drop_eq_getElem_cons lt, e], by simp⟩
theorem enumP_len (ls : List (Int × Int)) : (pairUp (rngD 0 ls.length) (psD ls)).length = ls.length := by
  have e1 : (psD ls).length = ls.length := by unfold psD; rw [List.length_map]
  have e2 : (rngD 0 ls.length).length = ls.length := by rw [rngD_map]; simp
  rw [pairUp_len, e1, e2, Nat.min_self]
theorem x_slcP (ls : List (Int × Int)) (i : Nat) (h : i < ls.length) : pSlc (.list (psD ls)) (some ((i : Int) + 1)) none = some (.own (psD (ls.drop (i + 1)))) := by
  have e1 : HT.sIx (psD ls).length 0 (some ((i : Int) + 1)) = i + 1 := by
    rw [show (i : Int) + 1 = ((i + 1 : Nat) : Int) by omega, HT.sIx_nat]
    unfold psD
    rw [List.length_map]
    omega
  have e2 : HT.sIx (psD ls).length (psD ls).length none = (psD ls).length := by
    unfold HT.sIx
    simp
  show some (Slot.own (cutD _ _ _)) = _
  unfold cutD
  rw [e1, e2, List.take_of_length_le (by rw [List.length_drop]; omega)]
  unfold psD
  rw [List.map_drop]
/-! ### lists of things, lists of such -/
abbrev nlD (s : List Nat) : List PyData := s.map fun i : Nat => .int (i : Int)
abbrev lsD (ls : List (List Nat)) : List PyData := ls.map fun s => .list (nlD s)
theorem nlD_ns (s : List Nat) : nlD s = nsD (s.map fun i : Nat => (i : Int)) := by
  unfold nlD nsD
  rw [List.map_map]
  rfl
theorem lay_ls : ∀ ls : List (List Nat), PyData.canLayAll0 (lsD ls) = true ∧ PyData.depthAll (lsD ls) ≤ 1
  | [] => by simp [PyData.canLayAll0, PyData.depthAll]
  | s :: ls => by
    obtain ⟨h1, h2⟩ := lay_ls ls
    have h2 : PyData.depthAll (ls.map fun s => PyData.list (nlD s)) ≤ 1 := h2
    obtain ⟨h3, h4⟩ := lay_ns (s.map fun i : Nat => (i : Int))
    rw [← nlD_ns] at h3 h4
    simp only [List.map_cons, PyData.canLayAll0, PyData.depthAll, PyData.canLay0, PyData.depth, h1, h3, h4]
    refine ⟨by simp, by omega⟩
theorem sh_lsL (ls : List (List Nat)) : SeqAt.shaped (.list (lsD ls)) = true := by
  obtain ⟨h1, h2⟩ := lay_ls ls
  have h2 : PyData.depthAll (ls.map fun s => PyData.list (nlD s)) ≤ 1 := h2
  simp only [SeqAt.shaped, PyData.canLay0, PyData.depth, h1]
  simp
  omega
theorem sh_nil : SeqAt.shaped (.list []) = true := by decide
theorem x_neLs0 (ls : List (List Nat)) : pNe [.list (lsD ls), .list []] = some (.val (.bool (!decide (ls = [])))) := by
  unfold pNe
  simp only [sh_lsL, sh_nil, Bool.and_self, if_true]
  cases ls <;> simp [PyData.eqv, PyData.eqvAll]
theorem x_eqNl0 (s : List Nat) : pEq [.list (nlD s), .list []] = some (.val (.bool (decide (s = [])))) := by
  unfold pEq
  have h := sh_nsL (s.map fun i : Nat => (i : Int))
  rw [← nlD_ns] at h
  simp only [h, sh_nil, Bool.and_self, if_true]
  cases s <;> simp [PyData.eqv, PyData.eqvAll]
theorem x_last {α : Type} (xs : List α) (z : α) : atI (xs ++ [z]) (-1) = some z := by
  unfold atI ixN
  rw [if_neg (by decide)]
  have e : ((xs ++ [z]).length : Int) = xs.length + 1 := by simp
  rw [if_pos (by omega)]
  have e2 : ((-1 : Int) + ((xs ++ [z]).length : Int)).toNat = xs.length := by omega
  show (xs ++ [z])[((-1 : Int) + ((xs ++ [z]).length : Int)).toNat]? = some z
  rw [e2]
  simp
theorem x_lastNl (s : List Nat) (t : Nat) : pIx [.list (nlD (s ++ [t])), .int (-1)] = some (.val (.int (t : Int))) := by
  show (atI (nlD (s ++ [t])) (-1)).map Slot.val = _
  have e : nlD (s ++ [t]) = nlD s ++ [.int (t : Int)] := by simp [nlD]
  rw [e, x_last]
  rfl
theorem x_addNl (s : List Nat) (t : Nat) (h : s.length + 1 ≤ 1000000) : pAdd [.list (nlD s), .list [.int (t : Int)]] = some (.own (nlD (s ++ [t]))) := by
  show (if (nlD s).length + 1 ≤ 1000000 then some (Slot.own (nlD s ++ [.int (t : Int)])) else none) = _
  rw [if_pos (by simpa [nlD] using h)]
  simp [nlD]
/-- how many lists there are -/
def subs {α : Type} : List α → List (List α)
  | [] => [[]]
  | a :: l => subs l ++ (subs l).map (a :: ·)
theorem subs_len {α : Type} : ∀ l : List α, (subs l).length = 2 ^ l.length
  | [] => rfl
  | a :: l => by
    show (subs l ++ (subs l).map (a :: ·)).length = _
    rw [List.length_append, List.length_map, subs_len l, List.length_cons, Nat.pow_succ]
    omega
theorem subs_mem {α : Type} {l s : List α} (h : s.Sublist l) : s ∈ subs l := by
  induction h with
  | slnil => exact List.mem_singleton.mpr rfl
  | cons a _ ih => exact List.mem_append.mpr (.inl ih)
  | cons_cons a _ ih => exact List.mem_append.mpr (.inr (List.mem_map.mpr ⟨_, ih, rfl⟩))
theorem lev_nd (c : Nat → Nat → Bool) (m : Nat) : ∀ k : Nat, (lev c m k).Nodup
  | 0 => List.nodup_cons.mpr ⟨List.not_mem_nil, List.nodup_nil⟩
  | k + 1 => by
    show (grow c m (lev c m k)).Nodup
    unfold grow
    refine List.pairwise_flatMap.mpr ⟨fun s _ => ?_, ?_⟩
    · refine List.Pairwise.map _ (fun a b h e => h ?_) ((List.nodup_range (n := m)).sublist List.filter_sublist)
      exact List.singleton_inj.mp (List.append_cancel_left e)
    · refine List.Pairwise.imp (fun {x y} h a ha b hb e => h ?_) (lev_nd c m k)
      obtain ⟨t, _, rfl⟩ := List.mem_map.mp ha
      obtain ⟨u, _, rfl⟩ := List.mem_map.mp hb
      exact List.append_inj_left' e rfl
theorem lev_len (c : Nat → Nat → Bool) (m k : Nat) : (lev c m k).length ≤ 2 ^ m := by
  have h := nodup_sub_len (lev c m k) (subs (List.range m)) (lev_nd c m k) fun s hs => by
    obtain ⟨_, h2, h3⟩ := (mem_lev c m k s).mp hs
    exact subs_mem (sub_range m s (h2.imp fun h => h.1) h3)
  rw [subs_len, List.length_range] at h
  exact h
theorem lev_len8 (c : Nat → Nat → Bool) {m : Nat} (h : m ≤ 8) (k : Nat) : (lev c m k).length ≤ 256 :=
  Nat.le_trans (lev_len c m k) (Nat.pow_le_pow_right (by decide) h : 2 ^ m ≤ 2 ^ 8)
def levs (c : Nat → Nat → Bool) (m j : Nat) : List (List Nat) := (List.range j).flatMap (lev c m)
theorem levs_succ (c : Nat → Nat → Bool) (m j : Nat) : levs c m (j + 1) = levs c m j ++ lev c m j := by
  unfold levs
  rw [List.range_succ, List.flatMap_append]
  simp
theorem levs_len8 (c : Nat → Nat → Bool) {m : Nat} (h : m ≤ 8) (j : Nat) : (levs c m j).length ≤ j * 256 := by
  induction j with
  | zero => simp [levs]
  | succ j ih =>
    rw [levs_succ, List.length_append]
    have := lev_len8 c h j
    omega
theorem grow_take (c : Nat → Nat → Bool) (m : Nat) (l : List (List Nat)) (i : Nat) : (grow c m (l.take i)).length ≤ (grow c m l).length := by
  have e : grow c m l = grow c m (l.take i) ++ grow c m (l.drop i) := by
    unfold grow
    rw [← List.flatMap_append, List.take_append_drop]
  rw [e, List.length_append]
  omega
theorem lsD_get {ls : List (List Nat)} {i : Nat} {d : PyData} (h : (lsD ls)[i]? = some d) : ∃ s, ls[i]? = some s ∧ d = .list (nlD s) := by
  unfold lsD at h
  rw [List.getElem?_map] at h
  obtain ⟨p, hp, e⟩ := Option.map_eq_some_iff.mp h
  exact ⟨p, hp, e.symm⟩
theorem all_and {α : Type} (p q : α → Bool) : ∀ l : List α, (l.all fun a => p a && q a) = (l.all p && l.all q)
  | [] => rfl
  | a :: l => by
    rw [List.all_cons, List.all_cons, List.all_cons, all_and p q l]
    cases p a <;> cases q a <;> cases l.all p <;> cases l.all q <;> rfl
/-- in a rising list the last one tells -/
theorem all_lt_last {s : List Nat} {z t : Nat} (h : (s ++ [z]).Pairwise fun a b => a < b) : ((s ++ [z]).all fun a => decide (a < t)) = decide (z < t) := by
  rw [Bool.eq_iff_iff, List.all_eq_true, decide_eq_true_eq]
  constructor
  · intro k
    exact of_decide_eq_true (k z (List.mem_append.mpr (.inr (List.mem_singleton.mpr rfl))))
  · intro k a ha
    rw [decide_eq_true_eq]
    rcases List.mem_append.mp ha with q | q
    · have := (List.pairwise_append.mp h).2.2 a q z (List.mem_singleton.mpr rfl)
      omega
    · rw [List.mem_singleton.mp q]
      exact k
/-- the first of the longest -/
def bestOf (b : List Nat) (l : List (List Nat)) : List Nat := l.foldl (fun b s => if b.length < s.length then s else b) b
theorem bestOf_short {n : Nat} : ∀ {l : List (List Nat)} {b : List Nat}, (∀ s ∈ l, s.length = n) → n ≤ b.length → bestOf b l = b
  | [], _, _, _ => rfl
  | s :: l, b, h, hb => by
    show bestOf (if b.length < s.length then s else b) l = b
    rw [if_neg (by rw [h s List.mem_cons_self]; omega)]
    exact bestOf_short (fun z hz => h z (List.mem_cons_of_mem _ hz)) hb
theorem bestOf_long {n : Nat} {s : List Nat} {l : List (List Nat)} {b : List Nat} (h : ∀ z ∈ s :: l, z.length = n) (hb : b.length < n) : bestOf b (s :: l) = s := by
  show bestOf (if b.length < s.length then s else b) l = s
  have e := h s List.mem_cons_self
  rw [if_pos (by omega)]
  exact bestOf_short (n := n) (fun z hz => h z (List.mem_cons_of_mem _ hz)) (by omega)
theorem best_levs (c : Nat → Nat → Bool) (m : Nat) : ∀ k, k ≤ clq c (List.range m) → (bestOf [] (levs c m (k + 1))).length = k ∧ lev c m k = bestOf [] (levs c m (k + 1)) :: (lev c m k).tail := by
  intro k
  induction k with
  | zero => intro _; exact ⟨rfl, rfl⟩
  | succ k ih =>
    intro h
    obtain ⟨h1, _⟩ := ih (by omega)
    have ne := (lev_ne c m (k + 1)).mpr h
    have len : ∀ s ∈ lev c m (k + 1), s.length = k + 1 := fun s hs => ((mem_lev c m (k + 1) s).mp hs).1
    have e : bestOf [] (levs c m (k + 1 + 1)) = bestOf (bestOf [] (levs c m (k + 1))) (lev c m (k + 1)) := by
      rw [levs_succ c m (k + 1)]
      unfold bestOf
      rw [List.foldl_append]
    rw [e]
    cases q : lev c m (k + 1) with
    | nil => exact absurd q ne
    | cons s l =>
      rw [q] at len
      rw [bestOf_long len (by omega)]
      exact ⟨len s List.mem_cons_self, rfl⟩
theorem any_nl (s : List Nat) (n : Nat) : anyEq (nlD s) (.int (n : Int)) = decide (n ∈ s) := by
  rw [nlD_ns, any_int, Bool.eq_iff_iff, decide_eq_true_eq, decide_eq_true_eq, List.mem_map]
  constructor
  · rintro ⟨a, ha, e⟩
    have : a = n := by omega
    rw [← this]
    exact ha
  · exact fun h => ⟨n, h, rfl⟩
theorem sh_nl (s : List Nat) : SeqAt.shaped (.list (nlD s)) = true := by
  have h := sh_nsL (s.map fun i : Nat => (i : Int))
  rw [← nlD_ns] at h
  exact h
theorem x_inNl (s : List Nat) (x : Int) : pIn [.int x, .list (nlD s)] = some (.val (.bool (decide (x ∈ s.map fun i : Nat => (i : Int))))) := by
  have h1 := sh_int x
  have h2 := sh_nl s
  have h3 := any_int (s.map fun i : Nat => (i : Int)) x
  rw [← nlD_ns] at h3
  unfold pIn
  simp only [h1, h2, h3, Bool.and_self, if_true]
theorem x_bit (lot : Nat) (i : Nat) : pShr [.int (lot : Int), .int (i : Int)] = some (.val (.int ((lot / 2 ^ i : Nat) : Int))) := by
  have e : (lot : Int) / 2 ^ (i : Int).toNat = ((lot / 2 ^ i : Nat) : Int) := by
    rw [Int.toNat_natCast]
    simp
  show (if decide (0 ≤ (i : Int)) = true then some (Slot.val (PyData.int ((lot : Int) / 2 ^ (i : Int).toNat))) else none) = _
  rw [if_pos (decide_eq_true (Int.natCast_nonneg i)), e]
theorem x_and1 (k : Nat) : pAndI [.int (k : Int), .int 1] = some (.val (.int ((k % 2 : Nat) : Int))) := by
  show some (Slot.val (PyData.int (Builtin.bitAnd (k : Int) 1))) = _
  rw [bitAnd_m1]
  rfl
end Dn

/-! Den24: an own name handed over ahead of arguments that change it; `is` of truths. -/
namespace Dn
open PySem PySem.Spec L2
open PyProof.Rows hiding St
/-- a name that owns a list, lent behind the arguments after it -/
def asLate (i : Nat) (r : DenA) : DenA := fun Φ ρ => if isOwnL ρ i then ((r Φ ρ).bind fun y => match y.2[i]? with
  | some (.own ds) => .ok ((some i, .own ds) :: y.1, y.2.set i .un)
  | _ => .stuck) else asVar i r Φ ρ
section
variable {Γ : Ctx} {e : Expr} {es : List Expr} {d : DenOs} {r : DenA} {p : Bool} {pos : Pos}
variable {B : Bd} {F H : Hp} {ρ : Env} {σ : St}
theorem args_late {i : Nat} {s : Slot} {a : Addr} {as : List (Option Nat × Slot)} {vs : List V} (R : Rel B F H ρ σ) (A : ArgsOk B F H ρ σ as vs) (hs : ρ[i]? = some s) (ho : s.isOwn = true) (hi : σ[i]? = some (some (.ref a))) :
    ArgsOk B F H (ρ.set i .un) σ ((some i, s) :: as) (.ref a :: vs) := by
  have mine : owned ρ σ a := ⟨i, s, hs, ho, hi⟩
  obtain ⟨b, o, g1, g2, g3, g4, g5⟩ := R.sl.own i s hs ho
  rw [hi] at g1
  cases g1
  refine ⟨by simp [A.len], fun j w d q => ?_, fun j w ns q => ?_, fun j w t q qs => ?_, fun j k w1 w2 t u c ne q qs q' qs' e1 e2 => ?_, fun j m t q => ?_, fun x hx => ?_⟩
  · cases j with
    | zero =>
      simp only [List.getElem?_cons_zero, Option.some.injEq, Prod.mk.injEq] at q
      rw [q.2] at ho
      cases ho
    | succ j => exact A.val j w d (by simpa using q)
  · cases j with
    | zero =>
      simp only [List.getElem?_cons_zero, Option.some.injEq, Prod.mk.injEq] at q
      rw [q.2] at ho
      cases ho
    | succ j => exact A.scr j w ns (by simpa using q)
  · cases j with
    | zero =>
      simp only [List.getElem?_cons_zero, Option.some.injEq, Prod.mk.injEq] at q
      obtain ⟨q1, q2⟩ := q
      subst q1
      subst q2
      refine ⟨a, o, rfl, g2, g3, g4, g5.imp (fun z => ⟨i, rfl, z⟩) id, fun ⟨m, t, k1, k2, k3⟩ => ?_⟩
      rcases set_get k1 with ⟨_, z2, _⟩ | ⟨z1, z2⟩
      · rw [z2] at k2; cases k2
      · exact R.sl.dis m i t s a z1 z2 k2 hs ho k3 hi
    | succ j =>
      obtain ⟨c, u, h1, h2, h3, h4, h5, h6⟩ := A.own j w t (by simpa using q) qs
      refine ⟨c, u, by simpa using h1, h2, h3, h4, h5, fun ⟨m, v, k1, k2, k3⟩ => h6 ?_⟩
      rcases set_get k1 with ⟨_, z2, _⟩ | ⟨_, z2⟩
      · rw [z2] at k2; cases k2
      · exact ⟨m, v, z2, k2, k3⟩
  · have far : ∀ {n : Nat} {w : Option Nat} {v : Slot}, as[n]? = some (w, v) → v.isOwn = true → vs[n]? ≠ some (.ref a) := fun {n w v} z zs z2 => by
      obtain ⟨c', _, h1, _, _, _, _, h6⟩ := A.own n w v z zs
      rw [z2] at h1
      cases h1
      exact h6 mine
    cases j with
    | zero =>
      cases k with
      | zero => exact ne rfl
      | succ k =>
        have : c = a := by simp at e1; exact e1.symm
        subst this
        exact far (by simpa using q') qs' (by simpa using e2)
    | succ j =>
      cases k with
      | zero =>
        have : c = a := by simp at e2; exact e2.symm
        subst this
        exact far (by simpa using q) qs (by simpa using e1)
      | succ k => exact A.dis j k w1 w2 t u c (fun z => ne (by rw [z])) (by simpa using q) qs (by simpa using q') qs' (by simpa using e1) (by simpa using e2)
  · cases j with
    | zero =>
      simp only [List.getElem?_cons_zero, Option.some.injEq, Prod.mk.injEq] at q
      obtain ⟨q1, q2⟩ := q
      subst q1
      subst q2
      exact ⟨ho, _, rfl, hi⟩
    | succ j => exact A.ret j m t (by simpa using q)
  · rcases List.mem_cons.mp hx with z | z
    · rw [z]; intro y; rw [show s = .un from y] at ho; cases ho
    · exact A.no x z
theorem snd_asLate {x : Str} {i : Nat} (hN : Γ.N[i]? = some x) (hv : visB Γ.sc x = true) (hx : okName x = true) (h2 : SndA Γ es r) : SndA Γ (.Name x pos :: es) (asLate i r) := by
  intro X Φ B F H ρ σ Q W C hK T R h
  have P : PE X (.Name x pos) (tVar i) := pe_var (by rw [C.nm]; exact hN) (by rw [C.sc]; exact vis_of hv) (okName_d hx) (okName_c hx)
  unfold asLate at h
  by_cases ho : isOwnL ρ i = true
  case neg =>
    rw [if_neg ho] at h
    exact snd_asVar hN hv hx h2 X Φ B F H ρ σ Q W C hK T R h
  rw [if_pos ho] at h
  obtain ⟨ds, e⟩ := isOwnL_of ho
  obtain ⟨a, o, e1, e2, e3, e4, e5⟩ := R.sl.own i _ e rfl
  refine P.w ⟨_, e1, ?_⟩
  refine h2 X Φ B F H ρ σ _ W C hK T R (wp_mono (wp_bind h) (fun y q vs F2 H2 R2 e3' A => ?_) fun _ z => z)
  obtain ⟨as, ρ2⟩ := y
  have R2 : Rel B F2 H2 ρ2 σ := R2
  have A : ArgsOk B F2 H2 ρ2 σ as vs := A
  have q : (match ρ2[i]? with
    | some (.own ds) => Out.ok ((some i, Slot.own ds) :: as, ρ2.set i .un)
    | _ => Out.stuck).wp _ _ := q
  cases z : ρ2[i]? with
  | none => rw [z] at q; exact q.elim
  | some s =>
    rw [z] at q
    cases s with
    | own ds2 => exact q _ F2 H2 (R2.unset i) e3' (args_late R2 A z rfl e1)
    | _ => exact q.elim
/-! ### is, of truths -/
def pIsB : Prim
  | [.bool a, .bool b] => some (.val (.bool (decide (a = b))))
  | _ => none
def pIsNB : Prim
  | [.bool a, .bool b] => some (.val (.bool (!decide (a = b))))
  | _ => none
theorem rl_isB (K : PySem.W.Frag) : Rule K (rr2 fun x y H Q => ∃ a b, x = .bl a ∧ y = .bl b ∧ Q (.bl (decide (a = b))) H) pIsB := by
  intro F H ds vs Q s e hb hs q
  unfold pIsB at hs
  split at hs
  · cases hs
    obtain ⟨v, w, rfl, h1, h2⟩ := hb.two
    have h1 := h1.rp e
    have h2 := h2.rp e
    cases h1
    cases h2
    exact ⟨_, _, rfl, _, _, rfl, rfl, pq_val e q (.bl _)⟩
  · cases hs
theorem rl_isNB (K : PySem.W.Frag) : Rule K (rr2 fun x y H Q => ∃ a b, x = .bl a ∧ y = .bl b ∧ Q (.bl (!decide (a = b))) H) pIsNB := by
  intro F H ds vs Q s e hb hs q
  unfold pIsNB at hs
  split at hs
  · cases hs
    obtain ⟨v, w, rfl, h1, h2⟩ := hb.two
    have h1 := h1.rp e
    have h2 := h2.rp e
    cases h1
    cases h2
    exact ⟨_, _, rfl, _, _, rfl, rfl, pq_val e q (.bl _)⟩
  · cases hs
variable {a b : Expr}
theorem e_isB (h : SndOs Γ [a, b] d p) (hb : notSet b = true) : SndE Γ (.Compare a [.Is] [b] pos) (dP pIsB d) p := snd_cmp (r := fun _ => fun x y H Q => ∃ a b, x = .bl a ∧ y = .bl b ∧ Q (.bl (decide (a = b))) H) (fun X _ _ => op_is_bl) rl_isB h hb
theorem e_isNB (h : SndOs Γ [a, b] d p) (hb : notSet b = true) : SndE Γ (.Compare a [.IsNot] [b] pos) (dP pIsNB d) p := snd_cmp (r := fun _ => fun x y H Q => ∃ a b, x = .bl a ∧ y = .bl b ∧ Q (.bl (!decide (a = b))) H) (fun X _ _ => op_isnot_bl) rl_isNB h hb
theorem t_isB (h : SndOs Γ [a, b] d p) (hb : notSet b = true) : SndT Γ (.Compare a [.Is] [b] pos) (dP pIsB d) p := snd_cmpT (r := fun _ => fun x y H Q => ∃ a b, x = .bl a ∧ y = .bl b ∧ Q (.bl (decide (a = b))) H) (fun X _ _ => op_is_bl) rl_isB h hb
theorem t_isNB (h : SndOs Γ [a, b] d p) (hb : notSet b = true) : SndT Γ (.Compare a [.IsNot] [b] pos) (dP pIsNB d) p := snd_cmpT (r := fun _ => fun x y H Q => ∃ a b, x = .bl a ∧ y = .bl b ∧ Q (.bl (!decide (a = b))) H) (fun X _ _ => op_isnot_bl) rl_isNB h hb
end
/-! ### step by step -/
section
variable {Φ : Calls} {ρ : Env} {i : Nat} {r : DenA} {la : List (Option Nat × Slot)} {ds : List PyData} {u v : Bool}
def kLate2 (o : Option Slot) (i : Nat) (la : List (Option Nat × Slot)) (ρ : Env) : Out (List (Option Nat × Slot) × Env) := match o with
  | some (.own ds) => .ok ((some i, .own ds) :: la, ρ.set i .un)
  | _ => .stuck
def kLate (i : Nat) : List (Option Nat × Slot) × Env → Out (List (Option Nat × Slot) × Env) := fun y => kLate2 (y.2[i]?) i y.1 y.2
def lateG (o : Option Slot) (i : Nat) (r : DenA) (Φ : Calls) (ρ : Env) : Out (List (Option Nat × Slot) × Env) := match o with
  | some (.own _) => (r Φ ρ).bind (kLate i)
  | _ => aVar o i r Φ ρ
@[simp] theorem x_asLate : asLate i r Φ ρ = lateG (ρ[i]?) i r Φ ρ := by
  unfold asLate isOwnL lateG
  cases h : ρ[i]? with
  | none => simp [h]
  | some s => cases s <;> simp [h] <;> rfl
@[simp] theorem x_lateG1 : lateG (some (.own ds)) i r Φ ρ = (r Φ ρ).bind (kLate i) := id rfl
@[simp] theorem x_lateG2 {d : PyData} : lateG (some (.val d)) i r Φ ρ = (r Φ ρ).bind (kAs (none, .val d)) := id rfl
@[simp] theorem x_lateG3 {ns : List Int} : lateG (some (.scr ns)) i r Φ ρ = (r Φ ρ).bind (kAs (none, .scr ns)) := id rfl
@[simp] theorem x_asLate1 : kLate i (la, ρ) = kLate2 (ρ[i]?) i la ρ := id rfl
@[simp] theorem x_asLate2 : kLate2 (some (.own ds)) i la ρ = .ok ((some i, .own ds) :: la, ρ.set i .un) := id rfl
@[simp] theorem x_isB : pIsB [.bool u, .bool v] = some (.val (.bool (decide (u = v)))) := id rfl
@[simp] theorem x_isNB : pIsNB [.bool u, .bool v] = some (.val (.bool (!decide (u = v)))) := id rfl
end
end Dn

/-! Den25: repr of data without dicts; how long it can be. -/
namespace Dn
open PySem PySem.Spec L2
open PyProof.Rows hiding St
mutual
/-- a bound for the length of the text -/
def wt : PyData → Nat
  | .none => 10
  | .bool _ => 10
  | .int _ => 2000
  | .str x => (reprText x).length
  | .list ds => wtAll ds + 10
  | .tuple ds => wtAll ds + 10
  | .dict es => wtKv es + 10
def wtAll : List PyData → Nat
  | [] => 0
  | d :: ds => wt d + 2 + wtAll ds
def wtKv : List (PyData × PyData) → Nat
  | [] => 0
  | (k, d) :: ds => wt k + wt d + 6 + wtKv ds
end
mutual
theorem shown_wt : ∀ d : PyData, d.showable = true → d.shown.length ≤ wt d
  | .none, _ => by unfold wt; simp only [PyData.shown]; decide +kernel
  | .bool b, _ => by unfold wt; simp only [PyData.shown]; cases b <;> decide +kernel
  | .int i, h => by
    unfold wt
    have := int_text_len_1921 (i := i) (by simpa [PyData.showable] using h)
    simp only [PyData.shown]
    exact Nat.le_trans this (by decide)
  | .str x, _ => by unfold wt; simp only [PyData.shown]; exact Nat.le_refl _
  | .list ds, h => by
    have h1 := shown_wtAll ds (by simpa [PyData.showable] using h)
    have h2 := listText_len_le (PyData.shownAll ds)
    unfold wt
    simp only [PyData.shown]
    omega
  | .tuple ds, h => by
    have h1 := shown_wtAll ds (by simpa [PyData.showable] using h)
    have h2 := tupleText_len_le (PyData.shownAll ds)
    unfold wt
    simp only [PyData.shown]
    omega
  | .dict es, h => by
    have h1 := shown_wtKv es (by simpa [PyData.showable] using h)
    have h2 := dictText_len_le (PyData.shownKv es)
    unfold wt
    simp only [PyData.shown]
    omega
theorem shown_wtAll : ∀ ds : List PyData, PyData.showableAll ds = true → ((PyData.shownAll ds).map (·.length)).sum + 2 * (PyData.shownAll ds).length ≤ wtAll ds
  | [], _ => by simp [PyData.shownAll]
  | d :: ds, h => by
    simp only [PyData.showableAll, Bool.and_eq_true] at h
    have h1 := shown_wt d h.1
    have h2 := shown_wtAll ds h.2
    unfold wtAll
    simp only [PyData.shownAll, List.map_cons, List.sum_cons, List.length_cons]
    omega
theorem shown_wtKv : ∀ ds : List (PyData × PyData), PyData.showableKv ds = true → ((PyData.shownKv ds).map (·.length)).sum + 2 * (PyData.shownKv ds).length ≤ wtKv ds
  | [], _ => by simp [PyData.shownKv]
  | (k, d) :: ds, h => by
    simp only [PyData.showableKv, Bool.and_eq_true] at h
    have h0 := shown_wt k h.1.1
    have h1 := shown_wt d h.1.2
    have h2 := shown_wtKv ds h.2
    have h3 : (k.shown ++ ": " ++ d.shown).length = k.shown.length + 2 + d.shown.length := by
      rw [strLen_append, strLen_append]
      rfl
    unfold wtKv
    simp only [PyData.shownKv, List.map_cons, List.sum_cons, List.length_cons]
    rw [h3]
    omega
end
/-! ### how data is read, dicts among it -/
def atomK : PyData → Bool
  | .int _ => true
  | .str _ => true
  | _ => false
mutual
/-- no dict within, or keys that are whole numbers and texts -/
def rdB : PyData → Bool
  | .list ds => rdAll ds
  | .tuple ds => rdAll ds
  | .dict es => rdKv es
  | _ => true
def rdAll : List PyData → Bool
  | [] => true
  | d :: ds => rdB d && rdAll ds
def rdKv : List (PyData × PyData) → Bool
  | [] => true
  | (k, d) :: ds => atomK k && rdB d && rdKv ds
end
mutual
def flatB : PyData → Bool
  | .list _ => false
  | .tuple ds => flatAll ds
  | .dict es => flatKv es
  | _ => true
def flatAll : List PyData → Bool
  | [] => true
  | d :: ds => flatB d && flatAll ds
def flatKv : List (PyData × PyData) → Bool
  | [] => true
  | (_, d) :: ds => flatB d && flatKv ds
end
mutual
theorem rd_lay : ∀ d : PyData, d.canLay0 = true → rdB d = true
  | .none, _ => by simp [rdB]
  | .bool _, _ => by simp [rdB]
  | .int _, _ => by simp [rdB]
  | .str _, _ => by simp [rdB]
  | .list ds, h => by simpa [rdB] using rd_layAll ds (by simpa [PyData.canLay0] using h)
  | .tuple ds, h => by simpa [rdB] using rd_layAll ds (by simpa [PyData.canLay0] using h)
  | .dict _, h => by simp [PyData.canLay0] at h
theorem rd_layAll : ∀ ds : List PyData, PyData.canLayAll0 ds = true → rdAll ds = true
  | [], _ => by simp [rdAll]
  | d :: ds, h => by
    simp only [PyData.canLayAll0, Bool.and_eq_true] at h
    simp [rdAll, rd_lay d h.1, rd_layAll ds h.2]
end
/-! ### data read, its dicts apart from the modules' table -/
mutual
inductive RdS (h : Heap) : Value → PyData → Prop
  | none : RdS h .none .none
  | bool (b : Bool) : RdS h (.bool b) (.bool b)
  | int (i : Int) (t : Tok) : RdS h (.int i t) (.int i)
  | str (x : Str) (t : Tok) : RdS h (.str x t) (.str x)
  | list {a : Addr} {o : Obj} {vs : Array Value} {n : Nat} {xs : List PyData} : h.get? a = some o → o.cls = .type "list" → o.data = .seq vs n → RdSAll h vs.toList xs → RdS h (.ref a) (.list xs)
  | tuple {a : Addr} {o : Obj} {vs : Array Value} {n : Nat} {xs : List PyData} : h.get? a = some o → o.cls = .type "tuple" → o.data = .seq vs n → RdSAll h vs.toList xs → RdS h (.ref a) (.tuple xs)
  | dict {a : Addr} {o : Obj} {es : Array DictEntry} {n : Nat} {kvs : List (PyData × PyData)} : (a == sysModules) = false → h.get? a = some o → o.cls = .type "dict" → o.data = .dict es n → RdSAll h (es.toList.map (·.key)) (kvs.map (·.1)) →
      RdSAll h (es.toList.map (·.val)) (kvs.map (·.2)) → RdS h (.ref a) (.dict kvs)
inductive RdSAll (h : Heap) : List Value → List PyData → Prop
  | nil : RdSAll h [] []
  | cons {v : Value} {vs : List Value} {d : PyData} {ds : List PyData} : RdS h v d → RdSAll h vs ds → RdSAll h (v :: vs) (d :: ds)
end
mutual
theorem RdS.reads {h : Heap} : ∀ {v : Value} {d : PyData}, RdS h v d → ∃ as, Reads h v d as
  | _, _, .none => ⟨_, .none⟩
  | _, _, .bool b => ⟨_, .bool b⟩
  | _, _, .int i t => ⟨_, .int i t⟩
  | _, _, .str x t => ⟨_, .str x t⟩
  | _, _, .list h1 h2 h3 h4 => let ⟨_, q⟩ := h4.reads; ⟨_, .list h1 h2 h3 q⟩
  | _, _, .tuple h1 h2 h3 h4 => let ⟨_, q⟩ := h4.reads; ⟨_, .tuple h1 h2 h3 q⟩
  | _, _, .dict _ h1 h2 h3 h4 h5 => let ⟨_, q⟩ := h4.reads; let ⟨_, q2⟩ := h5.reads; ⟨_, .dict h1 h2 h3 q q2⟩
theorem RdSAll.reads {h : Heap} : ∀ {vs : List Value} {ds : List PyData}, RdSAll h vs ds → ∃ as, ReadsAll h vs ds as
  | _, _, .nil => ⟨_, .nil⟩
  | _, _, .cons h1 h2 => let ⟨_, q⟩ := h1.reads; let ⟨_, q2⟩ := h2.reads; ⟨_, .cons q q2⟩
end
section
variable {prog : Program} {w : World} {h₀ : Heap}
mutual
theorem reprK_of : ∀ {v : Value} {d : PyData}, RdS h₀ v d → d.showable = true → d.shown.length ≤ sizeLine → ∃ bs, ReadAtMost h₀ d.depth bs ∧ ReprK prog w bs h₀ d.depth v d.shown
  | _, _, .none, _, _ => ⟨[], (fun _ h => nomatch h), by simp only [PyData.shown]; exact .of_is ReprIs.none _ _ _⟩
  | _, _, .bool b, _, _ => ⟨[], (fun _ h => nomatch h), by simp only [PyData.shown]; exact .of_is (ReprIs.bool b) _ _ _⟩
  | _, _, .int i t, hs, _ => ⟨[], (fun _ h => nomatch h), by simp only [PyData.shown]; exact .of_is (ReprIs.int t (by simpa [PyData.showable] using hs)) _ _ _⟩
  | _, _, .str x t, _, hz => ⟨[], (fun _ h => nomatch h), by simp only [PyData.shown]; exact .of_is (ReprIs.str x t (by simpa only [PyData.shown] using hz)) _ _ _⟩
  | _, _, .list (a := a) (vs := vs) (xs := xs) h1 h2 h3 h4, hs, hz => by
    have hz' : (listText (PyData.shownAll xs)).length ≤ sizeLine := by simpa only [PyData.shown] using hz
    obtain ⟨bs, hb, hk⟩ := reprAllK_of h4 (by simpa [PyData.showable] using hs) (fun t ht => Nat.le_trans (listText_mem_le ht) hz')
    obtain ⟨_, r⟩ := (RdS.list h1 h2 h3 h4).reads
    have hna : a ∉ bs := not_mem_of_deeper r (by simp only [PyData.depth]; omega) hb
    refine ⟨a :: bs, ReadAtMost.cons r (by simp only [PyData.depth]; omega) hb, ?_⟩
    simp only [PyData.depth, PyData.shown]
    obtain ⟨l⟩ := vs
    cases l with
    | nil =>
      have h4' : RdSAll h₀ [] xs := h4
      cases h4'
      simp only [PyData.shownAll, listText_nil]
      exact ReprK.listEmpty h1 h2 h3
    | cons x l => exact ReprK.list h1 h2 h3 hna (by simpa using hk.length_eq) (fun i y e => hk.item i y (by simpa using e))
  | _, _, .tuple (a := a) (xs := xs) h1 h2 h3 h4, hs, hz => by
    have hz' : (tupleText (PyData.shownAll xs)).length ≤ sizeLine := by simpa only [PyData.shown] using hz
    obtain ⟨bs, hb, hk⟩ := reprAllK_of h4 (by simpa [PyData.showable] using hs) (fun t ht => Nat.le_trans (tupleText_mem_le ht) hz')
    obtain ⟨_, r⟩ := (RdS.tuple h1 h2 h3 h4).reads
    have hna : a ∉ bs := not_mem_of_deeper r (by simp only [PyData.depth]; omega) hb
    refine ⟨a :: bs, ReadAtMost.cons r (by simp only [PyData.depth]; omega) hb, ?_⟩
    simp only [PyData.depth, PyData.shown]
    exact ReprK.tuple h1 h2 h3 hna hk
  | _, _, .dict (a := a) (es := es) (kvs := kvs) hsys h1 h2 h3 h4 h5, hs, hz => by
    have hz' : (dictText (PyData.shownKv kvs)).length ≤ sizeLine := by simpa only [PyData.shown] using hz
    obtain ⟨hs1, hs2⟩ := PyData.showableKv_split kvs (by simpa [PyData.showable] using hs)
    obtain ⟨b1, hb1, k1⟩ := reprAllK_of h4 hs1 (fun t ht => let ⟨p, hp, hl⟩ := PyData.shownKv_key_le kvs t ht; Nat.le_trans hl (Nat.le_trans (dictText_mem_le hp) hz'))
    obtain ⟨b2, hb2, k2⟩ := reprAllK_of h5 hs2 (fun t ht => let ⟨p, hp, hl⟩ := PyData.shownKv_val_le kvs t ht; Nat.le_trans hl (Nat.le_trans (dictText_mem_le hp) hz'))
    obtain ⟨_, r⟩ := (RdS.dict hsys h1 h2 h3 h4 h5).reads
    have hb : ReadAtMost h₀ (PyData.depthKv kvs) (b1 ++ b2) := (hb1.mono (PyData.depthAll_keys_le kvs)).append (hb2.mono (PyData.depthAll_vals_le kvs))
    have hna : a ∉ b1 ++ b2 := not_mem_of_deeper r (by simp only [PyData.depth]; omega) hb
    refine ⟨a :: (b1 ++ b2), ReadAtMost.cons r (by simp only [PyData.depth]; omega) hb, ?_⟩
    simp only [PyData.depth, PyData.shown, PyData.shownKv_eq]
    exact ReprK.dict h1 h2 h3 hsys hna (ReprEntriesK.of_two es.toList _ _
      (k1.more_le (fun b hb => List.mem_append_left _ hb) (PyData.depthAll_keys_le kvs)) (k2.more_le (fun b hb => List.mem_append_right _ hb) (PyData.depthAll_vals_le kvs)))
theorem reprAllK_of : ∀ {vs : List Value} {ds : List PyData}, RdSAll h₀ vs ds → PyData.showableAll ds = true → (∀ t ∈ PyData.shownAll ds, t.length ≤ sizeLine) → ∃ bs, ReadAtMost h₀ (PyData.depthAll ds) bs ∧ ReprAllK prog w bs h₀ (PyData.depthAll ds) vs (PyData.shownAll ds)
  | _, _, .nil, _, _ => ⟨[], (fun _ h => nomatch h), by simp only [PyData.shownAll]; exact .nil⟩
  | _, _, .cons (d := d) (ds := ds) h1 h2, hs, hz => by
    have hs' : d.showable = true ∧ PyData.showableAll ds = true := by simpa [PyData.showableAll] using hs
    obtain ⟨b1, hb1, k1⟩ := reprK_of h1 hs'.1 (hz _ (by simp only [PyData.shownAll]; exact List.mem_cons_self ..))
    obtain ⟨b2, hb2, k2⟩ := reprAllK_of h2 hs'.2 (fun t ht => hz t (by simp only [PyData.shownAll]; exact List.mem_cons_of_mem _ ht))
    have e1 : d.depth ≤ PyData.depthAll (d :: ds) := by simp only [PyData.depthAll]; omega
    have e2 : PyData.depthAll ds ≤ PyData.depthAll (d :: ds) := by simp only [PyData.depthAll]; omega
    refine ⟨b1 ++ b2, (hb1.mono e1).append (hb2.mono e2), ?_⟩
    simp only [PyData.shownAll]
    exact .cons ((k1.more fun b hb => List.mem_append_left _ hb).level_le e1) (k2.more_le (fun b hb => List.mem_append_right _ hb) e2)
end
variable {a : Addr} {d : PyData}
theorem showsBy_of (r : RdS h₀ (.ref a) d) (hs : d.showable = true) (hsz : d.shown.length ≤ sizeLine) : ∃ T idr, ShowsBy prog w h₀ a d T idr := by
  obtain ⟨_, rr⟩ := r.reads
  cases r with
  | list h1 h2 h3 h4 =>
    rename_i o vs n xs
    have hz' : (listText (PyData.shownAll xs)).length ≤ sizeLine := by simpa only [PyData.shown] using hsz
    obtain ⟨bs, hb, hk⟩ := reprAllK_of (prog := prog) (w := w) h4 (by simpa [PyData.showable] using hs) (fun t ht => Nat.le_trans (listText_mem_le ht) hz')
    have hna : a ∉ bs := not_mem_of_deeper rr (by simp only [PyData.depth]; omega) hb
    refine ⟨"list", "list.__repr__", F.slot_list_repr.toG, F.slot_list_str, F.slot_list_format, fun s hk0 => ⟨o, hk0 _ _ h1, h2⟩, fun A E s Q hg hu hk0 hQ => ?_⟩
    simp only [PyData.depth] at hu
    simp only [PyData.shown] at hQ
    obtain ⟨l⟩ := vs
    cases l with
    | nil =>
      have h4' : RdSAll h₀ [] xs := h4
      cases h4'
      simp only [PyData.shownAll, listText_nil] at hQ
      exact call_list_repr_empty ⟨o, hk0 _ _ h1, h2⟩ (hk0 _ _ h1) h3 (hQ s.heap _ _ fun _ _ e => e)
    | cons x l =>
      exact call_list_reprK h1 h2 h3 hna (by simpa using hk.length_eq) (fun i y e => hk.item i y (by simpa using e)) hg (fun b _ => Clear.nil b) hu hk0 hQ hz'
  | tuple h1 h2 h3 h4 =>
    rename_i o vs n xs
    have hz' : (tupleText (PyData.shownAll xs)).length ≤ sizeLine := by simpa only [PyData.shown] using hsz
    obtain ⟨bs, hb, hk⟩ := reprAllK_of (prog := prog) (w := w) h4 (by simpa [PyData.showable] using hs) (fun t ht => Nat.le_trans (tupleText_mem_le ht) hz')
    have hna : a ∉ bs := not_mem_of_deeper rr (by simp only [PyData.depth]; omega) hb
    refine ⟨"tuple", "tuple.__repr__", F.slot_tuple_repr, F.slot_tuple_str, F.slot_tuple_format, fun s hk0 => ⟨o, hk0 _ _ h1, h2⟩, fun A E s Q hg hu hk0 hQ => ?_⟩
    simp only [PyData.depth] at hu
    simp only [PyData.shown] at hQ
    exact call_tuple_reprK h1 h2 h3 hna hk hg (fun b _ => Clear.nil b) hu hk0 hQ hz'
  | dict hsys h1 h2 h3 h4 h5 =>
    rename_i o es n kvs
    have hz' : (dictText (PyData.shownKv kvs)).length ≤ sizeLine := by simpa only [PyData.shown] using hsz
    obtain ⟨hs1, hs2⟩ := PyData.showableKv_split kvs (by simpa [PyData.showable] using hs)
    obtain ⟨b1, hb1, k1⟩ := reprAllK_of (prog := prog) (w := w) h4 hs1 (fun t ht => let ⟨p, hp, hl⟩ := PyData.shownKv_key_le kvs t ht; Nat.le_trans hl (Nat.le_trans (dictText_mem_le hp) hz'))
    obtain ⟨b2, hb2, k2⟩ := reprAllK_of (prog := prog) (w := w) h5 hs2 (fun t ht => let ⟨p, hp, hl⟩ := PyData.shownKv_val_le kvs t ht; Nat.le_trans hl (Nat.le_trans (dictText_mem_le hp) hz'))
    have hb : ReadAtMost h₀ (PyData.depthKv kvs) (b1 ++ b2) := (hb1.mono (PyData.depthAll_keys_le kvs)).append (hb2.mono (PyData.depthAll_vals_le kvs))
    have hna : a ∉ b1 ++ b2 := not_mem_of_deeper rr (by simp only [PyData.depth]; omega) hb
    refine ⟨"dict", "dict.__repr__", F.slot_dict_repr, F.slot_dict_str, F.slot_dict_format, fun s hk0 => ⟨o, hk0 _ _ h1, h2⟩, fun A E s Q hg hu hk0 hQ => ?_⟩
    simp only [PyData.depth] at hu
    simp only [PyData.shown, PyData.shownKv_eq] at hQ
    exact call_dict_reprK h1 h2 h3 hsys hna (ReprEntriesK.of_two es.toList _ _
      (k1.more_le (fun b hb => List.mem_append_left _ hb) (PyData.depthAll_keys_le kvs)) (k2.more_le (fun b hb => List.mem_append_right _ hb) (PyData.depthAll_vals_le kvs))) hg (fun b _ => Clear.nil b) hu hk0 hQ (by rw [← PyData.shownKv_eq]; exact hz')
theorem repr_of_safe {A : Around} {E : Value → Shared → Prop} {s : Shared} {Q : Value → Shared → Prop} (r : RdS h₀ (.ref a) d) (hs : d.showable = true) (hg : A.guards = some []) (hu : A.units + (d.depth + 1) < cLine) (hk0 : ∀ b o, h₀.get? b = some o → s.heap.get? b = some o)
    (hQ : ∀ h' u tk, (∀ b o, s.heap.get? b = some o → h'.get? b = some o) → Q (.str d.shown u) { s with heap := h', toks := tk })
    (hsz : d.shown.length ≤ sizeLine) : wpAny (model prog w) A (call (.builtin "repr") [.ref a]) Q E s := by
  obtain ⟨T, idr, S⟩ := showsBy_of (prog := prog) (w := w) r hs hsz
  exact call_repr_slot (by omega) (S.typeIs s hk0) S.slotRepr (S.call A.in1 E s _ hg (by show A.units + 1 + d.depth < cLine; omega) hk0 fun h' u tk hk => ⟨_, _, rfl, hQ h' u tk hk⟩)
end
section
variable {X : Cx} {pins : List (Addr × Obj)} {σ : St} {H : Hp} {s : Shared} (I : Inv X pins σ H s)
include I
mutual
theorem rp_reads : ∀ (d : PyData) (v : V) (u : Value), Rp X.K H d v → RelV v u → rdB d = true → RdS s.heap u d
  | .none, _, _, h, r, _ => by cases h; cases r; exact .none
  | .bool b, _, _, h, r, _ => by cases h; cases r; exact .bool b
  | .int i, _, _, h, r, _ => by cases h; obtain ⟨t, rfl⟩ := r; exact .int i t
  | .str x, _, _, h, r, _ => by cases h; obtain ⟨t, rfl⟩ := r; exact .str x t
  | .list ds, _, _, h, r, z => by
    cases h with
    | lst h1 h2 =>
      cases r
      obtain ⟨_, its, n, rv, e⟩ := I.hok _ _ h1
      exact .list e rfl rfl (by simpa using rp_readsAll ds _ its h2 rv (by simpa [rdB] using z))
  | .tuple ds, _, _, h, r, z => by
    cases h with
    | tup h1 _ h2 =>
      cases r
      obtain ⟨_, _, its, rv, o, e, hc, n, hd⟩ := I.hok _ _ h1
      exact .tuple e hc hd (by simpa using rp_readsAll ds _ its h2 rv (by simpa [rdB] using z))
  | .dict es, _, _, h, r, z => by
    cases h with
    | dK h1 h2 =>
      cases r
      obtain ⟨_, hsys, vs, rel, o, ds, ep, e, ex, hd, _, prs, _⟩ := I.hok _ _ h1
      obtain ⟨q1, q2⟩ := rp_readsK es _ vs ds.toList h2 rel prs (by simpa [rdB] using z)
      exact .dict hsys e ex.1 hd q1 q2
    | dT h1 h2 =>
      cases r
      obtain ⟨_, _, hsys, vs, rel, o, ds, ep, e, ex, hd, _, prs, _⟩ := I.hok _ _ h1
      obtain ⟨q1, q2⟩ := rp_readsK es _ vs ds.toList h2 rel prs (by simpa [rdB] using z)
      exact .dict hsys e ex.1 hd q1 q2
theorem rp_readsAll : ∀ (ds : List PyData) (vs : List V) (us : List Value), RpAll X.K H ds vs → Vals vs us → rdAll ds = true → RdSAll s.heap us ds
  | [], _, _, h, r, _ => by cases h; cases r; exact .nil
  | d :: ds, _, _, h, r, z => by
    simp only [rdAll, Bool.and_eq_true] at z
    cases h with
    | cons h1 h2 =>
      cases r with
      | cons r1 r2 => exact .cons (rp_reads d _ _ h1 r1 z.1) (rp_readsAll ds _ _ h2 r2 z.2)
theorem rp_readsK : ∀ (es : List (PyData × PyData)) (kvs : List (Key × V)) (vs : List (Key × Value)) (ds : List DictEntry), RpK X.K H es kvs → KV kvs vs → Pairs (mixKind X.prog X.w) ds vs → rdKv es = true →
    RdSAll s.heap (ds.map (·.key)) (es.map (·.1)) ∧ RdSAll s.heap (ds.map (·.val)) (es.map (·.2))
  | [], _, _, _, h, r, p, _ => by
    cases h
    cases r
    cases p
    exact ⟨.nil, .nil⟩
  | (kd, d) :: es, _, _, _, h, r, p, z => by
    simp only [rdKv, Bool.and_eq_true] at z
    cases h with
    | cons h1 h2 =>
      rename_i k _ _
      cases r with
      | cons r1 r2 =>
        cases p with
        | cons p1 p2 p3 =>
          obtain ⟨q1, q2⟩ := rp_readsK es _ _ _ h2 r2 p3 z.2
          obtain ⟨e1, e2⟩ := r1
          rw [← p2] at e2
          rw [← e1] at p1
          have key : ∀ w : Value, keyIs k w = true → RdS s.heap w (keyD k) := by
            intro w hw
            rcases keyIs_shape hw with ⟨i, t, ek, ev⟩ | ⟨x, t, ek, ev⟩
            · rw [ek, ev]; exact .int i t
            · rw [ek, ev]; exact .str x t
          exact ⟨.cons (key _ p1) q1, .cons (rp_reads d _ _ h1 e2 z.1.2) q2⟩
end
end
def reprOk (d : PyData) : Bool := (decide (d.depth ≤ 64) && rdB d) && d.showable && decide (d.shown.length ≤ 16000000)
def pRepr : Prim
  | [d] => if reprOk d then some (.val (.str d.shown)) else none
  | _ => none
theorem reprOk_of {d : PyData} (h1 : SeqAt.shaped d = true) (h2 : d.showable = true) (h3 : wt d ≤ 16000000) : reprOk d = true := by
  have lay := shaped_lay h1
  have dep : d.depth ≤ 64 := by
    unfold SeqAt.shaped at h1
    simp only [Bool.and_eq_true, decide_eq_true_eq] at h1
    exact h1.2
  unfold reprOk
  rw [h2, decide_eq_true (Nat.le_trans (shown_wt d h2) h3), decide_eq_true dep, rd_lay d lay]
  rfl
theorem reprOk_rd {d : PyData} (h1 : d.depth ≤ 64) (h0 : rdB d = true) (h2 : d.showable = true) (h3 : wt d ≤ 16000000) : reprOk d = true := by
  unfold reprOk
  rw [h2, decide_eq_true (Nat.le_trans (shown_wt d h2) h3), decide_eq_true h1, h0]
  rfl
theorem x_repr {d : PyData} (h : reprOk d = true) : pRepr [d] = some (.val (.str d.shown)) := by
  show (if reprOk d = true then some (Slot.val (PyData.str d.shown)) else none) = _
  rw [if_pos h]
theorem x_neStr (x y : Str) : pNe [.str x, .str y] = some (.val (.bool (!decide (x = y)))) := by
  show some (Slot.val (PyData.bool (!(x == y)))) = _
  rw [beq_dec]
theorem x_eqStr (x y : Str) : pEq [.str x, .str y] = some (.val (.bool (decide (x = y)))) := by
  show some (Slot.val (PyData.bool (x == y))) = _
  rw [beq_dec]
def rRepr (K : PySem.W.Frag) : List V → Hp → VK → Prop := fun xs H Q => ∃ v d, xs = [v] ∧ Rp K H d v ∧ reprOk d = true ∧ Q (.str d.shown) H
theorem call_reprD {X : Cx} (g : X.A.guards = some []) (hr : Room 0 X.A) : CallR X (.builtin "repr") (rRepr X.K) := by
  intro pins s σ H xs us Q I r h
  obtain ⟨v, d, rfl, hd, ok, q⟩ := h
  obtain ⟨u, rfl, ru⟩ := vals1 r
  unfold reprOk at ok
  simp only [Bool.and_eq_true, decide_eq_true_eq] at ok
  obtain ⟨⟨⟨dep, rd⟩, o2⟩, o3⟩ := ok
  have rds := rp_reads I d v u hd ru rd
  have sz : d.shown.length ≤ sizeLine := Nat.le_trans o3 (by decide)
  have un := room_u hr
  have ref : ∀ a, u = .ref a → wpAny (model X.prog X.w) X.A (call (.builtin "repr") [u]) (EP X pins σ Q) X.xe s := fun a e => by
    subst e
    exact repr_of_safe rds o2 g (by omega) (fun _ _ e => e) (fun h' u tk hk => ⟨.str d.shown, H, I.kept hk, ⟨u, rfl⟩, q⟩) sz
  cases hd with
  | non =>
    cases rds
    exact PySem.P.repr_of_none ⟨.str _, H, I.tok _, ⟨_, rfl⟩, by simpa [PyData.shown] using q⟩
  | bl b =>
    cases rds
    exact PySem.P.repr_of_bool ⟨.str _, H, I.tok _, ⟨_, rfl⟩, by simpa [PyData.shown] using q⟩
  | int i =>
    cases rds
    exact PySem.P.repr_of_int (by simpa [PyData.showable] using o2) ⟨.str _, H, I.tok _, ⟨_, rfl⟩, by simpa [PyData.shown] using q⟩
  | str x =>
    cases rds
    simp only [PyData.shown] at sz q
    exact PySem.P.repr_of_str ⟨.str _, H, I.tok _, ⟨_, rfl⟩, q⟩ sz
  | lst h1 h2 => cases ru; exact ref _ rfl
  | tup h1 _ h2 => cases ru; exact ref _ rfl
  | dK h1 h2 => cases ru; exact ref _ rfl
  | dT h1 h2 => cases ru; exact ref _ rfl
theorem rl_repr (K : PySem.W.Frag) : Rule K (rRepr K) pRepr := by
  intro F H ds vs Q s e hb hs q
  unfold pRepr at hs
  split at hs
  · rename_i d
    split at hs
    · rename_i ok
      cases hs
      obtain ⟨v, rfl, h1⟩ := hb.one
      exact ⟨v, d, rfl, h1.rp e, ok, pq_val e q (.str _)⟩
    · cases hs
  · cases hs
/-- repr(e) -/
theorem e_repr {Γ : Ctx} {a : Expr} {d : DenOs} {p : Bool} {fpos pos : Pos} (h : SndOs Γ [a] d p) (he : plainE a = true) (hg : Γ.sc.names.lookup ("repr" : Str) = some .globalImplicit) (hf : ("repr" : Str) ∈ Γ.blts) : SndE Γ (.Call (.Name "repr" fpos) [a] [] pos) (dP pRepr d) p := by
  intro X Φ B F H ρ σ Q W C hK T R hq
  have he' : [a].all plainE = true := by rw [List.all_cons, he]; rfl
  exact PE.w (pe_callB (call_reprD C.grd C.room) (gl_of C hg) (C.blt _ hf) (by decide +kernel) (pa_ws he') (by decide) (by decide) (star_of he) rfl) (ops_run (r := rRepr) rl_repr h C hK T R hq)
/-! ### the usual data -/
set_option exponentiation.threshold 3000 in
theorem show_nsAll : ∀ ns : List Int, (∀ n ∈ ns, n.natAbs < 2 ^ 100) → PyData.showableAll (nsD ns) = true ∧ wtAll (nsD ns) = 2002 * ns.length
  | [], _ => ⟨by simp [PyData.showableAll], by simp [wtAll]⟩
  | n :: ns, h => by
    obtain ⟨h1, h2⟩ := show_nsAll ns fun x hx => h x (List.mem_cons_of_mem _ hx)
    have : n.natAbs.log2 < 1920 := PySem.Flt.log2_lt_of (k := 1920) (by decide) (Nat.lt_of_lt_of_le (h n List.mem_cons_self) (Nat.pow_le_pow_right (by decide) (by decide)))
    refine ⟨by simp only [List.map_cons, PyData.showableAll, PyData.showable, h1, this]; rfl, ?_⟩
    simp only [List.map_cons, wtAll, wt, h2, List.length_cons]
    omega
theorem show_psAll : ∀ ps : List (Int × Int), (∀ p ∈ ps, p.1.natAbs < 2 ^ 100 ∧ p.2.natAbs < 2 ^ 100) → PyData.showableAll (psD ps) = true ∧ wtAll (psD ps) = 4016 * ps.length
  | [], _ => ⟨by simp [PyData.showableAll], by simp [wtAll]⟩
  | p :: ps, h => by
    obtain ⟨h1, h2⟩ := show_psAll ps fun x hx => h x (List.mem_cons_of_mem _ hx)
    have b := h p List.mem_cons_self
    obtain ⟨h3, h4⟩ := show_nsAll [p.1, p.2] (fun n hn => by
      simp only [List.mem_cons, List.not_mem_nil, or_false] at hn
      rcases hn with rfl | rfl
      · exact b.1
      · exact b.2)
    have h3 : PyData.showableAll [.int p.1, .int p.2] = true := h3
    have h4 : wtAll [.int p.1, .int p.2] = 4004 := h4
    have h1 : PyData.showableAll (ps.map prD) = true := h1
    refine ⟨by
      show PyData.showableAll (.tuple [.int p.1, .int p.2] :: ps.map prD) = true
      unfold PyData.showableAll
      rw [h1]
      unfold PyData.showable
      rw [h3]
      rfl, ?_⟩
    have h2 : wtAll (ps.map prD) = 4016 * ps.length := h2
    show wtAll (.tuple [.int p.1, .int p.2] :: ps.map prD) = _
    unfold wtAll
    rw [h2]
    unfold wt
    rw [h4, List.length_cons]
    omega
theorem rep_psL {m : Nat} {ps : List (Int × Int)} (h : ∀ p ∈ ps, p.1.natAbs < 2 ^ 100 ∧ p.2.natAbs < 2 ^ 100) (hl : ps.length ≤ 3000) : reprOk (.list (psD ps)) = true := by
  obtain ⟨h1, h2⟩ := show_psAll ps h
  refine reprOk_of (sh_psL ps) (by simpa [PyData.showable] using h1) ?_
  have h2 : wtAll (psD ps) = 4016 * ps.length := h2
  unfold wt
  rw [h2]
  omega
theorem rep_ord {m : Int} {ps : List (Int × Int)} (hm : m.natAbs < 2 ^ 100) (h : ∀ p ∈ ps, p.1.natAbs < 2 ^ 100 ∧ p.2.natAbs < 2 ^ 100) (hl : ps.length ≤ 3000) : reprOk (ordD m ps) = true := by
  obtain ⟨h1, h2⟩ := show_psAll ps h
  obtain ⟨h3, _⟩ := show_nsAll [m] (fun n hn => by rw [List.mem_singleton.mp hn]; exact hm)
  refine reprOk_of (sh_ord m ps) ?_ ?_
  · have h3 : PyData.showableAll [.int m] = true := h3
    simp only [PyData.showableAll, Bool.and_true] at h3
    have h1 : PyData.showableAll (psD ps) = true := h1
    unfold ordD
    simp only [PyData.showable, PyData.showableAll] at h3 ⊢
    rw [h1, h3]
    rfl
  · have h2 : wtAll (psD ps) = 4016 * ps.length := h2
    unfold ordD
    simp only [wt, wtAll]
    rw [h2]
    omega
theorem rep_nsL {ns : List Int} (h : ∀ n ∈ ns, n.natAbs < 2 ^ 100) (hl : ns.length ≤ 3000) : reprOk (.list (nsD ns)) = true := by
  obtain ⟨h1, h2⟩ := show_nsAll ns h
  refine reprOk_of (sh_nsL ns) (by simpa [PyData.showable] using h1) ?_
  have h2 : wtAll (nsD ns) = 2002 * ns.length := h2
  unfold wt
  rw [h2]
  omega
end Dn

/-! Den26: closures of pairs (plain Lean). -/
namespace Dn
open PySem PySem.Spec L2
open PyProof.Rows hiding St
def Srt (ps : List (Int × Int)) : Prop := ps.Nodup ∧ ps.Pairwise fun a b => lexP a b = true
theorem srt_ext {ps qs : List (Int × Int)} (h1 : Srt ps) (h2 : Srt qs) (h : ∀ p, p ∈ ps ↔ p ∈ qs) : ps = qs :=
  (setSort_eq h h1.1 h1.2).trans (setSort_self h2.1 h2.2)
theorem setSort_srt (ps : List (Int × Int)) : Srt (setSort ps) := ⟨setSort_nodup ps, setSort_sorted ps⟩
theorem grid_srt (n : Nat) (q : Int × Int → Bool) : Srt ((gridP n).filter q) := by
  have srt : ((gridP n).filter q).Pairwise fun p q => p.1 < q.1 ∨ (p.1 = q.1 ∧ p.2 < q.2) := List.Pairwise.filter _ (grid_sorted n)
  refine ⟨List.Pairwise.imp (fun {p q} h e => ?_) srt, List.Pairwise.imp (fun {p q} h => ?_) srt⟩
  · subst e
    omega
  · unfold lexP
    rw [decide_eq_true_eq]
    omega
theorem sortP_srt {ps : List (Int × Int)} (h : ps.Nodup) : Srt (sortP ps) := ⟨(List.mergeSort_perm ps lexP).nodup_iff.mpr h, List.pairwise_mergeSort lexP_trans lexP_total ps⟩
theorem sortP_mem {ps : List (Int × Int)} {p : Int × Int} : p ∈ sortP ps ↔ p ∈ ps := (List.mergeSort_perm ps lexP).mem_iff
theorem IsOrd.srt {n : Int} {ps : List (Int × Int)} (o : IsOrd n ps) : Srt ps := ⟨o.nd, o.st⟩
theorem Srt.filter {ps : List (Int × Int)} (h : Srt ps) (q : Int × Int → Bool) : Srt (ps.filter q) := ⟨h.1.sublist List.filter_sublist, h.2.sublist List.filter_sublist⟩
/-- a chain of pairs leads from a to b -/
inductive Ch (ps : List (Int × Int)) : Int → Int → Prop
  | one {a b : Int} : (a, b) ∈ ps → Ch ps a b
  | more {a c b : Int} : (a, c) ∈ ps → Ch ps c b → Ch ps a b
theorem Ch.trans {ps : List (Int × Int)} {a b c : Int} (h : Ch ps a b) (h' : Ch ps b c) : Ch ps a c := by
  induction h with
  | one e => exact .more e h'
  | more e _ ih => exact .more e (ih h')
theorem Ch.mono {ps qs : List (Int × Int)} (h : ∀ p ∈ ps, Ch qs p.1 p.2) {a b : Int} (c : Ch ps a b) : Ch qs a b := by
  induction c with
  | one e => exact h _ e
  | more e _ ih => exact (h _ e).trans ih
theorem Ch.of_trans {ps : List (Int × Int)} (tr : ∀ p ∈ ps, ∀ q ∈ ps, p.2 = q.1 → (p.1, q.2) ∈ ps) {a b : Int} (h : Ch ps a b) : (a, b) ∈ ps := by
  induction h with
  | one e => exact e
  | more e _ ih => exact tr _ e _ ih rfl
theorem Ch.inN {n : Int} {ps : List (Int × Int)} (h : inN n ps) {a b : Int} (c : Ch ps a b) : 0 ≤ a ∧ a < n ∧ 0 ≤ b ∧ b < n := by
  induction c with
  | one e => exact h _ e
  | more e _ ih =>
    have := h _ e
    simp only at this
    omega
/-- .. with none but things below k between -/
inductive ChK (ps : List (Int × Int)) (k : Int) : Int → Int → Prop
  | one {a b : Int} : (a, b) ∈ ps → ChK ps k a b
  | more {a c b : Int} : (a, c) ∈ ps → c < k → ChK ps k c b → ChK ps k a b
theorem ChK.up {ps : List (Int × Int)} {k l : Int} (h : k ≤ l) {a b : Int} (c : ChK ps k a b) : ChK ps l a b := by
  induction c with
  | one e => exact .one e
  | more e hk _ ih => exact .more e (by omega) ih
theorem ChK.ch {ps : List (Int × Int)} {k : Int} {a b : Int} (c : ChK ps k a b) : Ch ps a b := by
  induction c with
  | one e => exact .one e
  | more e hk _ ih => exact .more e ih
theorem ChK.join {ps : List (Int × Int)} {k l c : Int} (h : c < l) (hk : k ≤ l) {a b : Int} (x : ChK ps k a c) (y : ChK ps k c b) : ChK ps l a b := by
  induction x with
  | one e => exact .more e h (y.up hk)
  | more e hc _ ih => exact .more e (by omega) (ih h y)
theorem ChK.split {ps : List (Int × Int)} {k : Int} {a b : Int} (x : ChK ps (k + 1) a b) : ChK ps k a b ∨ (ChK ps k a k ∧ ChK ps k k b) := by
  induction x with
  | one e => exact .inl (.one e)
  | more e hc _ ih =>
    rename_i a c b _
    by_cases z : c = k
    · subst z
      rcases ih with h | ⟨_, h⟩
      · exact .inr ⟨.one e, h⟩
      · exact .inr ⟨.one e, h⟩
    · have lt : c < k := by omega
      rcases ih with h | ⟨h1, h2⟩
      · exact .inl (.more e lt h)
      · exact .inr ⟨.more e lt h1, h2⟩
theorem chK_zero {ps : List (Int × Int)} {n : Int} (h : inN n ps) {a b : Int} : ChK ps 0 a b ↔ (a, b) ∈ ps := by
  constructor
  · intro c
    cases c with
    | one e => exact e
    | more e hc _ =>
      have := h _ e
      simp only at this
      omega
  · exact .one
theorem chK_all {ps : List (Int × Int)} {n : Int} (h : inN n ps) {a b : Int} : ChK ps n a b ↔ Ch ps a b := by
  refine ⟨ChK.ch, fun c => ?_⟩
  induction c with
  | one e => exact .one e
  | more e c ih => exact .more e (h _ e).2.2.2 ih
noncomputable def chB (ps : List (Int × Int)) : Int × Int → Bool := fun p => @decide (Ch ps p.1 p.2) (Classical.propDecidable _)
noncomputable def chkB (ps : List (Int × Int)) (k : Int) : Int × Int → Bool := fun p => @decide (ChK ps k p.1 p.2) (Classical.propDecidable _)
theorem chB_iff {ps : List (Int × Int)} {p : Int × Int} : chB ps p = true ↔ Ch ps p.1 p.2 := by
  unfold chB
  exact @decide_eq_true_iff _ (Classical.propDecidable _)
theorem chkB_iff {ps : List (Int × Int)} {k : Int} {p : Int × Int} : chkB ps k p = true ↔ ChK ps k p.1 p.2 := by
  unfold chkB
  exact @decide_eq_true_iff _ (Classical.propDecidable _)
/-- the closure -/
noncomputable def clo (n : Nat) (ps : List (Int × Int)) : List (Int × Int) := (gridP n).filter (chB ps)
noncomputable def cloK (n : Nat) (ps : List (Int × Int)) (k : Int) : List (Int × Int) := (gridP n).filter (chkB ps k)
theorem mem_clo {n : Nat} {ps : List (Int × Int)} (h : inN n ps) {p : Int × Int} : p ∈ clo n ps ↔ Ch ps p.1 p.2 := by
  unfold clo
  rw [List.mem_filter, mem_grid, chB_iff]
  exact ⟨fun x => x.2, fun x => ⟨x.inN h, x⟩⟩
theorem mem_cloK {n : Nat} {ps : List (Int × Int)} (h : inN n ps) {k : Int} {p : Int × Int} : p ∈ cloK n ps k ↔ ChK ps k p.1 p.2 := by
  unfold cloK
  rw [List.mem_filter, mem_grid, chkB_iff]
  exact ⟨fun x => x.2, fun x => ⟨x.ch.inN h, x⟩⟩
theorem clo_srt (n : Nat) (ps : List (Int × Int)) : Srt (clo n ps) := grid_srt n _
theorem cloK_srt (n : Nat) (ps : List (Int × Int)) (k : Int) : Srt (cloK n ps k) := grid_srt n _
theorem cloK_zero {n : Nat} {ps : List (Int × Int)} (h : inN n ps) : cloK n ps 0 = setSort ps :=
  srt_ext (cloK_srt n ps 0) (setSort_srt ps) fun p => by rw [mem_cloK h, chK_zero h, setSort_mem]
theorem cloK_all {n : Nat} {ps : List (Int × Int)} (h : inN n ps) : cloK n ps n = clo n ps :=
  srt_ext (cloK_srt n ps n) (clo_srt n ps) fun p => by rw [mem_cloK h, mem_clo h, chK_all h]
/-- a turn of the program's closing -/
def moreK (F : List (Int × Int)) (k : Int) : List (Int × Int) := F.flatMap fun p => if p.2 = k then (F.filter fun q => decide (q.1 = k)).map fun q => (p.1, q.2) else []
theorem mem_moreK {F : List (Int × Int)} {k : Int} {p : Int × Int} : p ∈ moreK F k ↔ (p.1, k) ∈ F ∧ (k, p.2) ∈ F := by
  unfold moreK
  rw [List.mem_flatMap]
  constructor
  · rintro ⟨q, hq, h⟩
    split at h
    · rename_i c
      obtain ⟨r, hr, rfl⟩ := List.mem_map.mp h
      obtain ⟨h1, h2⟩ := List.mem_filter.mp hr
      rw [decide_eq_true_eq] at h2
      refine ⟨?_, ?_⟩
      · rw [← c]; exact hq
      · rw [← h2]; exact h1
    · exact absurd h List.not_mem_nil
  · rintro ⟨h1, h2⟩
    refine ⟨_, h1, ?_⟩
    rw [if_pos rfl]
    exact List.mem_map.mpr ⟨_, List.mem_filter.mpr ⟨h2, decide_eq_true rfl⟩, rfl⟩
theorem cloK_succ {n : Nat} {ps : List (Int × Int)} (h : inN n ps) (k : Int) : setSort (cloK n ps k ++ moreK (cloK n ps k) k) = cloK n ps (k + 1) := by
  refine srt_ext (setSort_srt _) (cloK_srt n ps (k + 1)) fun p => ?_
  rw [setSort_mem, List.mem_append, mem_moreK, mem_cloK h, mem_cloK h, mem_cloK h, mem_cloK h]
  constructor
  · rintro (c | ⟨c1, c2⟩)
    · exact c.up (by omega)
    · exact c1.join (by omega) (by omega) c2
  · exact fun c => c.split
/-- a turn of the law's closing -/
def compP (F : List (Int × Int)) : List (Int × Int) := F.flatMap fun p => (F.filter fun q => decide (q.1 = p.2)).map fun q => (p.1, q.2)
theorem mem_compP {F : List (Int × Int)} {p : Int × Int} : p ∈ compP F ↔ ∃ c, (p.1, c) ∈ F ∧ (c, p.2) ∈ F := by
  unfold compP
  rw [List.mem_flatMap]
  constructor
  · rintro ⟨q, hq, h⟩
    obtain ⟨r, hr, rfl⟩ := List.mem_map.mp h
    obtain ⟨h1, h2⟩ := List.mem_filter.mp hr
    rw [decide_eq_true_eq] at h2
    exact ⟨q.2, hq, by rw [← h2]; exact h1⟩
  · rintro ⟨c, h1, h2⟩
    exact ⟨_, h1, List.mem_map.mpr ⟨_, List.mem_filter.mpr ⟨h2, decide_eq_true rfl⟩, rfl⟩⟩
/-- between the pairs and their closure -/
structure Mid (ps F : List (Int × Int)) : Prop where
  srt : Srt F
  sub : ∀ p ∈ ps, p ∈ F
  ch : ∀ p ∈ F, Ch ps p.1 p.2
theorem Mid.start (ps : List (Int × Int)) : Mid ps (setSort ps) := ⟨setSort_srt ps, fun p h => setSort_mem.mpr h, fun p h => .one (setSort_mem.mp h)⟩
theorem Mid.comp_ch {ps F : List (Int × Int)} (h : Mid ps F) {p : Int × Int} (hp : p ∈ compP F) : Ch ps p.1 p.2 := by
  obtain ⟨c, h1, h2⟩ := mem_compP.mp hp
  exact (h.ch _ h1).trans (h.ch _ h2)
theorem Mid.step {ps F : List (Int × Int)} (h : Mid ps F) : Mid ps (setSort (F ++ compP F)) := by
  refine ⟨setSort_srt _, fun p hp => setSort_mem.mpr (List.mem_append.mpr (.inl (h.sub p hp))), fun p hp => ?_⟩
  rcases List.mem_append.mp (setSort_mem.mp hp) with z | z
  · exact h.ch p z
  · exact h.comp_ch z
theorem len_ext {α : Type} [DecidableEq α] {xs ys : List α} (nx : xs.Nodup) (ny : ys.Nodup) (h : ∀ x ∈ xs, x ∈ ys) (e : ys.length ≤ xs.length) : ∀ y ∈ ys, y ∈ xs := fun y hy => by
  refine Decidable.byContradiction fun c => ?_
  have := nodup_len (y :: xs) ys (List.nodup_cons.mpr ⟨c, nx⟩) fun x hx => by
    rcases List.mem_cons.mp hx with rfl | z
    · exact hy
    · exact h x z
  rw [List.length_cons] at this
  omega
theorem Mid.same {ps F : List (Int × Int)} (h : Mid ps F) (e : (setSort (F ++ compP F)).length = F.length) : setSort (F ++ compP F) = F := by
  refine srt_ext (setSort_srt _) h.srt fun p => ⟨fun hp => ?_, fun hp => setSort_mem.mpr (List.mem_append.mpr (.inl hp))⟩
  exact len_ext h.srt.1 (setSort_nodup _) (fun x hx => setSort_mem.mpr (List.mem_append.mpr (.inl hx))) (by omega) p hp
theorem Mid.fin {ps F : List (Int × Int)} {n : Nat} (hn : inN n ps) (h : Mid ps F) (e : setSort (F ++ compP F) = F) : F = clo n ps := by
  refine srt_ext h.srt (clo_srt n ps) fun p => ?_
  rw [mem_clo hn]
  refine ⟨h.ch p, fun c => ?_⟩
  have tr : ∀ {a b c : Int}, (a, b) ∈ F → (b, c) ∈ F → (a, c) ∈ F := fun {a b c} h1 h2 => by
    rw [← e]
    exact setSort_mem.mpr (List.mem_append.mpr (.inr (mem_compP.mpr ⟨b, h1, h2⟩)))
  obtain ⟨a, b⟩ := p
  simp only at c
  induction c with
  | one z => exact h.sub _ z
  | more z _ ih => exact tr (h.sub _ z) ih
/-- no thing leads to itself -/
def Acyc (ps : List (Int × Int)) : Prop := ∀ a, ¬ Ch ps a a
theorem clo_ord {n : Nat} {ps : List (Int × Int)} (h1 : 1 ≤ n) (h2 : n ≤ 8) (h : inN n ps) (ac : Acyc ps) : IsOrd n (clo n ps) := by
  refine ⟨by omega, by omega, fun p hp => ((mem_clo h).mp hp).inN h, (clo_srt n ps).1, (clo_srt n ps).2, fun p hp e => ?_, fun p hp q hq e => ?_⟩
  · have := (mem_clo h).mp hp
    rw [e] at this
    exact ac _ this
  · have a := (mem_clo h).mp hp
    have b := (mem_clo h).mp hq
    rw [e] at a
    exact (mem_clo h).mpr (a.trans b)
theorem sub_clo {n : Nat} {ps F : List (Int × Int)} (h1 : 1 ≤ n) (h2 : n ≤ 8) (h : inN n ps) (ac : Acyc ps) (hF : ∀ p ∈ F, Ch ps p.1 p.2) : (dedP F).length ≤ 56 := by
  have o := clo_ord h1 h2 h ac
  exact Nat.le_trans (nodup_len _ _ (dedP_nodup F) fun p hp => (mem_clo h).mpr (hF p ((dedP_mem F).mp hp))) o.len
theorem clo_self {n : Nat} {ps : List (Int × Int)} (o : IsOrd n ps) : clo n ps = ps :=
  srt_ext (clo_srt n ps) o.srt fun p => by
    rw [mem_clo o.bd]
    exact ⟨fun c => c.of_trans o.tr, fun c => .one c⟩
theorem acyc_ord {n : Int} {ps : List (Int × Int)} (o : IsOrd n ps) : Acyc ps := fun a c => o.irr _ (c.of_trans o.tr) rfl
/-- next pairs lead to all -/
def nextB (n : Nat) (ps : List (Int × Int)) (p : Int × Int) : Bool := (List.range n).all fun c : Nat => !(decide ((p.1, (c : Int)) ∈ ps) && decide (((c : Int), p.2) ∈ ps))
theorem nextB_no {n : Nat} {ps : List (Int × Int)} (o : IsOrd n ps) {p : Int × Int} (h : nextB n ps p = false) : ∃ c, (p.1, c) ∈ ps ∧ (c, p.2) ∈ ps := by
  unfold nextB at h
  rw [List.all_eq_false] at h
  obtain ⟨c, _, h⟩ := h
  simp only [Bool.not_eq_true', Bool.not_eq_false, Bool.and_eq_true, decide_eq_true_eq] at h
  exact ⟨c, h.1, h.2⟩
def btw (n : Nat) (ps : List (Int × Int)) (a b : Int) : Nat := (List.range n).countP fun c : Nat => decide ((a, (c : Int)) ∈ ps) && decide (((c : Int), b) ∈ ps)
theorem next_ch {n : Nat} {ps : List (Int × Int)} (o : IsOrd n ps) : ∀ (k : Nat) (a b : Int), (a, b) ∈ ps → btw n ps a b ≤ k → Ch (ps.filter (nextB n ps)) a b := by
  have T : ∀ {x y z : Int}, (x, y) ∈ ps → (y, z) ∈ ps → (x, z) ∈ ps := fun h1 h2 => o.tr _ h1 _ h2 rfl
  have I : ∀ {x : Int}, (x, x) ∉ ps := fun h => o.irr _ h rfl
  intro k
  induction k with
  | zero =>
    intro a b hab hk
    refine .one (List.mem_filter.mpr ⟨hab, ?_⟩)
    refine Decidable.byContradiction fun c => ?_
    obtain ⟨d, h1, h2⟩ := nextB_no o (p := (a, b)) (by simpa using c)
    have bd := o.bd _ h1
    simp only at h1 h2 bd
    have : 0 < btw n ps a b := List.countP_pos_iff.mpr ⟨d.toNat, List.mem_range.mpr (by omega), by
      rw [show ((d.toNat : Nat) : Int) = d by omega]
      simp [h1, h2]⟩
    omega
  | succ k ih =>
    intro a b hab hk
    by_cases c : nextB n ps (a, b) = true
    · exact .one (List.mem_filter.mpr ⟨hab, c⟩)
    · obtain ⟨d, h1, h2⟩ := nextB_no o (p := (a, b)) (by simpa using c)
      have bd := o.bd _ h1
      simp only at h1 h2 bd
      have ed : ((d.toNat : Nat) : Int) = d := by omega
      have l1 : btw n ps a d < btw n ps a b := by
        refine countP_lt (fun q hq z => ?_) ⟨d.toNat, List.mem_range.mpr (by omega), by rw [ed]; simp [h1, h2], by rw [ed]; simp [I]⟩
        simp only [Bool.and_eq_true, decide_eq_true_eq] at z ⊢
        exact ⟨z.1, T z.2 h2⟩
      have l2 : btw n ps d b < btw n ps a b := by
        refine countP_lt (fun q hq z => ?_) ⟨d.toNat, List.mem_range.mpr (by omega), by rw [ed]; simp [h1, h2], by rw [ed]; simp [I]⟩
        simp only [Bool.and_eq_true, decide_eq_true_eq] at z ⊢
        exact ⟨T h1 z.1, z.2⟩
      exact (ih a d h1 (by omega)).trans (ih d b h2 (by omega))
theorem next_clo {n : Nat} {ps : List (Int × Int)} (o : IsOrd n ps) : clo n (ps.filter (nextB n ps)) = ps := by
  have h : inN n (ps.filter (nextB n ps)) := fun p hp => o.bd p (List.mem_filter.mp hp).1
  refine srt_ext (clo_srt _ _) o.srt fun p => ?_
  rw [mem_clo h]
  refine ⟨fun c => Ch.of_trans o.tr (c.mono fun q hq => .one (List.mem_filter.mp hq).1), fun c => next_ch o _ p.1 p.2 c (Nat.le_refl _)⟩
/-- turned about -/
def swapP (p : Int × Int) : Int × Int := (p.2, p.1)
theorem swap_nd {ps : List (Int × Int)} (h : ps.Nodup) : (ps.map swapP).Nodup := List.Pairwise.map _ (fun a b n e => n (Prod.ext (congrArg Prod.snd e) (congrArg Prod.fst e))) h
theorem mem_swap {ps : List (Int × Int)} {p : Int × Int} : p ∈ sortP (ps.map swapP) ↔ (p.2, p.1) ∈ ps := by
  rw [sortP_mem, List.mem_map]
  constructor
  · rintro ⟨q, hq, rfl⟩
    exact hq
  · exact fun h => ⟨_, h, rfl⟩
theorem swap_ord {n : Int} {ps : List (Int × Int)} (o : IsOrd n ps) : IsOrd n (sortP (ps.map swapP)) := by
  have s := sortP_srt (swap_nd o.nd)
  refine ⟨o.lo, o.hi, fun p hp => ?_, s.1, s.2, fun p hp e => ?_, fun p hp q hq e => ?_⟩
  · have := o.bd _ (mem_swap.mp hp)
    simp only at this
    omega
  · exact o.irr _ (mem_swap.mp hp) e.symm
  · exact mem_swap.mpr (o.tr _ (mem_swap.mp hq) _ (mem_swap.mp hp) e.symm)
theorem swap_swap {n : Int} {ps : List (Int × Int)} (o : IsOrd n ps) : sortP ((sortP (ps.map swapP)).map swapP) = ps :=
  srt_ext (swap_ord (swap_ord o)).srt o.srt fun p => by rw [mem_swap, mem_swap]
end Dn

/-! Den27: lengths, list + list, small lists of numbers. -/
namespace Dn
open PySem PySem.Spec L2
open PyProof.Rows hiding St
theorem flat_len2 {α β : Type} (g : α → List β) (c : Nat) (h : ∀ a, (g a).length ≤ c) : ∀ l : List α, (l.flatMap g).length ≤ l.length * c
  | [] => by simp
  | a :: l => by
    have h1 := h a
    have h2 := flat_len2 g c h l
    rw [List.flatMap_cons, List.length_append, List.length_cons, Nat.succ_mul]
    omega
theorem x_atN (xs : List Int) (k : Nat) (h : k < xs.length) : atI (nsD xs) (k : Int) = some (.int xs[k]) := by
  refine x_ixn ?_
  rw [List.getElem?_map, List.getElem?_eq_getElem h]
  rfl
theorem x_ixNs (xs : List Int) (k : Nat) (h : k < xs.length) : pIx [.list (nsD xs), .int (k : Int)] = some (.val (.int xs[k])) := by
  show (atI (nsD xs) (k : Int)).map Slot.val = _
  rw [x_atN xs k h]
  rfl
theorem x_ixNsT (xs : List Int) (k : Nat) (h : k < xs.length) : pIx [.tuple (nsD xs), .int (k : Int)] = some (.val (.int xs[k])) := by
  show (atI (nsD xs) (k : Int)).map Slot.val = _
  rw [x_atN xs k h]
  rfl
/-- one of some numbers, by a digit -/
theorem pick_n (xs : List Int) (d : Int) (h0 : 0 ≤ d) (h1 : d < xs.length) : ∃ v, v ∈ xs ∧ pIx [.list (nsD xs), .int d] = some (.val (.int v)) := by
  obtain ⟨k, rfl⟩ : ∃ k : Nat, d = k := ⟨d.toNat, by omega⟩
  have hk : k < xs.length := by omega
  exact ⟨xs[k], List.getElem_mem hk, x_ixNs xs k hk⟩
theorem emod_in (b m : Int) (h : 0 < m) : 0 ≤ b % m ∧ b % m < m := ⟨Int.emod_nonneg b (by omega), Int.emod_lt_of_pos b h⟩
/-- acyclic by places -/
theorem acyc_of {ps : List (Int × Int)} (f : Int → Nat) (h : ∀ p ∈ ps, f p.1 < f p.2) : Acyc ps := by
  have lt : ∀ {a b : Int}, Ch ps a b → f a < f b := fun {a b} c => by
    induction c with
    | one e => exact h _ e
    | more e _ ih =>
      have := h _ e
      simp only at this
      omega
  exact fun a c => Nat.lt_irrefl _ (lt c)
end Dn

/-! Den28: displays of constants, nested, read at once. -/
namespace Dn
open PySem PySem.Spec L2
open PyProof.Rows hiding St
def zipB {α β : Type} (f : α → β → Bool) : List α → List β → Bool
  | [], [] => true
  | a :: l, b :: m => f a b && zipB f l m
  | _, _ => false
def litB : Const → PyData → Bool
  | .none, .none => true
  | .bool a, .bool b => a == b
  | .int a, .int b => decide (a = b)
  | .str a, .str b => a == b
  | _, _ => false
def negB (a : Expr) (d : PyData) : Bool := match a, d with
  | .Constant (.int i) _ _, .int j => decide (j = -i)
  | _, _ => false
def powB (a b : Expr) (d : PyData) : Bool := match a, b, d with
  | .Constant (.int i) _ _, .Constant (.int j) _ _, .int k => (decide (0 ≤ j) && decide (j ≤ 1000000) && decide (i.natAbs < 2 ^ 64)) && decide (k = i ^ j.toNat)
  | _, _, _ => false
theorem negB_of {a : Expr} {d : PyData} (h : negB a d = true) : ∃ i k pos, a = .Constant (.int i) k pos ∧ d = .int (-i) := by
  unfold negB at h
  split at h
  · exact ⟨_, _, _, rfl, by rw [of_decide_eq_true h]⟩
  · cases h
theorem powB_of {a b : Expr} {d : PyData} (h : powB a b d = true) : ∃ i j k l p q, a = .Constant (.int i) k p ∧ b = .Constant (.int j) l q ∧ (decide (0 ≤ j) && decide (j ≤ 1000000) && decide (i.natAbs < 2 ^ 64)) = true ∧ d = .int (i ^ j.toNat) := by
  unfold powB at h
  split at h
  · rw [Bool.and_eq_true] at h
    exact ⟨_, _, _, _, _, _, rfl, rfl, h.1, by rw [of_decide_eq_true h.2]⟩
  · cases h
def dicB (ks : List (Option Expr)) (vs : List Expr) (d : PyData) : Bool := match ks, vs, d with
  | [some (.Constant (.str x) _ _)], [.Constant (.int i) _ _], .dict [(.str y, .int j)] => x == y && decide (i = j)
  | [], [], .dict [] => true
  | _, _, _ => false
theorem dicB_of {ks : List (Option Expr)} {vs : List Expr} {d : PyData} (h : dicB ks vs d = true) : (ks = [] ∧ vs = [] ∧ d = .dict []) ∨ ∃ x i k l p q, ks = [some (.Constant (.str x) k p)] ∧ vs = [.Constant (.int i) l q] ∧ d = .dict [(.str x, .int i)] := by
  unfold dicB at h
  split at h
  · rw [Bool.and_eq_true] at h
    exact .inr ⟨_, _, _, _, _, _, rfl, rfl, by rw [eq_of_beq h.1, of_decide_eq_true h.2]⟩
  · exact .inl ⟨rfl, rfl, rfl⟩
  · cases h
def constB : Nat → Expr → PyData → Bool
  | 0, _, _ => false
  | _ + 1, .Constant c _ _, d => litB c d
  | n + 1, .List es _, .list ds => zipB (constB n) es ds && decide (ds.length ≤ 1000)
  | n + 1, .Tuple es _ _, .tuple ds => zipB (constB n) es ds && decide (ds.length ≤ 1000)
  | _ + 1, .UnaryOp .USub a _, d => negB a d
  | _ + 1, .BinOp a .Pow b _, d => powB a b d
  | _ + 1, .Dict ks vs _, d => dicB ks vs d
  | _, _, _ => false
def dConst (d : PyData) : Den := fun _ ρ => .ok (match d with
  | .list ds => .own ds
  | d => .val d, ρ)
def fsConst (ds : List PyData) : DenOs := fun _ ρ => .ok (ds, ρ)
section
variable {Γ : Ctx}
theorem oOf_const (d : PyData) (Φ : Calls) (ρ : Env) : oOf (dConst d) Φ ρ = .ok (d, ρ) := by cases d <;> rfl
theorem constB_plain {n : Nat} {e : Expr} {d : PyData} (h : constB n e d = true) : plainE e = true := by
  cases n with
  | zero => cases h
  | succ n => cases e <;> first | rfl | (cases d <;> cases h)
theorem litB_of {c : Const} {d : PyData} (h : litB c d = true) : litOf c = some d := by
  cases c <;> cases d <;> first | rfl | (cases h; done) | (simp [litB] at h; subst h; rfl)
theorem fs_const (f : Expr → PyData → Bool) (hf : ∀ e d, f e d = true → SndE Γ e (dConst d) true) (hp : ∀ e d, f e d = true → plainE e = true) : ∀ (es : List Expr) (ds : List PyData), zipB f es ds = true → SndFs Γ es (fsConst ds) true ∧ es.all plainE = true
  | [], [], h => ⟨snd_fsNil, rfl⟩
  | [], _ :: _, h => by cases h
  | _ :: _, [], h => by cases h
  | e :: es, d :: ds, h => by
    unfold zipB at h
    rw [Bool.and_eq_true] at h
    obtain ⟨g1, g2⟩ := fs_const f hf hp es ds h.2
    have := snd_fsCons (hf e d h.1) g1
    have q : fsCons (dConst d) (fsConst ds) = fsConst (d :: ds) := by
      funext Φ ρ
      show (oOf (dConst d) Φ ρ).bind _ = _
      rw [oOf_const]
      rfl
    rw [q] at this
    exact ⟨this, by rw [List.all_cons, hp e d h.1, g2]; rfl⟩
theorem snd_cdict {x : Str} {i : Int} {k l : Nat} {p q pos : Pos} : SndE Γ (.Dict [some (.Constant (.str x) k p)] [.Constant (.int i) l q] pos) (dConst (.dict [(.str x, .int i)])) true := by
  intro X Φ B F H ρ σ Q W C hK T R hq
  refine PE.w (pe_disp (pps_cons pe_str pe_int pps_nil) rfl rfl (fun z => nomatch z) (Nat.le_of_lt_succ (by show 1 < 16; decide))) ?_
  intro t ht
  have e : mergeK [] [((.inr x : Key), V.int i)] = [((.inr x : Key), V.int i)] := rfl
  refine ⟨upd_same, [(.inr x, .int i)], rfl, by show 1 ≤ 15; decide, ?_⟩
  rw [e, upd_upd]
  exact pq_of R (.refl F) (fun _ => .refl H) hq _ _ _ (Grow.new R.kept.ex ht) (.dK upd_same (.cons (k := .inr x) (.int i) .nil))
theorem snd_cdict0 {pos : Pos} : SndE Γ (.Dict [] [] pos) (dConst (.dict [])) true := by
  intro X Φ B F H ρ σ Q W C hK T R hq
  refine PE.w pe_dnewK fun t ht => ?_
  exact pq_of R (.refl F) (fun _ => .refl H) hq _ _ _ (Grow.new R.kept.ex ht) (.dK upd_same .nil)
theorem snd_const : ∀ (n : Nat) (e : Expr) (d : PyData), constB n e d = true → SndE Γ e (dConst d) true
  | 0, _, _, h => by cases h
  | n + 1, e, d, h => by
    have ih := snd_const n
    cases e with
    | Constant c k pos =>
      have h : litB c d = true := h
      have h := litB_of h
      have := snd_lit (Γ := Γ) (pos := pos) (k := k) (c := c) (d := d) h
      have q : dLit d = dConst d := by
        funext Φ ρ
        cases c <;> cases h <;> rfl
      rw [q] at this
      exact this
    | List es pos =>
      cases d with
      | list ds =>
        have h : (zipB (constB n) es ds && decide (ds.length ≤ 1000)) = true := h
        rw [Bool.and_eq_true] at h
        obtain ⟨g1, g2⟩ := fs_const _ (fun e d => ih e d) (fun e d => constB_plain) es ds h.1
        have := snd_lst (pos := pos) g1 g2
        have q : dLst (fsConst ds) = dConst (.list ds) := by
          funext Φ ρ
          show guard' (decide (ds.length ≤ 1000)) _ = _
          rw [h.2]
          rfl
        rw [q] at this
        exact this
      | _ => cases h
    | Tuple es k pos =>
      cases d with
      | tuple ds =>
        have h : (zipB (constB n) es ds && decide (ds.length ≤ 1000)) = true := h
        rw [Bool.and_eq_true] at h
        obtain ⟨g1, g2⟩ := fs_const _ (fun e d => ih e d) (fun e d => constB_plain) es ds h.1
        have := snd_tup (pos := pos) (k := k) g1 g2
        have q : dTup (fsConst ds) = dConst (.tuple ds) := by
          funext Φ ρ
          show guard' (decide (ds.length ≤ 1000)) _ = _
          rw [h.2]
          rfl
        rw [q] at this
        exact this
      | _ => cases h
    | UnaryOp op a pos =>
      cases op with
      | USub =>
        obtain ⟨i, k, p, rfl, rfl⟩ := negB_of (show negB a d = true by cases d <;> exact h)
        exact e_neg (pos := pos) (snd_osCons (snd_oOf (snd_lit (c := .int i) (d := .int i) rfl)) snd_osNil rfl)
      | _ => cases d <;> cases h
    | BinOp a op b pos =>
      cases op with
      | Pow =>
        obtain ⟨i, j, k, l, p, q, rfl, rfl, hc, rfl⟩ := powB_of (show powB a b d = true by cases d <;> exact h)
        have := e_pow (Γ := Γ) (pos := pos) (snd_osCons (snd_oOf (snd_lit (c := .int i) (d := .int i) (k := k) (pos := p) rfl)) (snd_osCons (snd_oOf (snd_lit (c := .int j) (d := .int j) (k := l) (pos := q) rfl)) snd_osNil rfl) rfl)
        have q : dP pPow (osCons (oOf (dLit (.int i))) (osCons (oOf (dLit (.int j))) osNil)) = dConst (.int (i ^ j.toNat)) := by
          funext Φ ρ
          show (opt (if (decide (0 ≤ j) && decide (j ≤ 1000000) && decide (i.natAbs < 2 ^ 64)) = true then some (Slot.val (PyData.int (i ^ j.toNat))) else none)).bind _ = _
          rw [if_pos hc]
          rfl
        rw [q] at this
        exact this
      | _ => cases d <;> cases h
    | Dict ks vs pos =>
      rcases dicB_of (show dicB ks vs d = true by cases d <;> exact h) with ⟨rfl, rfl, rfl⟩ | ⟨x, i, k, l, p, q, rfl, rfl, rfl⟩
      · exact snd_cdict0
      · exact snd_cdict
    | _ => cases d <;> cases h
end
section
variable {Φ : Calls} {ρ : Env} {ds : List PyData} {i : Int} {x : Str}
@[simp] theorem x_const1 : dConst (.list ds) Φ ρ = .ok (.own ds, ρ) := id rfl
@[simp] theorem x_const2 : dConst (.tuple ds) Φ ρ = .ok (.val (.tuple ds), ρ) := id rfl
@[simp] theorem x_const4 {es : List (PyData × PyData)} : dConst (.dict es) Φ ρ = .ok (.val (.dict es), ρ) := id rfl
@[simp] theorem x_const3 : dConst (.int i) Φ ρ = .ok (.val (.int i), ρ) := id rfl
end
theorem big100 : 100 < 2 ^ 100 := by decide
theorem rep_inN {m : Int} (hm : m ≤ 100) {qs : List (Int × Int)} (h : inN m qs) (hl : qs.length ≤ 3000) : reprOk (.list (psD qs)) = true :=
  rep_psL (m := 0) (fun p hp => by
    have := h p hp
    have := big100
    omega) hl
theorem rep_isord {m : Nat} {ps : List (Int × Int)} (o : IsOrd m ps) : reprOk (ordD m ps) = true := by
  have hi := o.hi
  have b := big100
  refine rep_ord (by omega) (fun p hp => ?_) (by have := o.len; omega)
  have := o.bd p hp
  omega
theorem x_neSame (S : Str) : pNe [.str S, .str S] = some (.val (.bool false)) := by rw [x_neStr]; simp
end Dn

/-! Den29: a, b = x, y where what is told may be own; a call whose list nobody else has. -/
namespace Dn
open PySem PySem.Spec L2
open PyProof.Rows hiding St
def okS : Slot → Bool
  | .val _ => true
  | .own _ => true
  | .odc _ _ => true
  | _ => false
def dParA (i j : Nat) (r : DenA) : DenS := fun Φ ρ => (r Φ ρ).bind fun y => match y.1 with
  | [(none, s), (none, t)] => guard' (okS s && okS t) (.ok (.nx, (y.2.set i s).set j t))
  | _ => .stuck
theorem args_res {B : Bd} {F H : Hp} {ρ : Env} {σ : St} {as : List (Option Nat × Slot)} {vs : List V} (A : ArgsOk B F H ρ σ as vs) {j : Nat} {s : Slot} {v : V} (hj : as[j]? = some (none, s)) (hv : vs[j]? = some v) (ok : okS s = true) : Res B F H ρ σ s v := by
  cases ho : s.isOwn with
  | true =>
    obtain ⟨a, o, g1, g2, g3, g4, g5, g6⟩ := A.own j none s hj ho
    rw [hv] at g1
    cases g1
    exact (Res.of_own ho).mpr ⟨a, o, rfl, g2, g3, g4, g5.elim (fun ⟨_, z, _⟩ => by cases z) id, fun i t q1 q2 q3 => g6 ⟨i, t, q1, q2, q3⟩⟩
  | false =>
    cases s with
    | val d =>
      obtain ⟨w, g1, g2⟩ := A.val j none d hj
      rw [hv] at g1
      cases g1
      exact g2
    | own _ => cases ho
    | odc _ _ => cases ho
    | un => cases ok
    | scr _ => cases ok
theorem snd_parA {Γ : Ctx} {i j : Nat} {x y : Str} {a b : Expr} {d : DenA} {pos px py pt pt2 : Pos} {kt k2 : Nat} (hN : Γ.N[i]? = some x) (hN' : Γ.N[j]? = some y) (hij : i ≠ j) (hx : Γ.sc.names.lookup x = some .local) (hy : Γ.sc.names.lookup y = some .local)
    (hi : Γ.np ≤ i) (hj : Γ.np ≤ j) (h : SndA Γ [a, b] d) (he : [a, b].all plainE = true) (hxy : (y == x) = false) (hl : (px.line == py.line) = true) (hf : [a, b].all (foldedForSure 8) = false) (hc : [a, b].all (constantsAlone 8) = false) :
    SndS Γ (.Assign [.Tuple [.Name x px, .Name y py] kt pt] (.Tuple [a, b] k2 pt2) pos) (dParA i j d) := by
  intro X Φ B F H ρ σ D W C BO bo hK T R hq
  have hx' : X.env.scope.names.lookup x = some .local := by rw [C.sc]; exact hx
  have hy' : X.env.scope.names.lookup y = some .local := by rw [C.sc]; exact hy
  have e1 : ∀ {e : Expr}, plainE e = true → (match e with | .Starred .. => true | _ => false) = false := fun {e} h => by cases e <;> first | rfl | cases h
  rw [List.all_cons, List.all_cons, List.all_nil, Bool.and_true, Bool.and_eq_true] at he
  have hw : swappedStores [.Tuple [.Name x px, .Name y py] kt pt] (.Tuple [a, b] k2 pt2) X.env = pure (some [x, y]) := by
    have hb : X.env.blockKind = .function := by unfold Env.blockKind; rw [BO.fk]; rfl
    have kx : X.env.kindOf x = some .local := hx'
    have ky : X.env.kindOf y = some .local := hy'
    have hl' : px.line = py.line := by simpa using hl
    have hxy' : ¬ y = x := by simpa using hxy
    unfold swappedStores
    simp only [hb, kx, ky, e1 he.1, e1 he.2, hf, hc, List.any_cons, List.any_nil, List.filterMap_cons, List.filterMap_nil, List.head?_cons, Option.map_some, Option.getD_some, List.length_cons, List.length_nil, Expr.pos, hl', hxy', List.eraseDups_cons, List.filter_cons, List.filter_nil, List.eraseDups_nil, hxy]
    simp [hl', hxy', hxy, List.eraseDups_cons]
    intro h
    rcases h with h | h
    · exact absurd (h.symm.trans (e1 he.1)) (by decide)
    · exact absurd (h.symm.trans (e1 he.2)) (by decide)
  refine PS.w (ps_par C.calm (by rw [C.nm]; exact C.nd) (by rw [C.nm]; exact hN) (by rw [C.nm]; exact hN') hij hx' hy' (pa_ws (by rw [List.all_cons, List.all_cons, List.all_nil, Bool.and_true, Bool.and_eq_true]; exact he)) hw) ?_
  refine h X Φ B F H ρ σ _ W C hK T R (wp_mono (wp_bind (c := d Φ ρ) hq) (fun r q vs F1 H1 R1 e1 A => ?_) ExS.ex)
  obtain ⟨as, ρ1⟩ := r
  have R1 : Rel B F1 H1 ρ1 σ := R1
  have A : ArgsOk B F1 H1 ρ1 σ as vs := A
  match as, A, q with
  | [(none, s), (none, t)], A, q =>
    obtain ⟨ok, q⟩ := wp_guard q
    rw [Bool.and_eq_true] at ok
    have len := A.len
    match vs, len, A, q with
    | [v, w], _, A, q =>
      have r1 := args_res A (j := 0) rfl rfl ok.1
      have r2 := args_res A (j := 1) rfl rfl ok.2
      have P := R1.put r1 i (Nat.le_trans bo.vs hi)
      have r3 : Res B F1 H1 (ρ1.set i s) (σ.set i (some v)) t w := by
        cases ho : t.isOwn with
        | true =>
          obtain ⟨a2, o2, g1, g2, g3, g4, g5, g6⟩ := (Res.of_own ho).mp r2
          refine (Res.of_own ho).mpr ⟨a2, o2, g1, g2, g3, g4, g5, fun k u q1 q2 q3 => ?_⟩
          rcases set_get q1 with ⟨z1, z2, z3⟩ | ⟨z1, z2⟩
          · subst z1
            subst z2
            have lt : k < σ.length := by rw [← R1.sl.len]; exact z3
            rw [List.getElem?_set_self lt] at q3
            have q3 : v = .ref a2 := Option.some.inj (Option.some.inj q3)
            subst q3
            subst g1
            exact A.dis 0 1 none none u t a2 (by decide) rfl q2 rfl ho rfl rfl
          · rw [List.getElem?_set_ne (Ne.symm z1)] at q3
            exact g6 k u z2 q2 q3
        | false =>
          cases t with
          | val d => exact r2
          | own _ => cases ho
          | odc _ _ => cases ho
          | un => exact r2.elim
          | scr _ => exact r2.elim
      exact ⟨_, _, rfl, q _ F1 H1 (P.put r3 j (Nat.le_trans bo.vs hj)) e1⟩
  | [], _, q => exact q.elim
  | [(none, _)], _, q => exact q.elim
  | [(some _, _)], _, q => exact q.elim
  | (some _, _) :: _ :: _, _, q => exact q.elim
  | (none, _) :: (some _, _) :: _, _, q => exact q.elim
  | (none, _) :: (none, _) :: _ :: _, _, q => exact q.elim
/-! ### a list that nobody else has -/
mutual
def noL : PyData → Bool
  | .list _ => false
  | .dict _ => false
  | .tuple ds => noLAll ds
  | _ => true
def noLAll : List PyData → Bool
  | [] => true
  | d :: ds => noL d && noLAll ds
end
def noLS : Slot → Bool
  | .val d => noL d
  | _ => false
/-- the tuples alone -/
def tupH (F : Hp) : Hp := fun a => match F a with
  | some (.frz o (.tup vs)) => some (.frz o (.tup vs))
  | _ => none
theorem tupH_ex (F : Hp) : Ex (tupH F) F := fun a o h => by
  unfold tupH at h
  split at h
  · rename_i e; cases h; exact e
  · cases h
theorem tupH_lst {F : Hp} {a : Addr} {vs : List V} : tupH F a ≠ some (.lst vs) := fun h => by
  unfold tupH at h
  split at h <;> cases h
mutual
theorem rp_tup {K : PySem.W.Frag} {F : Hp} : ∀ (d : PyData) (v : V), Rp K F d v → noL d = true → Rp K (tupH F) d v
  | .none, _, h, _ => by cases h; exact .non
  | .bool b, _, h, _ => by cases h; exact .bl b
  | .int i, _, h, _ => by cases h; exact .int i
  | .str x, _, h, _ => by cases h; exact .str x
  | .list ds, _, _, n => by simp [noL] at n
  | .dict es, _, _, n => by simp [noL] at n
  | .tuple ds, _, h, n => by
    cases h with
    | tup h1 h2 h3 => exact .tup (by unfold tupH; rw [h1]) h2 (rp_tupAll ds _ h3 (by simpa [noL] using n))
theorem rp_tupAll {K : PySem.W.Frag} {F : Hp} : ∀ (ds : List PyData) (vs : List V), RpAll K F ds vs → noLAll ds = true → RpAll K (tupH F) ds vs
  | [], _, h, _ => by cases h; exact .nil
  | d :: ds, _, h, n => by
    simp only [noLAll, Bool.and_eq_true] at n
    cases h with
    | cons h1 h2 => exact .cons (rp_tup d _ h1 n.1) (rp_tupAll ds _ h2 n.2)
end
/-- without one object -/
def cutH (F : Hp) (a : Addr) : Hp := fun b => if b = a then none else F b
theorem cutH_ex (F : Hp) (a : Addr) : Ex (cutH F a) F := fun b o h => by
  unfold cutH at h
  split at h
  · cases h
  · exact h
section
variable {K : PySem.W.Frag} {F : Hp}
theorem keyD_inj {k l : Key} (h : keyD k = keyD l) : k = l := by
  cases k <;> cases l <;> simp [keyD] at h <;> rw [h]
mutual
/-- what stands for data stands for no other data -/
theorem Rp.one : ∀ (d e : PyData) (v : V), Rp K F d v → Rp K F e v → sizeOf d = sizeOf e
  | .none, e, _, h, g => by cases h; cases g; rfl
  | .bool b, e, _, h, g => by cases h; cases g; rfl
  | .int i, e, _, h, g => by cases h; cases g; rfl
  | .str x, e, _, h, g => by cases h; cases g; rfl
  | .list ds, e, _, h, g => by
    cases h with
    | lst h1 h2 =>
      cases g with
      | lst g1 g2 => rw [h1] at g1; cases g1; simp [RpAll.one ds _ _ h2 g2]
      | tup g1 _ _ => rw [h1] at g1; cases g1
      | dK g1 _ => rw [h1] at g1; cases g1
      | dT g1 _ => rw [h1] at g1; cases g1
  | .tuple ds, e, _, h, g => by
    cases h with
    | tup h1 h0 h2 =>
      cases g with
      | lst g1 g2 => rw [h1] at g1; cases g1
      | tup g1 _ g2 => rw [h1] at g1; cases g1; simp [RpAll.one ds _ _ h2 g2]
      | dK g1 _ => rw [h1] at g1; cases g1
      | dT g1 _ => rw [h1] at g1; cases g1
  | .dict es, e, _, h, g => by
    cases h with
    | dK h1 h2 =>
      cases g with
      | lst g1 g2 => rw [h1] at g1; cases g1
      | tup g1 _ g2 => rw [h1] at g1; cases g1
      | dK g1 g2 => rw [h1] at g1; cases g1; simp [RpK.one es _ _ h2 g2]
      | dT g1 _ => rw [h1] at g1; cases g1
    | dT h1 h2 =>
      cases g with
      | lst g1 g2 => rw [h1] at g1; cases g1
      | tup g1 _ g2 => rw [h1] at g1; cases g1
      | dK g1 g2 => rw [h1] at g1; cases g1
      | dT g1 g2 => rw [h1] at g1; cases g1; simp [RpK.one es _ _ h2 g2]
theorem RpAll.one : ∀ (ds es : List PyData) (vs : List V), RpAll K F ds vs → RpAll K F es vs → sizeOf ds = sizeOf es
  | [], _, _, h, g => by cases h; cases g; rfl
  | d :: ds, _, _, h, g => by
    cases h with
    | cons h1 h2 =>
      cases g with
      | cons g1 g2 => simp [Rp.one d _ _ h1 g1, RpAll.one ds _ _ h2 g2]
theorem RpK.one : ∀ (ds es : List (PyData × PyData)) (vs : List (Key × V)), RpK K F ds vs → RpK K F es vs → sizeOf ds = sizeOf es
  | [], _, _, h, g => by cases h; cases g; rfl
  | (kd, d) :: ds, _, _, h, g => by
    cases h with
    | cons h1 h2 =>
      cases g with
      | cons g1 g2 => simp [Rp.one d _ _ h1 g1, RpK.one ds _ _ h2 g2]
end
end
section
variable {K : PySem.W.Frag} {F : Hp} {a : Addr} {D : PyData} (hD : Rp K F D (.ref a))
include hD
mutual
theorem rp_cut : ∀ (d : PyData) (v : V), Rp K F d v → sizeOf d < sizeOf D → Rp K (cutH F a) d v
  | .none, _, h, _ => by cases h; exact .non
  | .bool b, _, h, _ => by cases h; exact .bl b
  | .int i, _, h, _ => by cases h; exact .int i
  | .str x, _, h, _ => by cases h; exact .str x
  | .list ds, v, h, s => by
    have h' := h
    cases h with
    | lst h1 h2 =>
      rename_i b _
      have ne : b ≠ a := fun e => by subst e; have := Rp.one _ _ _ h' hD; omega
      exact .lst (by unfold cutH; rw [if_neg ne]; exact h1) (rp_cutAll ds _ h2 (by simp at s; omega))
  | .tuple ds, v, h, s => by
    have h' := h
    cases h with
    | tup h1 h0 h2 =>
      rename_i b _ _
      have ne : b ≠ a := fun e => by subst e; have := Rp.one _ _ _ h' hD; omega
      exact .tup (by unfold cutH; rw [if_neg ne]; exact h1) h0 (rp_cutAll ds _ h2 (by simp at s; omega))
  | .dict es, v, h, s => by
    have h' := h
    cases h with
    | dK h1 h2 =>
      rename_i b _
      have ne : b ≠ a := fun e => by subst e; have := Rp.one _ _ _ h' hD; omega
      exact .dK (by unfold cutH; rw [if_neg ne]; exact h1) (rp_cutK es _ h2 (by simp at s; omega))
    | dT h1 h2 =>
      rename_i b _ _
      have ne : b ≠ a := fun e => by subst e; have := Rp.one _ _ _ h' hD; omega
      exact .dT (by unfold cutH; rw [if_neg ne]; exact h1) (rp_cutK es _ h2 (by simp at s; omega))
theorem rp_cutAll : ∀ (ds : List PyData) (vs : List V), RpAll K F ds vs → sizeOf ds < sizeOf D → RpAll K (cutH F a) ds vs
  | [], _, h, _ => by cases h; exact .nil
  | d :: ds, _, h, s => by
    cases h with
    | cons h1 h2 => exact .cons (rp_cut d _ h1 (by simp at s; omega)) (rp_cutAll ds _ h2 (by simp at s; omega))
theorem rp_cutK : ∀ (ds : List (PyData × PyData)) (vs : List (Key × V)), RpK K F ds vs → sizeOf ds < sizeOf D → RpK K (cutH F a) ds vs
  | [], _, h, _ => by cases h; exact .nil
  | (kd, d) :: ds, _, h, s => by
    cases h with
    | cons h1 h2 => exact .cons (rp_cut d _ h1 (by simp at s; omega)) (rp_cutK ds _ h2 (by simp at s; omega))
end
end
/-- two frozen parts together -/
def bothH (F G : Hp) : Hp := fun a => match F a with
  | some o => some o
  | none => G a
theorem bothH_l (F G : Hp) : Ex F (bothH F G) := fun a o h => by unfold bothH; rw [h]
/-- behind a call that was lent nothing and given tuples -/
theorem both_ok {B : Bd} {F1 H1 F' H' G : Hp} {ρ : Env} {σ : St} {vs us : List V} (R : Rel B F1 H1 ρ σ) (k : Kept ⟨B.K, tupH F1, H1, fun _ _ => False, us⟩ F' H') (g : Ex G F') :
    Rel B (bothH F1 G) H' ρ σ ∧ Ex G (bothH F1 G) := by
  have nl : ∀ a, ¬ (⟨B.K, tupH F1, H1, fun _ _ => False, us⟩ : Bd).La a := fun a ⟨_, z⟩ => z
  have keep : ∀ {a : Addr} {o : HO}, H1 a = some o → H' a = some o := fun h => k.keep _ _ h (nl _)
  have none' : ∀ {a : Addr}, H1 a ≠ none → F1 a = none → G a = none := fun {a} h1 h2 => by
    have z := k.nof a h1 (show tupH F1 a = none by unfold tupH; rw [h2]) (nl a)
    cases q : G a with
    | none => rfl
    | some o => rw [g a o q] at z; cases z
  have exG : Ex G (bothH F1 G) := fun a o h => by
    unfold bothH
    cases q : F1 a with
    | none => exact h
    | some u =>
      have h1 := keep (R.kept.ex a u q)
      have h2 := k.ex a o (g a o h)
      rw [h1] at h2
      cases h2
      rfl
  have exl := bothH_l F1 G
  refine ⟨⟨⟨R.kept.ff.trans exl, fun a o h => ?_, fun a o h n => keep (R.kept.keep a o h n), fun a h1 h2 h3 => ?_, fun a h => ?_⟩, ⟨R.sl.len, fun i d q => ?_, fun i ns q => ?_, fun i s q qs => ?_, R.sl.par, R.sl.dis⟩⟩, exG⟩
  · unfold bothH at h
    split at h
    · rename_i u q
      cases h
      exact keep (R.kept.ex a _ q)
    · exact k.ex a o (g a o h)
  · have z := R.kept.nof a h1 h2 h3
    unfold bothH
    rw [z]
    exact none' (R.kept.live a h1) z
  · have z := R.kept.live a h
    cases q : H1 a with
    | none => exact absurd q z
    | some o => rw [keep q]; exact fun z => nomatch z
  · obtain ⟨v, h1, h2⟩ := R.sl.val i d q
    exact ⟨v, h1, h2.mono exl⟩
  · obtain ⟨a, h1, h2⟩ := R.sl.scr i ns q
    exact ⟨a, h1, exl.sqL h2⟩
  · obtain ⟨a, o, h1, h2, h3, h4, h5⟩ := R.sl.own i s q qs
    refine ⟨a, o, h1, ?_, keep h3, h4.mono exl, h5⟩
    unfold bothH
    rw [h2]
    exact none' (by rw [h3]; exact fun z => nomatch z) h2
def dCallT (x : Str) (n : Nat) (as : DenA) : Den := fun Φ ρ => (as Φ ρ).bind fun y => guard' (y.1.length == n && y.1.all fun p => noLS p.2) ((Φ x (y.1.map (·.2))).bind fun r => match r.1 with
  | .val (.list ds) => .ok (.own ds, y.2)
  | .own ds => .ok (.own ds, y.2)
  | _ => .stuck)
theorem snd_callT {Γ : Ctx} {es : List Expr} {r : DenA} {pos fpos : Pos} {x : Str} {n : Nat} {a : Expr} (hf : (x, n) ∈ Γ.fns) (h : SndA Γ (a :: es) r) (he : (a :: es).all plainE = true) (hg : Γ.sc.names.lookup x = some .globalImplicit) (hx : okName x = true) : SndE Γ (.Call (.Name x fpos) (a :: es) [] pos) (dCallT x n r) false := by
  intro X Φ B F H ρ σ Q W C hK T R hq
  obtain ⟨f, fd, ps, k, gm, gl, gk, gb, G, rm⟩ := C.fns _ hf
  have he' := he
  rw [List.all_cons, Bool.and_eq_true] at he'
  refine PE.w (pe_callG (E := WE W) G C.grd rm (gl_of C hg) gm gk gb (fun σ => L2N.passAt T σ) (pa_ws he) (okName_d hx) (star_of he'.1) (plain_any he'.2)) ?_
  refine h X Φ B F H ρ σ _ W C hK T R (wp_mono (wp_bind (c := r Φ ρ) hq) (fun y q vs F1 H1 R1 e1 A => ?_) fun _ q => q)
  obtain ⟨as, ρ1⟩ := y
  obtain ⟨hl, q⟩ := wp_guard q
  rw [Bool.and_eq_true, List.all_eq_true] at hl
  obtain ⟨hl, nol⟩ := hl
  have hl : as.length = n := by simpa using hl
  have R1 : Rel B F1 H1 ρ1 σ := R1
  have A : ArgsOk B F1 H1 ρ1 σ as vs := A
  have hv : vs.length = n := by rw [← A.len]; exact hl
  have slot : ∀ {j : Nat} {s : Slot}, (as.map (·.2))[j]? = some s → ∃ w d, as[j]? = some (w, s) ∧ s = .val d ∧ noL d = true := fun {j s} q => by
    rw [List.getElem?_map] at q
    cases z : as[j]? with
    | none => rw [z] at q; cases q
    | some y =>
      rw [z] at q
      cases q
      have := nol y (List.mem_of_getElem? z)
      obtain ⟨w, s⟩ := y
      cases s with
      | val d => exact ⟨w, d, rfl, rfl, this⟩
      | _ => cases this
  have own' : ∀ {j : Nat} {s : Slot}, (as.map (·.2))[j]? = some s → s.isOwn = true → False := fun q qs => by
    obtain ⟨_, _, _, rfl, _⟩ := slot q
    cases qs
  have bd : bdOf X.K (tupH F1) H1 (as.map (·.2)) vs = ⟨B.K, tupH F1, H1, fun _ _ => False, vs⟩ := by
    have e : lent (as.map (·.2)) vs = fun _ _ => False := by
      funext i a
      exact propext ⟨fun ⟨s, q, qs, _⟩ => own' q qs, fun z => z.elim⟩
    show Bd.mk X.K (tupH F1) H1 (lent (as.map (·.2)) vs) vs = _
    rw [e, hK]
  have q := wp_bind q
  refine ⟨hv, tupH F1, as.map (·.2), (tupH_ex F1).trans R1.kept.ex, by rw [List.length_map]; exact hl, ⟨by rw [List.length_map, List.length_map]; exact A.len, fun j d q => ?_, fun j ns q => ?_, fun j s q qs => ?_, fun j v q => ?_, fun j m s t a ne q qs q' qs' e2 e3 => ?_⟩, fun s hs => ?_, wp_mono q (fun z q v F2 H2 bk => ?_) fun z q F2 H2 cls d k2 hx => ?_⟩
  · obtain ⟨w, d', q1, q2, q3⟩ := slot q
    cases q2
    obtain ⟨v, g1, g2⟩ := A.val j w d q1
    exact ⟨v, by rw [List.getElem?_map, g1]; rfl, hK ▸ rp_tup d v g2 q3⟩
  · obtain ⟨_, _, _, z, _⟩ := slot q
    cases z
  · exact (own' q qs).elim
  · rw [List.getElem?_map, show vs[j]? = some v from q]; rfl
  · exact (own' q qs).elim
  · obtain ⟨p, hp, rfl⟩ := List.mem_map.mp hs
    exact A.no p hp
  · obtain ⟨r1, outs⟩ := z
    obtain ⟨k2, bo, br⟩ := bk
    rw [bd] at k2
    -- the list at its place, the rest apart from it
    have fin : ∀ (ds : List PyData) (a : Addr) (o : HO) (Gm : Hp), r1 = .val (.list ds) ∨ r1 = .own ds → Ex Gm F2 → Gm a = none → H2 a = some o → OwnIs B.K Gm o (.own ds) → H1 a = none → Q (.ref a) H2 := fun ds a o Gm hr g g0 g1 g2 g3 => by
      obtain ⟨R2, exG⟩ := both_ok (vs := vs) R1 k2 g
      have f0 : F1 a = none := R1.kept.ex.free g3
      have b0 : bothH F1 Gm a = none := by unfold bothH; rw [f0]; exact g0
      have res : Res B (bothH F1 Gm) H2 ρ1 σ (.own ds) (.ref a) := (Res.of_own rfl).mpr ⟨a, o, rfl, b0, g1, g2.mono exG, R1.kept.old g3, fun i t q1 q2 q3 => by
        obtain ⟨b, u, h1, _, h3, _⟩ := R1.sl.own i t q1 q2
        rw [q3] at h1
        cases h1
        rw [g3] at h3
        cases h3⟩
      rcases hr with rfl | rfl
      · exact q _ _ H2 R2 (e1.trans (bothH_l F1 Gm)) (fun z => by cases z) res
      · exact q _ _ H2 R2 (e1.trans (bothH_l F1 Gm)) (fun z => by cases z) res
    have fresh : ∀ {a : Addr} {us : List V}, F2 a = some (.lst us) → H1 a = none := fun {a us} g => by
      cases z : H1 a with
      | none => rfl
      | some o =>
        have t0 : tupH F1 a = none := by
          cases y : tupH F1 a with
          | none => rfl
          | some u =>
            have := k2.ff a u y
            rw [g] at this
            cases this
            exact absurd y tupH_lst
        have := k2.nof a (by show H1 a ≠ none; rw [z]; exact fun z => nomatch z) t0 fun ⟨_, z⟩ => z
        rw [g] at this
        cases this
    rcases br with ⟨d, z1, z2⟩ | ⟨z1, a, o, z2, z3, z4, z5, z6⟩
    · subst z1
      cases d with
      | list ds =>
        have z2 : Rp B.K F2 (.list ds) v := hK ▸ z2
        have z2' := z2
        cases z2 with
        | lst h1 h2 =>
          rename_i a us
          exact fin ds a (.lst us) (cutH F2 a) (.inl rfl) (cutH_ex F2 a) (by unfold cutH; rw [if_pos rfl]) (k2.ex _ _ h1) ⟨us, rfl, rp_cutAll z2' ds us h2 (by simp)⟩ (fresh h1)
      | _ => exact q.elim
    · subst z2
      cases r1 with
      | own ds => exact fin ds a o F2 (.inr rfl) (.refl F2) z3 z4 (hK ▸ z5) z6
      | _ => first | exact q.elim | cases z1
  · rw [bd] at k2
    obtain ⟨R2, exG⟩ := both_ok (vs := vs) R1 k2 (.refl F2)
    refine q (bothH F1 F2) H2 cls d R2.kept (e1.trans (bothH_l F1 F2)) ?_
    obtain ⟨h1, h2⟩ := hx
    refine ⟨h1, ?_⟩
    cases z3 : z.arg with
    | none => rw [z3] at h2; exact h2
    | some v =>
      rw [z3] at h2
      obtain ⟨a, u, f, g1, g2, g3⟩ := h2
      exact ⟨a, u, f, g1, g2, g3.mono exG⟩
section
variable {Φ : Calls} {ρ : Env} {i j : Nat} {r : DenA} {s t : Slot} {ds es : List PyData} {d e : PyData}
def kParA (i j : Nat) : List (Option Nat × Slot) × Env → Out (Fl × Env) := fun y => match y.1 with
  | [(none, s), (none, t)] => guard' (okS s && okS t) (.ok (.nx, (y.2.set i s).set j t))
  | _ => .stuck
@[simp] theorem x_parA : dParA i j r Φ ρ = (r Φ ρ).bind (kParA i j) := id rfl
@[simp] theorem x_parA1 : kParA i j ([(none, s), (none, t)], ρ) = guard' (okS s && okS t) (.ok (.nx, (ρ.set i s).set j t)) := id rfl
@[simp] theorem x_okS1 : okS (.own ds) = true := id rfl
@[simp] theorem x_okS2 : okS (.val d) = true := id rfl
def kCallT2 (ρ : Env) : Slot × List Slot → Out (Slot × Env) := fun r => match r.1 with
  | .val (.list ds) => .ok (.own ds, ρ)
  | .own ds => .ok (.own ds, ρ)
  | _ => .stuck
def kCallT (q : Str) (n : Nat) (Φ : Calls) : List (Option Nat × Slot) × Env → Out (Slot × Env) := fun y => guard' (y.1.length == n && y.1.all fun p => noLS p.2) ((Φ q (y.1.map (·.2))).bind (kCallT2 y.2))
variable {q : Str} {n : Nat} {la : List (Option Nat × Slot)} {ss : List Slot}
@[simp] theorem x_callT : dCallT q n r Φ ρ = (r Φ ρ).bind (kCallT q n Φ) := id rfl
@[simp] theorem x_callT1 : kCallT q n Φ (la, ρ) = guard' (la.length == n && la.all fun p => noLS p.2) ((Φ q (la.map (·.2))).bind (kCallT2 ρ)) := id rfl
@[simp] theorem x_callT2 : kCallT2 ρ (.val (.list ds), ss) = .ok (.own ds, ρ) := id rfl
@[simp] theorem x_callT3 : kCallT2 ρ (.own ds, ss) = .ok (.own ds, ρ) := id rfl
@[simp] theorem x_noLS : noLS (.val d) = noL d := id rfl
@[simp] theorem x_noLi {k : Int} : noL (.int k) = true := by simp [noL]
theorem noL_ps : ∀ ps : List (Int × Int), noLAll (psD ps) = true
  | [] => by simp [noLAll]
  | p :: ps => by
    have := noL_ps ps
    simp only [List.map_cons, noLAll, prD, noL, this]
    simp
@[simp] theorem x_noLo {m : Int} {ps : List (Int × Int)} : noL (ordD m ps) = true := by
  have := noL_ps ps
  simp [ordD, noL, noLAll, this]
end
theorem idx_inj {a b : Int} : ∀ {l : List Int}, a ∈ l → l.idxOf a = l.idxOf b → a = b
  | [], h, _ => absurd h List.not_mem_nil
  | c :: l, h, e => by
    rw [List.idxOf_cons, List.idxOf_cons] at e
    by_cases h1 : c = a
    · by_cases h2 : c = b
      · exact h1.symm.trans h2
      · have z1 : (c == a) = true := by simpa using h1
        have z2 : (c == b) = false := by simpa using h2
        rw [z1, z2] at e
        simp at e
    · by_cases h2 : c = b
      · have z1 : (c == a) = false := by simpa using h1
        have z2 : (c == b) = true := by simpa using h2
        rw [z1, z2] at e
        simp at e
      · have z1 : (c == a) = false := by simpa using h1
        have z2 : (c == b) = false := by simpa using h2
        rw [z1, z2] at e
        refine idx_inj (l := l) ((List.mem_cons.mp h).resolve_left fun z => h1 z.symm) ?_
        simpa using e
def gD (xs : List Int) (k : Nat) : Int := (xs[k]?).getD 0
theorem gD_eq (xs : List Int) {k : Nat} (h : k < xs.length) : gD xs k = xs[k] := by simp [gD, h]
theorem x_atD (xs : List Int) (k : Nat) (h : k < xs.length) : atI (nsD xs) (k : Int) = some (.int (gD xs k)) := by
  rw [x_atN xs k h, gD_eq xs h]
end Dn

/-! Den30: an expression that only looks at an own list. -/
namespace Dn
open PySem PySem.Spec L2
open PyProof.Rows hiding St
def veil (s : Slot) : Slot := if s.isOwn then .un else s
def hideE (ρ : Env) (i : Nat) (ds : List PyData) : Env := (ρ.map veil).set i (.val (.list ds))
def dSeal (i : Nat) (d : Den) : Den := fun Φ ρ => match ρ[i]? with
  | some (.own ds) => (noX (d Φ (hideE ρ i ds))).bind fun r => match r.1 with
    | .val x => guard' (noL x) (.ok (.val x, ρ))
    | _ => .stuck
  | _ => d Φ ρ
theorem hide_get {ρ : Env} {i j : Nat} {ds : List PyData} {s : Slot} (h : (hideE ρ i ds)[j]? = some s) : (j = i ∧ s = .val (.list ds)) ∨ (j ≠ i ∧ s.isOwn = false ∧ (s = .un ∨ ρ[j]? = some s)) := by
  unfold hideE at h
  rcases set_get h with ⟨z1, z2, _⟩ | ⟨z1, z2⟩
  · exact .inl ⟨z1, z2⟩
  · right
    rw [List.getElem?_map] at z2
    cases q : ρ[j]? with
    | none => rw [q] at z2; cases z2
    | some t =>
      rw [q] at z2
      have z2 : veil t = s := Option.some.inj z2
      unfold veil at z2
      split at z2
      · subst z2; exact ⟨z1, rfl, .inl rfl⟩
      · rename_i c
        subst z2
        exact ⟨z1, by simpa using c, .inr rfl⟩
/-- behind what changed nothing that stood -/
theorem both_ok2 {B : Bd} {F1 H1 H' G : Hp} {ρ : Env} {σ : St} (R : Rel B F1 H1 ρ σ) (keep : ∀ {a : Addr} {o : HO}, H1 a = some o → H' a = some o) (exg : Ex G H') (none' : ∀ {a : Addr}, H1 a ≠ none → F1 a = none → G a = none) :
    Rel B (bothH F1 G) H' ρ σ ∧ Ex G (bothH F1 G) := by
  have exG : Ex G (bothH F1 G) := fun a o h => by
    unfold bothH
    cases q : F1 a with
    | none => exact h
    | some u =>
      have h1 := keep (R.kept.ex a u q)
      have h2 := exg a o h
      rw [h1] at h2
      cases h2
      rfl
  have exl := bothH_l F1 G
  refine ⟨⟨⟨R.kept.ff.trans exl, fun a o h => ?_, fun a o h n => keep (R.kept.keep a o h n), fun a h1 h2 h3 => ?_, fun a h => ?_⟩, ⟨R.sl.len, fun i d q => ?_, fun i ns q => ?_, fun i s q qs => ?_, R.sl.par, R.sl.dis⟩⟩, exG⟩
  · unfold bothH at h
    split at h
    · rename_i u q
      cases h
      exact keep (R.kept.ex a _ q)
    · exact exg a o h
  · have z := R.kept.nof a h1 h2 h3
    unfold bothH
    rw [z]
    exact none' (R.kept.live a h1) z
  · have z := R.kept.live a h
    cases q : H1 a with
    | none => exact absurd q z
    | some o => rw [keep q]; exact fun z => nomatch z
  · obtain ⟨v, h1, h2⟩ := R.sl.val i d q
    exact ⟨v, h1, h2.mono exl⟩
  · obtain ⟨a, h1, h2⟩ := R.sl.scr i ns q
    exact ⟨a, h1, exl.sqL h2⟩
  · obtain ⟨a, o, h1, h2, h3, h4, h5⟩ := R.sl.own i s q qs
    refine ⟨a, o, h1, ?_, keep h3, h4.mono exl, h5⟩
    unfold bothH
    rw [h2]
    exact none' (by rw [h3]; exact fun z => nomatch z) h2
theorem noX_of {α : Type} {c : Out α} {P : α → Prop} {E : Exc → Prop} (h : (noX c).wp P E) : c.wp P fun _ => False := by
  cases c with
  | ok a => exact h
  | exc x => exact h.elim
  | stuck => exact h.elim
theorem snd_seal {Γ : Ctx} {e : Expr} {d : Den} {p : Bool} (i : Nat) (h : SndE Γ e d p) : SndE Γ e (dSeal i d) false := by
  intro X Φ B F H ρ σ Q W C hK T R hq
  unfold dSeal at hq
  split at hq
  · rename_i ds e0
    obtain ⟨a, o, g1, g2, g3, g4, g5⟩ := R.sl.own i _ e0 rfl
    obtain ⟨us, rfl, g4⟩ := g4
    let B' : Bd := ⟨B.K, upd F a (.lst us), H, fun _ _ => False, B.vs⟩
    have ex1 : Ex F (upd F a (.lst us)) := .new g2
    have R' : Rel B' (upd F a (.lst us)) H (hideE ρ i ds) σ := by
      refine ⟨⟨.refl _, fun b u q => ?_, fun _ _ q _ => q, fun _ _ q _ => q, fun _ q => q⟩, ⟨?_, fun j d q => ?_, fun j ns q => ?_, fun j s q qs => ?_, R.sl.par, fun j k s t b ne q qs => ?_⟩⟩
      · by_cases z : b = a
        · subst z; rw [upd_same] at q; rw [← q]; exact g3
        · rw [upd_ne z] at q; exact R.kept.ex b u q
      · unfold hideE; rw [List.length_set, List.length_map]; exact R.sl.len
      · rcases hide_get q with ⟨z1, z2⟩ | ⟨z1, _, z3⟩
        · cases z2
          subst z1
          exact ⟨.ref a, g1, .lst upd_same (g4.mono ex1)⟩
        · rcases z3 with z3 | z3
          · cases z3
          · obtain ⟨v, k1, k2⟩ := R.sl.val j d z3
            exact ⟨v, k1, k2.mono ex1⟩
      · rcases hide_get q with ⟨_, z2⟩ | ⟨_, _, z3⟩
        · cases z2
        · rcases z3 with z3 | z3
          · cases z3
          · obtain ⟨v, k1, k2⟩ := R.sl.scr j ns z3
            exact ⟨v, k1, ex1.sqL k2⟩
      · rcases hide_get q with ⟨_, z2⟩ | ⟨_, z2, _⟩
        · subst z2; cases qs
        · rw [z2] at qs; cases qs
      · rcases hide_get q with ⟨_, z2⟩ | ⟨_, z2, _⟩
        · subst z2; cases qs
        · rw [z2] at qs; cases qs
    refine h X Φ B' (upd F a (.lst us)) H (hideE ρ i ds) σ Q W C hK T R' (wp_mono (noX_of (wp_bind hq)) (fun r q v F' H' R2 e1 _ hv => ?_) fun _ z => z.elim)
    obtain ⟨s, ρ'⟩ := r
    cases s with
    | val x =>
      obtain ⟨nl, q⟩ := wp_guard q
      have nl' : ∀ b, ¬ B'.La b := fun b ⟨_, z⟩ => z
      obtain ⟨R3, exG⟩ := both_ok2 (G := tupH F') (H' := H') R (fun {b u} z => R2.kept.keep b u z (nl' b)) ((tupH_ex F').trans R2.kept.ex) (fun {b} z1 z2 => by
        by_cases z : b = a
        · subst z
          have := e1 b _ upd_same
          unfold tupH
          rw [this]
        · have := R2.kept.nof b z1 (show upd F a (.lst us) b = none by rw [upd_ne z]; exact z2) (nl' b)
          unfold tupH
          rw [this])
      have hv : Rp B.K F' x v := hv
      exact q v (bothH F (tupH F')) H' R3 (bothH_l _ _) (fun z => by cases z) ((rp_tup x v hv nl).mono exG)
    | _ => exact q.elim
  · exact h X Φ B F H ρ σ Q W C hK T R (wp_mono hq (fun r q v F' H' R' e1 _ hv => q v F' H' R' e1 (fun z => by cases z) hv) fun _ z => z)
section
variable {Φ : Calls} {ρ : Env} {i : Nat} {d : Den} {ds : List PyData} {x : PyData}
def kSeal (ρ : Env) : Slot × Env → Out (Slot × Env) := fun r => match r.1 with
  | .val x => guard' (noL x) (.ok (.val x, ρ))
  | _ => .stuck
def sealG (o : Option Slot) (i : Nat) (d : Den) (Φ : Calls) (ρ : Env) : Out (Slot × Env) := match o with
  | some (.own ds) => (noX (d Φ (hideE ρ i ds))).bind (kSeal ρ)
  | _ => d Φ ρ
@[simp] theorem x_seal : dSeal i d Φ ρ = sealG (ρ[i]?) i d Φ ρ := id rfl
@[simp] theorem x_seal1 : sealG (some (.own ds)) i d Φ ρ = (noX (d Φ (hideE ρ i ds))).bind (kSeal ρ) := id rfl
@[simp] theorem x_seal2 : sealG (some (.val x)) i d Φ ρ = d Φ ρ := id rfl
@[simp] theorem x_seal3 {ρ' : Env} : kSeal ρ (.val x, ρ') = guard' (noL x) (.ok (.val x, ρ)) := id rfl
@[simp] theorem x_hide : hideE ρ i ds = (ρ.map veil).set i (.val (.list ds)) := id rfl
@[simp] theorem x_veil1 : veil (.own ds) = .un := id rfl
@[simp] theorem x_veil2 : veil (.val x) = .val x := id rfl
@[simp] theorem x_veil3 : veil .un = .un := id rfl
@[simp] theorem x_veil4 {ns : List Int} : veil (.scr ns) = .scr ns := id rfl
@[simp] theorem x_noLb {b : Bool} : noL (.bool b) = true := by simp [noL]
end
end Dn

/-! Den31: enumerate of a list or a tuple. -/
namespace Dn
open PySem PySem.Spec L2
open PyProof.Rows hiding St
set_option maxHeartbeats 1000000 in
theorem meets_enum1 {v : Value} {o : Obj} {H : Heap → Prop} (B : Begins v o H) :
    Meets (Builtin.«enumerate.__new__» ⟨[.type "enumerate", v], []⟩) (fun _ R s => H s.heap ∧
      R (.ok (.ret (.ref (s.heap.push o).objs.size))) { s with heap := (s.heap.push o).push { cls := .type "enumerate", data := .fields #[.none, .bool false, .ref s.heap.objs.size, rawInt 0, .none, .none] } }) :=
  .of_wp fun prog w A R s h => by
    obtain ⟨hp, g, d, tk, os⟩ := s; obtain ⟨h1, h⟩ := h
    have hsub := sub_enumerate
    have q1 : ∀ {A' : Around} {E : Value → Shared → Prop} {Q : Value → Shared → Prop}, Q (.ref hp.objs.size) ⟨hp.push o, g, d, tk, os⟩ → wpAny (model prog w) A' (pyIter v) Q E ⟨hp, g, d, tk, os⟩ :=
      fun q => B.iter prog w _ _ ⟨hp, g, d, tk, os⟩ _ h1 q
    wp_walk using q1
    refine wpAny_stack_any fun st => wpAny_pure ?_
    split
    · rename_i c _ _ _ _ _
      cases (c == Value.type "enumerate")
      · wp_walk using q1
        exact ⟨_, rfl, h⟩
      · wp_walk using q1
        exact ⟨_, rfl, h⟩
    · wp_walk using q1
      exact ⟨_, rfl, h⟩
section
variable {prog : Program} {w : World} {A : Around} {E : Value → Shared → Prop} {s : Shared}
theorem enum_begins1 {v : Value} {o : Obj} {H : Heap → Prop} {Q : Value → Shared → Prop} (B : Begins v o H) (h1 : H s.heap)
    (h : ∀ h', IsEnum h' (s.heap.objs.size + 1) s.heap.objs.size 0 .none → h'.get? s.heap.objs.size = some o → h'.objs.size = s.heap.objs.size + 2 →
      (∀ b o, s.heap.get? b = some o → h'.get? b = some o) → Q (.ref (s.heap.objs.size + 1)) { s with heap := h' }) :
    wpAny (model prog w) A (call (.type "enumerate") [v]) Q E s := by
  refine callType_new F.called_enumerate (by decide) (F.typeCall_enumerate_1 _) (F.newCall_enumerate_1 _) (fun obj => F.args_object_init_2 obj _) F.entry_enumerate_new
    (meets_enum1 B) ⟨h1, ?_⟩
  have hz : (s.heap.push o).objs.size = s.heap.objs.size + 1 := Heap.size_push ..
  show _ ∧ _
  rw [hz]
  have he : IsEnum ((s.heap.push o).push { cls := .type "enumerate", data := .fields #[.none, .bool false, .ref s.heap.objs.size, rawInt 0, .none, .none] }) (s.heap.objs.size + 1) s.heap.objs.size 0 .none := by
    have := Heap.get?_push_size (s.heap.push o) (o := { cls := .type "enumerate", data := .fields #[.none, .bool false, .ref s.heap.objs.size, rawInt 0, .none, .none] }) rfl
    rw [hz] at this; exact this
  refine ⟨⟨_, he, rfl⟩, h _ he (Heap.get?_push_of_some _ (Heap.get?_push_size _ B.free)) (by rw [Heap.size_push, hz]) fun b o x => Heap.get?_push_of_some _ (Heap.get?_push_of_some _ x)⟩
end
/-- the tuple at a as it stands at each turn, each item in a new pair -/
def IteT (K : PySem.W.Frag) (a : Addr) : It :=
  ⟨fun i H => ∃ (xs : List V) (x : V), SqT K H a xs ∧ xs[i]? = some x, fun i H v H' => ∃ T x, v = .ref T ∧ H T = none ∧ H' = upd H T (.tup [.int (i : Nat), x]) ∧ ∀ xs, SqT K H a xs → xs[i]? = some x, fun i H => ∃ xs : List V, SqT K H a xs ∧ xs.length ≤ i⟩
theorem turn_enumT {P : Program} {w : World} {K : PySem.W.Frag} {elts : List Expr} {kk : Nat} {tpos : Pos} (a e it : Addr) :
    Turn P w K (.Tuple elts kk tpos) (IteT K a) [e, it] e (fun i h => (∃ old, IsEnum h e it ((i : Nat) : Int) old) ∧ h.IsTupleIter it a i ∧ e ≠ it) where
  mem := by simp
  obj := fun i h st b hb => by
    obtain ⟨⟨old, he⟩, ⟨o, ho, hc, hd⟩, _⟩ := st
    have e' : b = e ∨ b = it := by simpa using hb
    rcases e' with z | z
    · rw [z]; exact ⟨_, he, fun v q => nomatch q⟩
    · rw [z]; exact ⟨o, ho, fun v q => by rw [hd] at q; cases q⟩
  keep := fun i h h' st k => let ⟨⟨old, he⟩, hi, hne⟩ := st; ⟨⟨old, k e (by simp) _ he⟩, hi.at fun o q => k it (by simp) o q, hne⟩
  item := by
    intro X hP hw hK hc i pins s σ H E I hf st hg
    subst hP hw hK
    obtain ⟨⟨old, he⟩, hit, hne⟩ := st
    obtain ⟨xs, x, hq, hx⟩ := hg
    obtain ⟨its, rv, p, hz⟩ := I.tuple hq
    obtain ⟨u, hu, ru⟩ := rv.get hx
    have hel : e < s.heap.objs.size := Heap.lt_size he
    have hil : it < s.heap.objs.size := by obtain ⟨_, q, _⟩ := hit; exact Heap.lt_size q
    have p : s.heap.IsTuple a its.toArray := p
    have hta : ∀ b, b ∈ [e, it] → a ≠ b := fun b hb z => by
      subst z
      obtain ⟨o, ho, c1, _⟩ := p
      have e' : a = e ∨ a = it := by simpa using hb
      rcases e' with z | z
      · subst z
        have ho := ho.symm.trans he
        cases ho
        exact absurd (show Value.type "enumerate" = Value.type "tuple" from c1) (by decide)
      · subst z
        obtain ⟨o2, h2, c2, _⟩ := hit
        have ho := ho.symm.trans h2
        cases ho
        exact absurd (c1.symm.trans c2) (by decide)
    have hlt : i < its.toArray.size := by
      rcases Nat.lt_or_ge i its.toArray.size with h | h
      · exact h
      · exfalso
        have : its[i]? = none := List.getElem?_eq_none_iff.mpr (by simpa using h)
        rw [hu] at this
        cases this
    refine wpAny_pyNext_enum_itemD (D := Draws.tuple (A := X.A.in1) (I.ok.hd hc) it a (hta it (by simp)) its.toArray) he ⟨hit, p⟩ hlt hne (by simp only [List.mem_cons, List.not_mem_nil, or_false, not_or]; exact ⟨hne, fun z => hta e (by simp) z.symm⟩) fun x' h' tk hP ho hit' hT hsz hk => ?_
    have hP : its.toArray[i]? = some x' := hP
    have eu : x' = u := by
      have : its[i]? = some x' := by simpa using hP
      rw [hu] at this
      exact (Option.some.inj this).symm
    subst eu
    refine ⟨_, rfl, wpAny_letOwnedTupleGo_enum (s := { s with heap := h', toks := tk + 1 }) ho fun h'' he' sb => ?_⟩
    have hT2 : h''.get? s.heap.objs.size = some { cls := .type "tuple", data := .seq #[.int i tk, x'] } := (sb.2 _ (Nat.ne_of_gt hel)).trans hT
    have new : ObjOk X.prog X.w (upd H s.heap.objs.size (.tup [.int (i : Nat), x])) h'' s.heap.objs.size (.tup [.int (i : Nat), x]) :=
      ⟨by show 2 ≤ sizeLine; decide, [.int i tk, x'], .cons ⟨_, rfl⟩ (.cons ru .nil), ⟨_, hT2, rfl, _, rfl⟩⟩
    have I1 : Inv X pins σ (upd H s.heap.objs.size (.tup [.int (i : Nat), x])) { s with heap := h'', toks := tk + 1 } :=
      I.turnedNew (ch := [e, it]) (fun b ob hb q => (sb.2 b (fun z => hb (by simp [z]))).trans (hk b ob (fun z => hb (by simp [z])) (fun z => hb (by simp [z])) q)) hf (Nat.le_refl _) new
    refine ⟨.ref s.heap.objs.size, _, I1, rfl, ⟨_, x, rfl, I.hok.fresh (Nat.le_refl _), rfl, fun ys hy => by rw [I.tuple_inj hy hq]; exact hx⟩, ⟨⟨x', ?_⟩, hit'.1.at fun o q => (sb.2 it (Ne.symm hne)).trans q, hne⟩, fun b hb => ?_⟩
    · have e1 : ((i + 1 : Nat) : Int) = (i : Int) + 1 := by omega
      rw [e1]; exact he'
    · have hb' : b < s.heap.objs.size := by
        have e' : b = e ∨ b = it := by simpa using hb
        rcases e' with z | z
        · rw [z]; exact hel
        · rw [z]; exact hil
      rw [upd_ne (Nat.ne_of_lt hb')]
      exact (hf b hb).1
  done := by
    intro X hP hw hK hc i pins s σ H E I hf st hg
    subst hP hw hK
    obtain ⟨⟨old, he⟩, hit, hne⟩ := st
    obtain ⟨xs, hq, hx⟩ := hg
    obtain ⟨its, rv, p, hz⟩ := I.tuple hq
    have p : s.heap.IsTuple a its.toArray := p
    obtain ⟨f0, f1, f2, f3, f4, f5⟩ := hf it (by simp)
    have hl := rv.length
    have hT : s.TypeIs (.ref e) "enumerate" := ⟨_, he, rfl⟩
    unfold pyNext
    refine wpAny_bind (wpAny_attempt (wpAny_callSpecial?_slot (name := Str.ofString "__next__") hT F.slot_enumerate_next
      (wpAny_call_entry F.slot_enumerate_next hT F.entry_enumerate_next ?_ (F.args_enumerate_next_1 _))))
    show wpAny _ _ (field (.ref e) 2 >>= _) _ _ _
    refine wpAny_bind (wpAny_field he rfl (x := .ref it) rfl ?_)
    refine wpAny_bind (wpAny_nextOf_tuple_end (A := X.A.in1) (I.ok.hd hc) hit p (by simp; omega) fun h' x he' hx' => ?_)
    obtain ⟨o, ho, hc⟩ := hx'
    refine wpAny_bind (wpAny_isInstance (T := "StopIteration") (b := true) ⟨o, ho, hc⟩ isSubtype_stop ?_)
    exact wpAny_pure ⟨rfl, I.turned (t' := s.toks) (fun b o hb q => he' b o hb q) f0 f1 f3 f4 f5⟩
  self := fun A i s Q E st h => let ⟨⟨_, he⟩, _⟩ := st; wpAny_pyIter_enum he h
def iEnumAny (K : PySem.W.Frag) (ta : TA) : TI := fun σ H R => ta σ H fun vs H1 => ∃ a xs, vs = [.ref a] ∧ ((SqL K H1 a xs ∧ R (Ite K a) H1) ∨ (SqT K H1 a xs ∧ R (IteT K a) H1))
theorem pi_enumA {X : Cx} {e : Expr} {ta : TA} {p pos tpos : Pos} {elts : List Expr} {kk : Nat} (hg : Gl X "enumerate") (hm : X.mg "enumerate" = none) (ha : PA X [e] ta) (hs : starEach [e] X.env = [(false, eval e X.env)] := by rfl) :
    PI X (.Tuple elts kk tpos) (.Call (.Name "enumerate" p) [e] [] pos) (iEnumAny X.K ta) := by
  refine ⟨fun pins s σ H R I h => ?_⟩
  refine Call_ (ld_blt I hg hm boot_enumerate (PyProof.Rows.callWith_type1 (thn (ha.run pos pins s σ H _ I h) fun us s1 ⟨vs, H1, I1, r1, q1⟩ => ?_) hs rfl))
  obtain ⟨a, xs, ex, q⟩ := q1
  subst ex
  cases r1 with
  | cons r rr =>
    cases rr
    cases r
    have fp : ∀ b, b ∈ [s1.heap.objs.size + 1, s1.heap.objs.size] → FpOk X pins H1 b := fun b hb => by
      have e' : b = s1.heap.objs.size + 1 ∨ b = s1.heap.objs.size := by simpa using hb
      have hle : s1.heap.objs.size ≤ b := by
        rcases e' with z | z
        · rw [z]; exact Nat.le_add_right _ _
        · rw [z]; exact Nat.le_refl _
      exact I1.fpOk hle (I1.hok.fresh hle)
    rcases q with ⟨hq, q⟩ | ⟨hq, q⟩
    · obtain ⟨its, rv, p', hz⟩ := I1.list hq
      refine call_enumerate_list p'.isList fun h' he hit hsz hk => wpAny_pyIter_enum he ?_
      have I2 : Inv X pins σ H1 { s1 with heap := h' } := I1.kept (t' := s1.toks) hk
      exact ⟨s1.heap.objs.size + 1, [s1.heap.objs.size + 1, s1.heap.objs.size], _, _, H1, rfl, I2, turn_enum a (s1.heap.objs.size + 1) s1.heap.objs.size, ⟨⟨.none, he⟩, hit, Nat.succ_ne_self _⟩, fp, q⟩
    · obtain ⟨its, rv, p', hz⟩ := I1.tuple hq
      refine enum_begins1 (begins_tuple a its.toArray) (show s1.heap.IsTuple a its.toArray from p') fun h' he ho hsz hk => wpAny_pyIter_enum he ?_
      have I2 : Inv X pins σ H1 { s1 with heap := h' } := I1.kept (t' := s1.toks) hk
      exact ⟨s1.heap.objs.size + 1, [s1.heap.objs.size + 1, s1.heap.objs.size], _, _, H1, rfl, I2, turn_enumT a (s1.heap.objs.size + 1) s1.heap.objs.size, ⟨⟨.none, he⟩, ⟨_, ho, rfl, rfl⟩, Nat.succ_ne_self _⟩, fp, q⟩
theorem src_enumT {K : PySem.W.Frag} {F : Hp} {l : Addr} {o : Obj} {vs : List V} {ds : List PyData} (h : F l = some (.frz o (.tup vs))) (r : RpAll K F ds vs) : Src true K F (IteT K l) (pairUp (rngD 0 ds.length) ds) := by
  refine ⟨fun i H d e q => ?_, fun i H e q => ?_⟩
  · obtain ⟨x, y, g1, g2, rfl⟩ := pairUp_get q
    obtain ⟨v, h1, h2⟩ := RpAll.at' r g2
    have hx : x = .int (i : Nat) := by
      have hi : i < ds.length := (List.getElem?_eq_some_iff.mp g2).1
      unfold rngD at g1
      rw [List.getElem?_map, List.getElem?_range hi] at g1
      have := (Option.some.inj g1).symm
      rw [this]
      show PyData.int (0 + ((i : Nat) : Int)) = _
      rw [Int.zero_add]
    subst hx
    refine ⟨⟨vs, v, sqT_inj h e, h1⟩, fun w H' ⟨T, u, e1, hn, e2, hu⟩ F2 e3 e4 => ?_⟩
    subst e1
    subst e2
    have := hu vs (sqT_inj h e)
    rw [h1] at this
    cases this
    exact new_pair e4 hn (.int _) (h2.mono e3)
  · refine ⟨vs, sqT_inj h e, ?_⟩
    rw [pairUp_len, rngD_length, Nat.min_self] at q
    rw [← r.length]; exact q
def iEnumA (d : Den) : DenI := fun Φ ρ => (oOf d Φ ρ).bind fun r => match r.1 with
  | .list ds => .ok (pairUp (rngD 0 ds.length) ds, r.2)
  | .tuple ds => .ok (pairUp (rngD 0 ds.length) ds, r.2)
  | _ => .stuck
section
variable {Γ : Ctx} {e : Expr} {d : Den} {p : Bool} {fpos pos tpos : Pos} {elts : List Expr} {kk : Nat}
theorem snd_iEnumA (h : SndE Γ e d p) (he : plainE e = true) (hg : Γ.sc.names.lookup ("enumerate" : Str) = some .globalImplicit) (hf : ("enumerate" : Str) ∈ Γ.blts) : SndI Γ (.Tuple elts kk tpos) (.Call (.Name "enumerate" fpos) [e] [] pos) (iEnumA d) p true := by
  intro X Φ B F H ρ σ R W C hK T Rl hq
  refine PI.w (pi_enumA (gl_of C hg) (C.blt _ hf) (pa_ws (by rw [List.all_cons, List.all_nil, Bool.and_true]; exact he)) (star_of he)) ?_
  refine snd_oOf h X Φ B F H ρ σ _ W C hK T Rl (wp_mono (wp_bind (c := oOf d Φ ρ) hq) (fun y q v F1 H1 R1 e1 e2 hv => ?_) fun _ q => q)
  obtain ⟨y, ρ1⟩ := y
  have hv : Rp B.K F1 y v := hv
  cases y with
  | list ds =>
    cases hv with
    | lst h1 h2 => exact ⟨_, _, rfl, .inl ⟨sqL_inj (R1.kept.ex _ _ h1), q _ F1 H1 R1 e1 e2 (hK ▸ src_enum h1 h2)⟩⟩
  | tuple ds =>
    cases hv with
    | tup h1 _ h2 => exact ⟨_, _, rfl, .inr ⟨sqT_inj h1 R1.kept.ex, q _ F1 H1 R1 e1 e2 (hK ▸ src_enumT h1 h2)⟩⟩
  | _ => exact q.elim
end
def kEnA : PyData × Env → Out (List PyData × Env) := fun r => match r.1 with
  | .list ds => .ok (pairUp (rngD 0 ds.length) ds, r.2)
  | .tuple ds => .ok (pairUp (rngD 0 ds.length) ds, r.2)
  | _ => .stuck
section
variable {a : Den} {Φ : Calls} {ρ : Env} {ds : List PyData}
@[simp] theorem x_iEnumA : iEnumA a Φ ρ = (oOf a Φ ρ).bind kEnA := id rfl
@[simp] theorem x_iEnumA1 : kEnA (.list ds, ρ) = .ok (pairUp (rngD 0 ds.length) ds, ρ) := id rfl
@[simp] theorem x_iEnumA2 : kEnA (.tuple ds, ρ) = .ok (pairUp (rngD 0 ds.length) ds, ρ) := id rfl
end
end Dn

/-! Den32: data that repr can show, told by its parts; members of displays and slices. -/
namespace Dn
open PySem PySem.Spec L2
open PyProof.Rows hiding St
/-- fl: no list within; else no dict -/
structure Sm (fl : Bool) (k w : Nat) (d : PyData) : Prop where
  dep : d.depth ≤ k
  rd : rdB d = true
  fd : (if fl then flatB d else !d.hasDict) = true
  sh : d.showable = true
  wt : wt d ≤ w
def smB (fl : Bool) (k w : Nat) (d : PyData) : Bool := decide (d.depth ≤ k) && (rdB d && ((if fl then flatB d else !d.hasDict) && (d.showable && decide (wt d ≤ w))))
theorem sm_of {fl : Bool} {k w : Nat} {d : PyData} (h : smB fl k w d = true) : Sm fl k w d := by
  unfold smB at h
  simp only [Bool.and_eq_true, decide_eq_true_eq] at h
  exact ⟨h.1, h.2.1, h.2.2.1, h.2.2.2.1, h.2.2.2.2⟩
theorem Sm.mono {fl : Bool} {k w k' w' : Nat} {d : PyData} (h : Sm fl k w d) (h1 : k ≤ k') (h2 : w ≤ w') : Sm fl k' w' d := ⟨Nat.le_trans h.dep h1, h.rd, h.fd, h.sh, Nat.le_trans h.wt h2⟩
theorem Sm.repr {fl : Bool} {k w : Nat} {d : PyData} (h : Sm fl k w d) (h1 : k ≤ 64) (h2 : w ≤ 16000000) : reprOk d = true := reprOk_rd (Nat.le_trans h.dep h1) h.rd h.sh (Nat.le_trans h.wt h2)
theorem sm_all {fl : Bool} {k w : Nat} : ∀ ds : List PyData, (∀ d ∈ ds, Sm fl k w d) → PyData.depthAll ds ≤ k ∧ rdAll ds = true ∧ (if fl then flatAll ds else !PyData.hasDictAll ds) = true ∧ PyData.showableAll ds = true ∧ wtAll ds ≤ (w + 2) * ds.length
  | [], _ => ⟨by simp [PyData.depthAll], by simp [rdAll], by cases fl <;> simp [flatAll, PyData.hasDictAll], by simp [PyData.showableAll], by simp [wtAll]⟩
  | d :: ds, h => by
    obtain ⟨a1, a2, a3, a4, a5⟩ := sm_all ds fun x hx => h x (List.mem_cons_of_mem _ hx)
    have b := h d List.mem_cons_self
    refine ⟨?_, ?_, ?_, ?_, ?_⟩
    · unfold PyData.depthAll
      exact Nat.max_le.mpr ⟨b.dep, a1⟩
    · unfold rdAll
      rw [b.rd, a2]
      rfl
    · have := b.fd
      cases fl with
      | true =>
        rw [if_pos rfl] at this a3 ⊢
        unfold flatAll
        rw [this, a3]
        rfl
      | false =>
        rw [if_neg (by decide)] at this a3 ⊢
        unfold PyData.hasDictAll
        rw [Bool.not_or, this, a3]
        rfl
    · unfold PyData.showableAll
      rw [b.sh, a4]
      rfl
    · unfold wtAll
      have := b.wt
      rw [List.length_cons, Nat.mul_succ]
      omega
theorem Sm.tup {fl : Bool} {k w : Nat} {ds : List PyData} (h : ∀ d ∈ ds, Sm fl k w d) {k' w' : Nat} (h1 : k + 1 ≤ k') (h2 : (w + 2) * ds.length + 10 ≤ w') : Sm fl k' w' (.tuple ds) := by
  obtain ⟨a1, a2, a3, a4, a5⟩ := sm_all ds h
  refine ⟨by unfold PyData.depth; omega, by unfold rdB; exact a2, ?_, by unfold PyData.showable; exact a4, by unfold Dn.wt; omega⟩
  cases fl with
  | true => rw [if_pos rfl] at a3 ⊢; unfold flatB; exact a3
  | false => rw [if_neg (by decide)] at a3 ⊢; unfold PyData.hasDict; exact a3
theorem Sm.lst {k w : Nat} {ds : List PyData} (h : ∀ d ∈ ds, Sm false k w d) {k' w' : Nat} (h1 : k + 1 ≤ k') (h2 : (w + 2) * ds.length + 10 ≤ w') : Sm false k' w' (.list ds) := by
  obtain ⟨a1, a2, a3, a4, a5⟩ := sm_all ds h
  refine ⟨by unfold PyData.depth; omega, by unfold rdB; exact a2, ?_, by unfold PyData.showable; exact a4, by unfold Dn.wt; omega⟩
  rw [if_neg (by decide)] at a3 ⊢
  unfold PyData.hasDict
  exact a3
set_option exponentiation.threshold 3000 in
theorem Sm.int {fl : Bool} {n : Int} {k w : Nat} (h : n.natAbs < 2 ^ 100) (hw : 2000 ≤ w) : Sm fl k w (.int n) := by
  have : n.natAbs.log2 < 1920 := PySem.Flt.log2_lt_of (k := 1920) (by decide) (Nat.lt_of_lt_of_le h (Nat.pow_le_pow_right (by decide) (by decide)))
  refine ⟨by simp [PyData.depth], by simp [rdB], by cases fl <;> simp [flatB, PyData.hasDict], by simpa [PyData.showable] using this, by simpa [Dn.wt] using hw⟩
theorem Sm.str {fl : Bool} {x : Str} {k w : Nat} (h : (reprText x).length ≤ w) : Sm fl k w (.str x) := ⟨by simp [PyData.depth], by simp [rdB], by cases fl <;> simp [flatB, PyData.hasDict], by simp [PyData.showable], by simpa [Dn.wt] using h⟩
theorem Sm.non {fl : Bool} {k w : Nat} (h : 10 ≤ w) : Sm fl k w .none := ⟨by simp [PyData.depth], by simp [rdB], by cases fl <;> simp [flatB, PyData.hasDict], by simp [PyData.showable], by simpa [Dn.wt] using h⟩
theorem Sm.bool {fl b : Bool} {k w : Nat} (h : 10 ≤ w) : Sm fl k w (.bool b) := ⟨by simp [PyData.depth], by simp [rdB], by cases fl <;> simp [flatB, PyData.hasDict], by simp [PyData.showable], by simpa [Dn.wt] using h⟩
theorem show_mem : ∀ {ds : List PyData}, PyData.showableAll ds = true → ∀ d ∈ ds, d.showable = true
  | d :: ds, h, x, hx => by
    simp only [PyData.showableAll, Bool.and_eq_true] at h
    rcases List.mem_cons.mp hx with rfl | hx
    · exact h.1
    · exact show_mem h.2 x hx
/-- an item of a display, whatever the place -/
theorem atI_mem {ds : List PyData} {i : Int} (h0 : 0 ≤ i) (h1 : i < ds.length) : ∃ d, atI ds i = some d ∧ d ∈ ds := by
  have h2 : i.toNat < ds.length := by omega
  refine ⟨ds[i.toNat], ?_, List.getElem_mem h2⟩
  have := x_ixn (xs := ds) (n := i.toNat) (List.getElem?_eq_getElem h2)
  rwa [Int.toNat_of_nonneg h0] at this
theorem cutD_mem {ds : List PyData} {lo hi : Option Int} {d : PyData} (h : d ∈ cutD ds lo hi) : d ∈ ds := List.mem_of_mem_drop (List.mem_of_mem_take h)
theorem cutD_len {ds : List PyData} {lo hi : Option Int} : (cutD ds lo hi).length ≤ ds.length := by
  unfold cutD
  rw [List.length_take, List.length_drop]
  omega
theorem lcL_get {f : PyData → Env → Out (Option PyData × Env)} {ρ : Env} : ∀ (xs : List PyData) (h : Nat → PyData), (∀ i d, xs[i]? = some d → f d ρ = .ok (some (h i), ρ)) → lcL f xs ρ = .ok ((List.range xs.length).map h, ρ)
  | [], _, _ => rfl
  | x :: xs, h, hf => by
    show (f x ρ).bind _ = _
    rw [hf 0 x rfl, ok_bind, lcL_get xs (fun i => h (i + 1)) fun i d e => hf (i + 1) d (by simpa using e)]
    rw [List.length_cons, List.range_succ_eq_map, List.map_cons, List.map_map]
    rfl
theorem enum_get {ds : List PyData} {i : Nat} {d : PyData} (h : (pairUp (rngD 0 ds.length) ds)[i]? = some d) : ∃ x, ds[i]? = some x ∧ d = .tuple [.int (i : Nat), x] := by
  obtain ⟨x, y, e1, e2, e3⟩ := pairUp_get h
  obtain ⟨h1, h2⟩ := rngD_get e1
  subst e3 h2
  exact ⟨y, e2, by simp⟩
theorem enum_len (ds : List PyData) : (pairUp (rngD 0 ds.length) ds).length = ds.length := by
  have e2 : (rngD 0 ds.length).length = ds.length := by rw [rngD_map]; simp
  rw [pairUp_len, e2, Nat.min_self]
end Dn

/-! Den33: data that repr can show, whatever it holds. -/
namespace Dn
open PySem PySem.Spec L2
open PyProof.Rows hiding St
/-- data that repr can show -/
structure Sn (k w : Nat) (d : PyData) : Prop where
  dep : d.depth ≤ k
  rd : rdB d = true
  sh : d.showable = true
  wt : wt d ≤ w
def snB (k w : Nat) (d : PyData) : Bool := decide (d.depth ≤ k) && (rdB d && (d.showable && decide (wt d ≤ w)))
theorem sn_of {k w : Nat} {d : PyData} (h : snB k w d = true) : Sn k w d := by
  unfold snB at h
  simp only [Bool.and_eq_true, decide_eq_true_eq] at h
  exact ⟨h.1, h.2.1, h.2.2.1, h.2.2.2⟩
theorem Sn.mono {k w k' w' : Nat} {d : PyData} (h : Sn k w d) (h1 : k ≤ k') (h2 : w ≤ w') : Sn k' w' d := ⟨Nat.le_trans h.dep h1, h.rd, h.sh, Nat.le_trans h.wt h2⟩
theorem Sn.repr {k w : Nat} {d : PyData} (h : Sn k w d) (h1 : k ≤ 64) (h2 : w ≤ 16000000) : reprOk d = true := reprOk_rd (Nat.le_trans h.dep h1) h.rd h.sh (Nat.le_trans h.wt h2)
theorem sn_all {k w : Nat} : ∀ ds : List PyData, (∀ d ∈ ds, Sn k w d) → PyData.depthAll ds ≤ k ∧ rdAll ds = true ∧ PyData.showableAll ds = true ∧ wtAll ds ≤ (w + 2) * ds.length
  | [], _ => ⟨by simp [PyData.depthAll], by simp [rdAll], by simp [PyData.showableAll], by simp [wtAll]⟩
  | d :: ds, h => by
    obtain ⟨a1, a2, a4, a5⟩ := sn_all ds fun x hx => h x (List.mem_cons_of_mem _ hx)
    have b := h d List.mem_cons_self
    refine ⟨?_, ?_, ?_, ?_⟩
    · unfold PyData.depthAll
      exact Nat.max_le.mpr ⟨b.dep, a1⟩
    · unfold rdAll
      rw [b.rd, a2]
      rfl
    · unfold PyData.showableAll
      rw [b.sh, a4]
      rfl
    · unfold wtAll
      have := b.wt
      rw [List.length_cons, Nat.mul_succ]
      omega
theorem Sn.tup {k w : Nat} {ds : List PyData} (h : ∀ d ∈ ds, Sn k w d) {k' w' : Nat} (h1 : k + 1 ≤ k') (h2 : (w + 2) * ds.length + 10 ≤ w') : Sn k' w' (.tuple ds) := by
  obtain ⟨a1, a2, a4, a5⟩ := sn_all ds h
  exact ⟨by unfold PyData.depth; omega, by unfold rdB; exact a2, by unfold PyData.showable; exact a4, by unfold Dn.wt; omega⟩
theorem Sn.lst {k w : Nat} {ds : List PyData} (h : ∀ d ∈ ds, Sn k w d) {k' w' : Nat} (h1 : k + 1 ≤ k') (h2 : (w + 2) * ds.length + 10 ≤ w') : Sn k' w' (.list ds) := by
  obtain ⟨a1, a2, a4, a5⟩ := sn_all ds h
  exact ⟨by unfold PyData.depth; omega, by unfold rdB; exact a2, by unfold PyData.showable; exact a4, by unfold Dn.wt; omega⟩
set_option exponentiation.threshold 3000 in
theorem Sn.int {n : Int} {k w : Nat} (h : n.natAbs < 2 ^ 100) (hw : 2000 ≤ w) : Sn k w (.int n) := by
  have : n.natAbs.log2 < 1920 := PySem.Flt.log2_lt_of (k := 1920) (by decide) (Nat.lt_of_lt_of_le h (Nat.pow_le_pow_right (by decide) (by decide)))
  refine ⟨by simp [PyData.depth], by simp [rdB], by simpa [PyData.showable] using this, by simpa [Dn.wt] using hw⟩
theorem Sn.str {x : Str} {k w : Nat} (h : (reprText x).length ≤ w) : Sn k w (.str x) := ⟨by simp [PyData.depth], by simp [rdB], by simp [PyData.showable], by simpa [Dn.wt] using h⟩
theorem Sn.non {k w : Nat} (h : 10 ≤ w) : Sn k w .none := ⟨by simp [PyData.depth], by simp [rdB], by simp [PyData.showable], by simpa [Dn.wt] using h⟩
theorem Sn.bool {b : Bool} {k w : Nat} (h : 10 ≤ w) : Sn k w (.bool b) := ⟨by simp [PyData.depth], by simp [rdB], by simp [PyData.showable], by simpa [Dn.wt] using h⟩
theorem lcL_ea {f : PyData → Env → Out (Option PyData × Env)} {ρ : Env} (h : PyData → PyData) : ∀ (xs : List PyData), (∀ x ∈ xs, f x ρ = .ok (some (h x), ρ)) → lcL f xs ρ = .ok (xs.map h, ρ)
  | [], _ => rfl
  | x :: xs, hf => by
    show (f x ρ).bind _ = _
    rw [hf x List.mem_cons_self, ok_bind, lcL_ea h xs fun y hy => hf y (List.mem_cons_of_mem _ hy)]
    rfl
end Dn

/-! Den34: x[::-1] of a list or a tuple. -/
namespace Dn
open PySem PySem.Spec L2
open PyProof.Rows hiding St
section
variable {prog : Program} {w : World} {A : Around} {E : Value → Shared → Prop} {s : Shared}
theorem places_rev (n : Nat) : Builtin.Slice.slicePlaces ((n : Int) - 1) (-1) (-1) = n := by
  unfold Builtin.Slice.slicePlaces
  rw [if_neg (by decide)]
  by_cases h : (n : Int) - 1 > -1
  · rw [if_pos h]
    have : (n : Int) - 1 - -1 - 1 = (n : Int) - 1 := by omega
    rw [this, show (-(-1 : Int)) = 1 from rfl, Int.ediv_one]
    omega
  · rw [if_neg h]
    omega
theorem part_none {v : Value} (p : IsPart v none) : v = .none := by cases p; rfl
theorem sliceApplied_rev {sl : Addr} {vs : Value} {n : Nat} {Q : Int × Int × Nat → Shared → Prop} (hs : s.heap.IsSliceOf sl .none .none vs) (ps : IsPart vs (some (-1)))
    (h : Q ((n : Int) - 1, -1, n) s) : wpAny (model prog w) A (Builtin.Slice.sliceApplied (.ref sl) (pure (n : Int))) Q E s := by
  obtain ⟨os, hos, hcs, hds⟩ := id hs
  unfold Builtin.Slice.sliceApplied Builtin.Slice.sliceFields
  refine wpAny_bind (wpAny_bind (wpAny_field hos hds (x := .none) rfl (wpAny_bind (wpAny_field hos hds (x := .none) rfl (wpAny_bind (wpAny_field hos hds (x := vs) rfl (wpAny_pure ?_)))))))
  refine wpAny_bind (HT.slicePart_ ps ?_)
  show wpAny _ _ (if ((-1 : Int) == 0) = true then _ else _) _ _ s
  rw [if_neg (by decide)]
  refine wpAny_bind (HT.slicePart_ .none (wpAny_bind (HT.slicePart_ .none (wpAny_bind (wpAny_pure ?_)))))
  show wpAny _ _ (match Builtin.Slice.sliceAdjust none none (-1) (n : Int) with | (lo, hi) => pure (lo, (-1 : Int), Builtin.Slice.slicePlaces lo hi (-1))) _ _ s
  show wpAny _ _ (pure ((n : Int) - 1, (-1 : Int), Builtin.Slice.slicePlaces ((n : Int) - 1) (-1) (-1))) _ _ s
  rw [places_rev]
  exact wpAny_pure h
theorem fm_range {α : Type} : ∀ r : List α, (List.range r.length).filterMap (fun m => r[m]?) = r
  | [] => rfl
  | a :: r => by
    rw [List.length_cons, List.range_succ_eq_map, List.filterMap_cons, List.filterMap_map]
    have : ((fun m => (a :: r)[m]?) ∘ Nat.succ) = fun m => r[m]? := by funext m; simp
    rw [this, fm_range r]
    simp
theorem fm_congr {α β : Type} {f g : α → Option β} : ∀ l : List α, (∀ x ∈ l, f x = g x) → l.filterMap f = l.filterMap g
  | [], _ => rfl
  | a :: l, h => by
    rw [List.filterMap_cons, List.filterMap_cons, h a List.mem_cons_self, fm_congr l fun x hx => h x (List.mem_cons_of_mem _ hx)]
theorem pick_rev (xs : Array Value) : ((List.range xs.size).filterMap fun (m : Nat) => xs[(((xs.size : Int) - 1) + (m : Int) * (-1)).toNat]?).toArray = xs.toList.reverse.toArray := by
  congr 1
  obtain ⟨l⟩ := xs
  have e : ∀ m ∈ List.range l.length, (l.toArray[(((l.length : Int) - 1) + (m : Int) * (-1)).toNat]?) = l.reverse[m]? := fun m hm => by
    have hm := List.mem_range.mp hm
    rw [List.getElem?_reverse hm]
    have : (((l.length : Int) - 1) + (m : Int) * (-1)).toNat = l.length - 1 - m := by omega
    rw [this]
    simp
  show (List.range l.length).filterMap (fun m : Nat => l.toArray[(((l.length : Int) - 1) + (m : Int) * (-1)).toNat]?) = l.reverse
  rw [fm_congr _ e]
  have h := List.length_reverse (as := l)
  generalize l.reverse = r at h
  rw [← h]
  exact fm_range r
theorem getItem_tuple_rev {t sl : Addr} {items : Array Value} {vl vu vs : Value} {Q : Value → Shared → Prop} (ht : IsTup s.heap t items) (hs : s.heap.IsSliceOf sl vl vu vs) (pl : IsPart vl none) (pu : IsPart vu none) (ps : IsPart vs (some (-1)))
    (h : Q (.ref s.heap.objs.size) { s with heap := s.heap.push { cls := .type "tuple", data := .seq items.toList.reverse.toArray } })
    (hsz : items.size ≤ sizeLine) : wpAny (model prog w) A (getItem (.ref t) (.ref sl)) Q E s := by
  cases part_none pl
  cases part_none pu
  have htake : sizeOk (.seq items.toList.reverse.toArray) := by
    show items.toList.reverse.toArray.size ≤ sizeLine
    rw [List.size_toArray, List.length_reverse, Array.length_toList]
    omega
  obtain ⟨os, hos, hcs, hds⟩ := id hs
  have hTs : s.TypeIs (.ref sl) "slice" := ⟨os, hos, hcs⟩
  unfold getItem
  try with_reducible refine wpAny_holding ?_
  first | refine wpAny_bind (wpAny_pure ?_) | skip
  refine wpAny_bind (wpAny_sequenceKey ht.typeIs (by decide) ?_)
  refine wpAny_bind (wpAny_callSpecial?_slot (name := Str.ofString "__getitem__") ht.typeIs PyProof.Rows.slot_tuple_getitem
    (wpAny_call_entry PyProof.Rows.slot_tuple_getitem ht.typeIs entry_tuple_getitem ?_ (args_tuple_getitem _ _)))
  show wpAny _ _ (Builtin.Tuple.tupleItemsOf (.ref t) >>= _) _ _ s
  refine wpAny_bind (tupleItemsOf_ ht ?_)
  refine wpAny_bind (wpAny_typeOf hTs ?_)
  rw [if_pos (by decide)]
  refine wpAny_bind (sliceApplied_rev hs ps ?_)
  have hno : ¬ ((((items.size : Int) - 1) == 0 && (-1 : Int) == 1 && items.size == items.size) = true) := by
    intro q
    rw [Bool.and_eq_true, Bool.and_eq_true] at q
    exact absurd q.1.2 (by decide)
  show wpAny _ _ (if (((items.size : Int) - 1) == 0 && (-1 : Int) == 1 && items.size == items.size) = true then _ else _) _ _ s
  rw [if_neg hno, pick_rev]
  first
    | exact wpAny_bind (m := Builtin.Tuple.tupleExact _) (wpAny_newObj_type (wpAny_pure ⟨_, rfl, wpAny_pure h⟩) htake)
    | exact wpAny_bind (m := Builtin.Tuple.tupleExact _) (wpAny_newObj_type (wpAny_bind (wpAny_pure (wpAny_pure ⟨_, rfl, wpAny_pure h⟩))) htake)
    | exact wpAny_bind (wpAny_bind (m := Builtin.Tuple.tupleExact _) (wpAny_newObj_type (wpAny_pure (wpAny_pure ⟨_, rfl, wpAny_pure h⟩)) htake))
    | exact wpAny_bind (wpAny_bind (m := Builtin.Tuple.tupleExact _) (wpAny_newObj_type (wpAny_pure ⟨_, rfl, wpAny_pure h⟩) htake))
end
def tRevA (K : PySem.W.Frag) (te : TE) : TE := fun σ H Q => te σ H fun x H1 => ∃ a xs, x = .ref a ∧ ((SqL K H1 a xs ∧ ∀ p, H1 p = none → Q (.ref p) (upd H1 p (.lst xs.reverse))) ∨ (SqT K H1 a xs ∧ ∀ p o, H1 p = none → o.dict = none → Q (.ref p) (upd H1 p (.frz o (.tup xs.reverse)))))
theorem pe_revA {X : Cx} {e : Expr} {te : TE} {k : Nat} {p1 p2 p3 pos : Pos} (he : PE X e te) : PE X (.Subscript e (.Slice none none (some (.UnaryOp .USub (.Constant (.int 1) k p1) p2)) p3) pos) (tRevA X.K te) := by
  refine ⟨fun pins s σ H Q I h => ?_⟩
  refine Subscript_ (thn (he.run pins s σ H _ I h) fun v s1 ⟨x, H1, I1, r1, q1⟩ => ?_)
  obtain ⟨a, xs, ex, q⟩ := q1
  subst ex
  cases r1
  have hst : PO X (some (.UnaryOp .USub (.Constant (.int 1) k p1) p2)) (tPart (tUn (rU fun i => .int (-i)) (tC (.int 1)))) := po_some (pe_un un_neg pe_int)
  refine wpAny_Slice (thn (po_none.run pins s1 σ H1 (fun o H2 => o = none ∧ H2 = H1) I1 ⟨rfl, rfl⟩) fun vl s2 ⟨l, H2, I2, pl, el, e2⟩ => ?_)
  subst el e2
  refine thn (po_none.run pins s2 σ H2 (fun o H3 => o = none ∧ H3 = H2) I2 ⟨rfl, rfl⟩) fun vu s3 ⟨u, H3, I3, pu, eu, e3⟩ => ?_
  subst eu e3
  refine thn (hst.run pins s3 σ H3 (fun o H4 => o = some (-1) ∧ H4 = H3) I3 ⟨1, rfl, -1, rfl, rfl, rfl⟩) fun vs s4 ⟨o, H4, I4, ps, eo, e4⟩ => ?_
  subst eo e4
  have I5 : Inv X pins σ H4 { s4 with heap := s4.heap.push { cls := .type "slice", data := .fields #[vl, vu, vs] } } := I4.kept (t' := s4.toks) fun b ob q => Heap.get?_push_of_some _ q
  show wpAny (model X.prog X.w) X.A (subscriptTail e (.Slice none none (some (.UnaryOp .USub (.Constant (.int 1) k p1) p2)) p3) (.ref a) (.ref s4.heap.objs.size)) (EP X pins σ Q) X.xe { s4 with heap := s4.heap.push { cls := .type "slice", data := .fields #[vl, vu, vs] } }
  rcases q with ⟨hx, q⟩ | ⟨hx, q⟩
  · obtain ⟨its, r, ht, hz⟩ := I5.list hx
    have hlen := r.length
    refine tail_any (ops := [.ref a, .ref s4.heap.objs.size]) ht.isList.typeIs (PySem.slot_list_getitem.lookup) ?_ (by with_unfolding_all rfl)
    refine wpAny_getItem_list_slice ht.isList (Heap.IsSliceOf.new _ vl vu vs) pl pu ps (by decide) ?_ (by rw [List.size_toArray]; omega)
    rw [PySem.W.krv_pick]
    refine ⟨.ref _, _, I5.laid (t' := s4.toks) (o := .lst xs.reverse) (fun b ob q => Heap.get?_push_of_some _ q) (Nat.le_refl _) ?_, rfl, q _ (I5.hok.fresh (Nat.le_refl _))⟩
    exact ⟨by rw [List.length_reverse]; exact hz, _, 0, r.reverse, Heap.get?_push_size _ rfl⟩
  · obtain ⟨its, r, ht, hz⟩ := I5.tuple hx
    have hlen := r.length
    refine tail_any (ops := [.ref a, .ref s4.heap.objs.size]) ht.typeIs (PyProof.Rows.slot_tuple_getitem.lookup) ?_ (by with_unfolding_all rfl)
    refine getItem_tuple_rev ht (Heap.IsSliceOf.new _ vl vu vs) pl pu ps ?_ (by rw [List.size_toArray]; omega)
    exact ⟨.ref _, _, laid_tup (t' := s4.toks) I5 r.reverse (by rw [List.length_reverse]; exact hz), rfl, q _ _ (I5.hok.fresh (Nat.le_refl _)) rfl⟩
def pRev : PyData → Option Slot
  | .list ds => some (.own ds.reverse)
  | .tuple ds => some (.val (.tuple ds.reverse))
  | _ => none
def dRevS (x : DenO) : Den := fun Φ ρ => (x Φ ρ).bind fun y => (opt (pRev y.1)).bind fun s => .ok (s, y.2)
section
variable {Γ : Ctx} {a : Expr} {x : DenO} {p m : Bool} {k : Nat} {p1 p2 p3 pos : Pos}
theorem snd_revS (ha : SndO Γ a x p m) : SndE Γ (.Subscript a (.Slice none none (some (.UnaryOp .USub (.Constant (.int 1) k p1) p2)) p3) pos) (dRevS x) p := by
  intro X Φ B F H ρ σ Q W C hK T R hq
  refine PE.w (pe_revA pe_w) ?_
  refine ha X Φ B F H ρ σ _ W C hK T R (wp_mono (wp_bind (c := x Φ ρ) hq) (fun y q v F1 H1 R1 e1 e2 hv => ?_) fun _ q => q)
  obtain ⟨y, ρ1⟩ := y
  have hb := Vp.bp (m := m) hv
  cases y with
  | list ds =>
    obtain ⟨l, vs, rfl, k1, k2⟩ := hb.lst R1.kept.ex
    exact ⟨l, vs, rfl, .inl ⟨.inl (.inl k1), fun t ht => pq_of R1 e1 e2 q _ _ ht (RpAll.rev k2)⟩⟩
  | tuple ds =>
    obtain ⟨l, o, vs, rfl, k1, k0, k2⟩ := hb.tup
    exact ⟨l, vs, rfl, .inr ⟨.inl (.inr ⟨_, R1.kept.ex _ _ k1⟩), fun t o ht ho => pq_tup R1.kept.ex (pq_of R1 e1 e2 q) ht ho (RpAll.rev k2)⟩⟩
  | _ => exact q.elim
end
def kRv (ρ : Env) : Option Slot → Out (Slot × Env) := fun o => (opt o).bind fun s => .ok (s, ρ)
def kRev : PyData × Env → Out (Slot × Env) := fun y => kRv y.2 (pRev y.1)
section
variable {x : DenO} {Φ : Calls} {ρ : Env} {ds : List PyData}
@[simp] theorem x_dRevS : dRevS x Φ ρ = (x Φ ρ).bind kRev := id rfl
@[simp] theorem x_dRevS1 : kRev (.list ds, ρ) = .ok (.own ds.reverse, ρ) := id rfl
@[simp] theorem x_dRevS2 : kRev (.tuple ds, ρ) = .ok (.val (.tuple ds.reverse), ρ) := id rfl
end
end Dn

/-! Den35: own dicts (keys whole numbers and texts, or tuples of whole numbers): made, read, stored, walked. -/
namespace Dn
open PySem PySem.Spec L2
open PyProof.Rows hiding St

/-! ### tables as data -/
def kEq : PyData → PyData → Bool
  | .int i, .int j => decide (i = j)
  | .str a, .str b => decide (a = b)
  | .tuple as, .tuple bs => match numsOf as, numsOf bs with
    | some x, some y => decide (x = y)
    | _, _ => false
  | _, _ => false
def lookD (es : List (PyData × PyData)) (k : PyData) : Option PyData := (es.find? fun e => kEq e.1 k).map (·.2)
def putD (es : List (PyData × PyData)) (k v : PyData) : List (PyData × PyData) := if (lookD es k).isSome = true then es.map (fun e => if kEq e.1 k = true then (e.1, v) else e) else es ++ [(k, v)]
def keyK : PyData → Option Key
  | .int i => some (.inl i)
  | .str s => some (.inr s)
  | _ => none
def keyT : PyData → Option (List Int)
  | .tuple ds => numsOf ds
  | _ => none
theorem keyK_of {d : PyData} {k : Key} (h : keyK d = some k) : d = keyD k := by
  cases d <;> first | (cases h; rfl) | cases h
theorem numsOf_inv : ∀ {ds : List PyData} {ns : List Int}, numsOf ds = some ns → ds = nsD ns
  | [], _, h => by cases h; rfl
  | d :: ds, ns, h => by
    cases d with
    | int i =>
      obtain ⟨ms, e1, e2⟩ := Option.map_eq_some_iff.mp (show (numsOf ds).map (i :: ·) = some ns from h)
      subst e2
      rw [numsOf_inv e1]
      rfl
    | _ => cases h
theorem keyT_of {d : PyData} {k : List Int} (h : keyT d = some k) : d = .tuple (k.map .int) := by
  cases d with
  | tuple ds => rw [numsOf_inv (show numsOf ds = some k from h)]
  | _ => cases h
theorem kEq_K (a b : Key) : kEq (keyD a) (keyD b) = decide (a = b) := by
  cases a <;> cases b <;> simp [kEq, keyD]
theorem kEq_T (a b : List Int) : kEq (.tuple (a.map .int)) (.tuple (b.map .int)) = decide (a = b) := by
  show (match numsOf (nsD a), numsOf (nsD b) with
    | some x, some y => decide (x = y)
    | _, _ => false) = _
  rw [numsOf_map, numsOf_map]
theorem kEq_pr (p q : Int × Int) : kEq (prD p) (prD q) = decide (p = q) := by
  have := kEq_T [p.1, p.2] [q.1, q.2]
  rw [show prD p = .tuple ([p.1, p.2].map .int) from rfl, show prD q = .tuple ([q.1, q.2].map .int) from rfl, this, Bool.eq_iff_iff]
  simp [Prod.ext_iff]
/-- what is found stands for what is found -/
def LookR (K : PySem.W.Frag) (F : Hp) : Option PyData → Option V → Prop
  | none, none => True
  | some d, some v => Rp K F d v
  | _, _ => False
def valI (kvs : List (List Int × Addr × V)) (k : List Int) : Option V := (kvs.find? fun x => decide (x.1 = k)).map (·.2.2)
def putI (kvs : List (List Int × Addr × V)) (k : List Int) (b : Addr) (v : V) : List (List Int × Addr × V) := if (valI kvs k).isSome = true then kvs.map (fun x => if x.1 = k then (x.1, x.2.1, v) else x) else kvs ++ [(k, b, v)]
section
variable {K : PySem.W.Frag} {F H : Hp}
theorem LookR.some_eq {o : Option PyData} {r : Option V} (h : LookR K F o r) : o.isSome = r.isSome := by
  cases o <;> cases r <;> first | rfl | exact h.elim
theorem look_K : ∀ {es : List (PyData × PyData)} {kvs : List (Key × V)} (k : Key), RpK K F es kvs → LookR K F (lookD es (keyD k)) (valV kvs k)
  | _, _, _, .nil => trivial
  | _, _, k, .cons (k := j) (v := v) (vs := vs) (d := d) (ds := ds) h1 h2 => by
    have e := kEq_K j k
    by_cases c : j = k
    · subst c
      have l : lookD ((keyD j, d) :: ds) (keyD j) = some d := by simp [lookD, List.find?_cons, e]
      rw [l, valV_pos (p := (j, v)) rfl]
      exact h1
    · have l : lookD ((keyD j, d) :: ds) (keyD k) = lookD ds (keyD k) := by simp [lookD, List.find?_cons, e, c]
      rw [l, valV_neg (p := (j, v)) c]
      exact look_K k h2
theorem map_K {k : Key} {d : PyData} {v : V} (r : Rp K F d v) : ∀ {es : List (PyData × PyData)} {kvs : List (Key × V)}, RpK K F es kvs → RpK K F (es.map fun e => if kEq e.1 (keyD k) = true then (e.1, d) else e) (kvs.map fun kv => if kv.1 = k then (kv.1, v) else kv)
  | _, _, .nil => .nil
  | _, _, .cons (k := j) h1 h2 => by
    rw [List.map_cons, List.map_cons]
    have e := kEq_K j k
    by_cases c : j = k
    · subst c
      simp only [e, decide_true, if_true]
      exact .cons r (map_K r h2)
    · simp only [e, c, decide_false, if_false, Bool.false_eq_true]
      exact .cons h1 (map_K r h2)
theorem snoc_K {k : Key} {d : PyData} {v : V} (r : Rp K F d v) : ∀ {es : List (PyData × PyData)} {kvs : List (Key × V)}, RpK K F es kvs → RpK K F (es ++ [(keyD k, d)]) (kvs ++ [(k, v)])
  | _, _, .nil => .cons r .nil
  | _, _, .cons h1 h2 => .cons h1 (snoc_K r h2)
theorem put_K {es : List (PyData × PyData)} {kvs : List (Key × V)} {k : Key} {d : PyData} {v : V} (r : Rp K F d v) (h : RpK K F es kvs) : RpK K F (putD es (keyD k) d) (putK kvs k v) := by
  unfold putD putK
  rw [(look_K k h).some_eq, valV_any]
  by_cases c : (valV kvs k).isSome = true
  · rw [if_pos c, if_pos c]
    exact map_K r h
  · rw [if_neg c, if_neg c]
    exact snoc_K r h
theorem look_T : ∀ {es : List (PyData × PyData)} {kvs : List (List Int × Addr × V)} (k : List Int), RpI K F es kvs → LookR K F (lookD es (.tuple (k.map .int))) (valI kvs k)
  | _, _, _, .nil => trivial
  | _, _, k, .cons (k := j) (b := b) (v := v) (vs := vs) (d := d) (ds := ds) h0 h1 h2 => by
    have e := kEq_T j k
    by_cases c : j = k
    · subst c
      have l : lookD ((.tuple (j.map .int), d) :: ds) (.tuple (j.map .int)) = some d := by simp only [lookD, List.find?_cons, e, decide_true, Option.map_some]
      have l2 : valI ((j, b, v) :: vs) j = some v := by simp only [valI, List.find?_cons, decide_true, Option.map_some]
      rw [l, l2]
      exact h1
    · have l : lookD ((.tuple (j.map .int), d) :: ds) (.tuple (k.map .int)) = lookD ds (.tuple (k.map .int)) := by simp only [lookD, List.find?_cons, e, c, decide_false]
      have l2 : valI ((j, b, v) :: vs) k = valI vs k := by simp only [valI, List.find?_cons, c, decide_false]
      rw [l, l2]
      exact look_T k h2
theorem map_T {k : List Int} {d : PyData} {v : V} (r : Rp K F d v) : ∀ {es : List (PyData × PyData)} {kvs : List (List Int × Addr × V)}, RpI K F es kvs → RpI K F (es.map fun e => if kEq e.1 (.tuple (k.map .int)) = true then (e.1, d) else e) (kvs.map fun x => if x.1 = k then (x.1, x.2.1, v) else x)
  | _, _, .nil => .nil
  | _, _, .cons (k := j) h0 h1 h2 => by
    rw [List.map_cons, List.map_cons]
    have e := kEq_T j k
    by_cases c : j = k
    · subst c
      simp only [e, decide_true, if_true]
      exact .cons h0 r (map_T r h2)
    · simp only [e, c, decide_false, if_false, Bool.false_eq_true]
      exact .cons h0 h1 (map_T r h2)
theorem snoc_T {k : List Int} {b : Addr} {d : PyData} {v : V} (r0 : Rp K F (.tuple (k.map .int)) (.ref b)) (r : Rp K F d v) : ∀ {es : List (PyData × PyData)} {kvs : List (List Int × Addr × V)}, RpI K F es kvs → RpI K F (es ++ [(.tuple (k.map .int), d)]) (kvs ++ [(k, b, v)])
  | _, _, .nil => .cons r0 r .nil
  | _, _, .cons h0 h1 h2 => .cons h0 h1 (snoc_T r0 r h2)
theorem put_T {es : List (PyData × PyData)} {kvs : List (List Int × Addr × V)} {k : List Int} {b : Addr} {d : PyData} {v : V} (r0 : Rp K F (.tuple (k.map .int)) (.ref b)) (r : Rp K F d v) (h : RpI K F es kvs) : RpI K F (putD es (.tuple (k.map .int)) d) (putI kvs k b v) := by
  unfold putD putI
  rw [(look_T k h).some_eq]
  by_cases c : (valI kvs k).isSome = true
  · rw [if_pos c, if_pos c]
    exact map_T r h
  · rw [if_neg c, if_neg c]
    exact snoc_T r0 r h
theorem putI_len (kvs : List (List Int × Addr × V)) (k : List Int) (b : Addr) (v : V) : (putI kvs k b v).length ≤ kvs.length + 1 := by
  unfold putI
  split
  · rw [List.length_map]; omega
  · rw [List.length_append, List.length_cons, List.length_nil]; omega
theorem rpK_len : ∀ {es : List (PyData × PyData)} {kvs : List (Key × V)}, RpK K F es kvs → es.length = kvs.length
  | _, _, .nil => rfl
  | _, _, .cons _ h2 => congrArg Nat.succ (rpK_len h2)
theorem rpI_len : ∀ {es : List (PyData × PyData)} {kvs : List (List Int × Addr × V)}, RpI K F es kvs → es.length = kvs.length
  | _, _, .nil => rfl
  | _, _, .cons _ _ h2 => congrArg Nat.succ (rpI_len h2)
end

/-! ### the object behind -/
abbrev PtI : List (List Int × Addr × V) → List (List Int × Addr × Value) → Prop := Paired fun (p : List Int × Addr × V) (q : List Int × Addr × Value) => p.1 = q.1 ∧ p.2.1 = q.2.1 ∧ RelV p.2.2 q.2.2
theorem PtI.look {kvs : List (List Int × Addr × V)} {xs : List (List Int × Addr × Value)} (r : PtI kvs xs) (k : List Int) : RelO (valI kvs k) ((atKey xs k).map (·.2)) := by
  induction r with
  | nil => exact trivial
  | @cons p q ps qs h t ih =>
    obtain ⟨h1, _, h2⟩ := h
    by_cases c : p.1 = k
    · have l2 : valI (p :: ps) k = some p.2.2 := by simp only [valI, List.find?_cons, c, decide_true, Option.map_some]
      have c' : q.1 = k := h1.symm.trans c
      have l3 : atKey (q :: qs) k = some q.2 := by simp only [atKey, List.find?_cons, c', decide_true, Option.map_some]
      rw [l2, l3]
      exact h2
    · have l2 : valI (p :: ps) k = valI ps k := by simp only [valI, List.find?_cons, c, decide_false]
      have c' : ¬ q.1 = k := fun z => c (h1.trans z)
      have l3 : atKey (q :: qs) k = atKey qs k := by simp only [atKey, List.find?_cons, c', decide_false]
      rw [l2, l3]
      exact ih
theorem PtI.put {kvs : List (List Int × Addr × V)} {xs : List (List Int × Addr × Value)} (r : PtI kvs xs) (k : List Int) {b : Addr} {v : V} {u : Value} (rv : RelV v u) : PtI (putI kvs k b v) (storedH xs k b u) := by
  have e : (valI kvs k).isSome = (atKey xs k).isSome := by rw [(r.look k).isSome_eq, Option.isSome_map]
  unfold putI storedH
  rw [e]
  by_cases c : (atKey xs k).isSome = true
  · rw [if_pos c, if_pos c]
    clear e c
    induction r with
    | nil => exact .nil
    | @cons p q ps qs h t ih =>
      rw [List.map_cons, List.map_cons]
      refine .cons ?_ ih
      obtain ⟨h1, h2, h3⟩ := h
      unfold putAt
      by_cases c : p.1 = k
      · rw [if_pos c, if_pos (h1.symm.trans c)]
        exact ⟨h1, h2, rv⟩
      · rw [if_neg c, if_neg fun z => c (h1.trans z)]
        exact ⟨h1, h2, h3⟩
  · rw [if_neg c, if_neg c]
    exact Paired.snoc r ⟨rfl, rfl, rv⟩
section
variable {X : Cx} {pins : List (Addr × Obj)} {σ : St} {H : Hp} {s : Shared} {a b c : Addr} {kvs : List (List Int × Addr × V)} {es : List (PyData × PyData)} {k : List Int}
theorem items_int {P : Program} {w : World} : ∀ {ks : List Int} {us : List Value}, Vals (ks.map V.int) us → ItemsAre (intKind P w) ks us
  | [], _, r => by
    rw [List.map_nil] at r
    cases r
    exact .nil
  | k :: ks, _, r => by
    rw [List.map_cons] at r
    cases r with
    | cons h t =>
      obtain ⟨tk, e⟩ := (show ∃ t, _ = Value.int k t from h)
      subst e
      exact .cons (show Value.isInt k (.int k tk) = true by simp [Value.isInt]) (items_int t)
theorem rp_ints {K : PySem.W.Frag} {F : Hp} : ∀ {ks : List Int} {vs : List V}, RpAll K F (ks.map .int) vs → vs = ks.map V.int
  | [], _, h => by
    rw [List.map_nil] at h
    cases h
    rfl
  | k :: ks, _, h => by
    rw [List.map_cons] at h
    cases h with
    | cons h1 h2 =>
      cases h1
      rw [rp_ints h2]
      rfl
/-- a frozen tuple of whole numbers is a key -/
theorem keyI {K : PySem.W.Frag} (I : Inv X pins σ H s) (r : Rp K H (.tuple (k.map .int)) (.ref c)) : (tupleKind (intKind X.prog X.w)).is s.heap k c := by
  cases r with
  | tup h1 _ h3 =>
    have e := rp_ints h3
    subst e
    obtain ⟨_, _, its, rv, ob, g1, g2, n, g3⟩ := (show ObjOk X.prog X.w H s.heap c (.frz _ (.tup (k.map V.int))) from I.hok c _ h1)
    exact ⟨ob, its.toArray, n, g1, g2, g3, by simpa using items_int rv⟩
theorem RpI.keys {K : PySem.W.Frag} (I : Inv X pins σ H s) : ∀ {es : List (PyData × PyData)} {kvs : List (List Int × Addr × V)} {xs : List (List Int × Addr × Value)}, RpI K H es kvs → PtI kvs xs → ∀ x ∈ xs, (tupleKind (intKind X.prog X.w)).is s.heap x.1 x.2.1
  | _, _, _, .nil, q, x, hx => by
    cases q
    exact absurd hx List.not_mem_nil
  | _, _, _, .cons h0 _ h2, .cons z t, x, hx => by
    rcases List.mem_cons.mp hx with e | hx
    · subst e
      rw [← z.1, ← z.2.1]
      exact keyI I h0
    · exact RpI.keys I h2 t x hx
theorem tab_dict {K : PySem.W.Frag} (I : Inv X pins σ H s) (e : H a = some (tabO b kvs)) (r : RpI K H es kvs) : kvs.length ≤ sizeLine ∧ (a == sysModules) = false ∧ ∃ xs, PtI kvs xs ∧ s.heap.DictOfH (tupleKind (intKind X.prog X.w)) a xs := by
  obtain ⟨_, z, y, xs, q, o, en, ep, g1, g2, g3, g4, g5⟩ := tabO_of (I.hok a _ e)
  exact ⟨z, y, xs, q, o, en, ep, g1, g2, g3, g4, r.keys I q, g5⟩
theorem tab_new {P : Program} {w : World} {h' : Heap} {H' : Hp} {xs : List (List Int × Addr × Value)} (z : kvs.length ≤ sizeLine) (y : (a == sysModules) = false) (q : PtI kvs xs) (dd : h'.DictOfH (tupleKind (intKind P w)) a xs) : ObjOk P w H' h' a (tabO a kvs) := by
  obtain ⟨o, en, ep, g1, g2, g3, g4, _, g5⟩ := dd
  exact tabO_ok ⟨z, y, xs, q, o, en, ep, g1, g2, g3, g4, g5⟩
/-- what stands at a key -/
def TGet (K : PySem.W.Frag) (H : Hp) (a : Addr) (y : V) (r : Option V) : Prop := DGet H a y r ∨ ∃ b kvs k c es, H a = some (tabO b kvs) ∧ y = .ref c ∧ RpI K H es kvs ∧ Rp K H (.tuple (k.map .int)) (.ref c) ∧ r = valI kvs k
variable {y v : V} {u w : Value} {r : Option V} {A : Around} {E : Value → Shared → Prop}
theorem t_getItem {Q : Value → Shared → Prop} (hu : A.units + 1 < cLine) (I : Inv X pins σ H s) (g : TGet X.K H a y (some v)) (ry : RelV y u) (h : ∀ z s', Inv X pins σ H s' → RelV v z → Q z s') : wpAny (model X.prog X.w) A (getItem (.ref a) u) Q E s := by
  rcases g with g | ⟨b, kvs, k, c, es, e, rfl, r1, r2, l⟩
  · exact d_getItem hu I g ry h
  · cases (show u = Value.ref c from ry)
    obtain ⟨_, _, xs, q, dd⟩ := tab_dict I e r1
    have lk := q.look k
    rw [← l] at lk
    obtain ⟨z, hz, rz⟩ := RelO.some_of (v := v) lk
    obtain ⟨p, hp, hp2⟩ := Option.map_eq_some_iff.mp hz
    refine wpAny_getItem_heap (tupleKind_room_in1 hu) (keyI I r2) dd hp ?_
    rw [hp2]
    exact h z _ (I.tok _) rz
theorem tb_in {Q : Value → Shared → Prop} (hu : A.units + 1 < cLine) (I : Inv X pins σ H s) (g : TGet X.K H a y r) (ry : RelV y u) (h : ∀ s', Inv X pins σ H s' → Q (.bool r.isSome) s') : wpAny (model X.prog X.w) A (compareOp .In u (.ref a)) Q E s := by
  rcases g with g | ⟨b, kvs, k, c, es, e, rfl, r1, r2, l⟩
  · exact d_in hu I g ry h
  · cases (show u = Value.ref c from ry)
    obtain ⟨_, hd, xs, q, dd⟩ := tab_dict I e r1
    refine wpAny_in_heap (tupleKind_room_in1 hu) (keyI I r2) hd dd ?_
    have z := (q.look k).isSome_eq
    rw [Option.isSome_map] at z
    rw [← z, ← l]
    exact h _ (I.tok _)
theorem tb_nin {Q : Value → Shared → Prop} (hu : A.units + 1 < cLine) (I : Inv X pins σ H s) (g : TGet X.K H a y r) (ry : RelV y u) (h : ∀ s', Inv X pins σ H s' → Q (.bool (!r.isSome)) s') : wpAny (model X.prog X.w) A (compareOp .NotIn u (.ref a)) Q E s := by
  rcases g with g | ⟨b, kvs, k, c, es, e, rfl, r1, r2, l⟩
  · exact d_notIn hu I g ry h
  · cases (show u = Value.ref c from ry)
    obtain ⟨_, hd, xs, q, dd⟩ := tab_dict I e r1
    refine wpAny_notIn_heap (tupleKind_room_in1 hu) (keyI I r2) hd dd ?_
    have z := (q.look k).isSome_eq
    rw [Option.isSome_map] at z
    rw [← z, ← l]
    exact h _ (I.tok _)
/-- the heap behind a store -/
def TPut (K : PySem.W.Frag) (H : Hp) (a : Addr) (y v : V) (H' : Hp) : Prop := DPut H a y v H' ∨ ∃ b kvs k c es, H a = some (tabO b kvs) ∧ y = .ref c ∧ RpI K H es kvs ∧ Rp K H (.tuple (k.map .int)) (.ref c) ∧ kvs.length < sizeLine ∧ H' = upd H a (tabO a (putI kvs k c v))
theorem t_setItem {H' : Hp} {Q : Unit → Shared → Prop} (hu : A.units + 1 < cLine) (I : Inv X pins σ H s) (g : TPut X.K H a y v H') (ry : RelV y u) (rv : RelV v w) (h : ∀ s', Inv X pins σ H' s' → Q () s') : wpAny (model X.prog X.w) A (setItem (.ref a) u w) Q E s := by
  rcases g with g | ⟨b, kvs, k, c, es, e, rfl, r1, r2, l, rfl⟩
  · exact d_setItem hu I g ry rv h
  · cases (show u = Value.ref c from ry)
    obtain ⟨z, hd, xs, q, dd⟩ := tab_dict I e r1
    have hz : xs.length ≤ sizeLine := by rw [← Paired.length q]; exact z
    have hl : (putI kvs k c v).length ≤ sizeLine := by
      have := putI_len kvs k c v
      omega
    refine wpAny_setItem_heap (hsz := hz) (tupleKind_room_in1 hu) (keyI I r2) dd fun h' dd' hs => h _ ?_
    have he : ∃ ob, h'.get? a = some ob := let ⟨ob, _, _, g1, _⟩ := dd'; ⟨ob, g1⟩
    exact d_write I (by rw [e]; exact trivial) hs he (tab_new hl hd (q.put k rv) dd')
end

/-! ### as rules -/
def rTGet (K : PySem.W.Frag) : R2 := fun x y H Q => ∃ a v, x = .ref a ∧ TGet K H a y (some v) ∧ Q v H
def rTIn (K : PySem.W.Frag) : R2 := fun y x H Q => ∃ a r, x = .ref a ∧ TGet K H a y r ∧ Q (.bl r.isSome) H
def rTNin (K : PySem.W.Frag) : R2 := fun y x H Q => ∃ a r, x = .ref a ∧ TGet K H a y r ∧ Q (.bl (!r.isSome)) H
def rTPut (K : PySem.W.Frag) : TSet := fun o i v H Q => ∃ a H', o = .ref a ∧ TPut K H a i v H' ∧ Q H'
section
variable {X : Cx}
theorem op_tin (hu : X.A.units + 1 < cLine) : OpR X (compareOp .In) (rTIn X.K) := by
  intro pins s σ H x y v u Q I rx ry ⟨a, r, e, g, q⟩
  subst e
  cases (show u = Value.ref a from ry)
  exact tb_in hu I g rx fun s3 I3 => ⟨.bl r.isSome, H, I3, rfl, q⟩
theorem op_tnin (hu : X.A.units + 1 < cLine) : OpR X (compareOp .NotIn) (rTNin X.K) := by
  intro pins s σ H x y v u Q I rx ry ⟨a, r, e, g, q⟩
  subst e
  cases (show u = Value.ref a from ry)
  exact tb_nin hu I g rx fun s3 I3 => ⟨.bl (!r.isSome), H, I3, rfl, q⟩
theorem set_tab (hu : X.A.units + 1 < cLine) : PSet X (rTPut X.K) := by
  intro pins s σ H o i v ov iv u Q I ro ri rv ⟨a, H', e, g, q⟩
  subst e
  cases (show ov = Value.ref a from ro)
  exact t_setItem hu I g ri rv fun s3 I3 => ⟨H', I3, q⟩
theorem tget_type {pins : List (Addr × Obj)} {σ : St} {H : Hp} {s : Shared} {a : Addr} {y : V} {r : Option V} (I : Inv X pins σ H s) (g : TGet X.K H a y r) : s.TypeIs (.ref a) "dict" := by
  rcases g with g | ⟨b, kvs, k, c, es, e, rfl, r1, r2, l⟩
  · exact dict_typeIs I g
  · obtain ⟨_, hd, xs, q, dd⟩ := tab_dict I e r1
    exact dd.typeIs
theorem pe_tget {o i : Expr} {td ty : TE} {pos : Pos} (hu : X.A.units + 1 < cLine) (ho : PE X o td) (hi : PE X i ty) (hs : NoSl i) : PE X (.Subscript o i pos) (tOp (rTGet X.K) td ty) := by
  refine ⟨fun pins s σ H Q I h => ?_⟩
  refine subD_of PySem.F.slot_dict_getitem.lookup hs (thn (ho.run pins s σ H _ I h) fun u s1 ⟨x, H1, I1, rx, q1⟩ => thn (hi.run pins s1 σ H1 _ I1 q1) fun iv s2 ⟨y, H2, I2, ry, q2⟩ => ?_)
  obtain ⟨a, v, e, g, q3⟩ := q2
  subst e
  cases (show u = Value.ref a from rx)
  exact ⟨tget_type I2 g, t_getItem hu I2 g ry fun z s3 I3 rz => ⟨v, H2, I3, rz, q3⟩⟩
theorem noSl_of {b : Expr} (h : notSlice b = true) : NoSl b := by
  intro ov iv
  cases b <;> first | rfl | cases h
end

/-! ### meanings -/
def tabOf : Slot → Option (Bool × List (PyData × PyData))
  | .odc t es => some (t, es)
  | .val (.dict es) => some (false, es)
  | _ => none
def kOk (t : Bool) (d : PyData) : Bool := if t = true then (keyT d).isSome else (keyK d).isSome
def isTab (ρ : Env) (i : Nat) : Bool := ((ρ[i]?).bind tabOf).isSome
theorem isTab_of {ρ : Env} {i : Nat} (h : isTab ρ i = true) : ∃ s t es, ρ[i]? = some s ∧ tabOf s = some (t, es) := by
  unfold isTab at h
  cases e : ρ[i]? with
  | none => rw [e] at h; cases h
  | some s =>
    rw [e] at h
    obtain ⟨⟨t, es⟩, q⟩ := Option.isSome_iff_exists.mp h
    exact ⟨s, t, es, rfl, q⟩
section
variable {B : Bd} {F H : Hp} {ρ : Env} {σ : St}
theorem tab_val (R : Rel B F H ρ σ) {i : Nat} {s : Slot} {t : Bool} {es : List (PyData × PyData)} (hs : ρ[i]? = some s) (ht : tabOf s = some (t, es)) : ∃ a, σ[i]? = some (some (.ref a)) := by
  cases s with
  | odc t' es' =>
    obtain ⟨a, o, g1, _⟩ := R.sl.own i _ hs rfl
    exact ⟨a, g1⟩
  | val d =>
    cases d with
    | dict es' =>
      obtain ⟨v, g1, g2⟩ := R.sl.val i _ hs
      cases g2 <;> exact ⟨_, g1⟩
    | _ => cases ht
  | _ => cases ht
theorem tab_get (R : Rel B F H ρ σ) {i : Nat} {s : Slot} {t : Bool} {es : List (PyData × PyData)} {d : PyData} {w : V} {a : Addr} (hs : ρ[i]? = some s) (ht : tabOf s = some (t, es)) (hk : kOk t d = true) (hw : Bp B.K F H d w) (ha : σ[i]? = some (some (.ref a))) :
    ∃ r, TGet B.K H a w r ∧ LookR B.K F (lookD es d) r := by
  have kk : t = false → ∀ kvs, Rd H a (.dK kvs) → RpK B.K F es kvs → ∃ r, TGet B.K H a w r ∧ LookR B.K F (lookD es d) r := fun z kvs h1 h2 => by
    subst z
    obtain ⟨k, e⟩ := Option.isSome_iff_exists.mp (show (keyK d).isSome = true from hk)
    have e := keyK_of e
    subst e
    have : w = kV k := by
      cases k with
      | inl i => exact hw.int
      | inr x => exact hw.str
    exact ⟨_, .inl (.inl ⟨kvs, k, h1, this, rfl⟩), look_K k h2⟩
  cases s with
  | odc t' es' =>
    cases ht
    obtain ⟨a', o, g1, g2, g3, g4, _⟩ := R.sl.own i _ hs rfl
    rw [ha] at g1
    cases g1
    cases t with
    | false =>
      obtain ⟨kvs, rfl, r⟩ := g4
      exact kk rfl kvs (.inl g3) r
    | true =>
      obtain ⟨b, kvs, rfl, r⟩ := g4
      obtain ⟨k, e⟩ := Option.isSome_iff_exists.mp (show (keyT d).isSome = true from hk)
      have e := keyT_of e
      subst e
      obtain ⟨c, o, vs, rfl, h1, h2, h3⟩ := hw.tup
      exact ⟨_, .inr ⟨b, kvs, k, c, es, g3, rfl, r.mono R.kept.ex, (Rp.tup h1 h2 h3).mono R.kept.ex, rfl⟩, look_T k r⟩
  | val d' =>
    cases d' with
    | dict es' =>
      cases ht
      obtain ⟨v, g1, g2⟩ := R.sl.val i _ hs
      rw [ha] at g1
      cases g1
      cases g2 with
      | dK h1 h2 => exact kk rfl _ (.inl (R.kept.ex _ _ h1)) h2
      | dT h1 h2 => exact kk rfl _ (.inr ⟨_, R.kept.ex _ _ h1⟩) h2
    | _ => cases ht
  | _ => cases ht
end
/-- d[k] -/
def dTGet (i : Nat) (k : DenO) : Den := fun Φ ρ => guard' (isTab ρ i) ((k Φ ρ).bind fun x => match (x.2[i]?).bind tabOf with
  | some (t, es) => guard' (kOk t x.1) ((opt (lookD es x.1)).bind fun d => .ok (.val d, x.2))
  | none => .stuck)
/-- k in d, k not in d -/
def dTIn (neg : Bool) (i : Nat) (k : DenO) : Den := fun Φ ρ => (k Φ ρ).bind fun x => match (x.2[i]?).bind tabOf with
  | some (t, es) => guard' (kOk t x.1) (.ok (.val (.bool (if neg = true then !(lookD es x.1).isSome else (lookD es x.1).isSome)), x.2))
  | none => .stuck
/-- d[k] = v -/
def dTPut (i : Nat) (k : DenO) (e : Den) : DenS := fun Φ ρ => (oOf e Φ ρ).bind fun r => guard' (isTab r.2 i) ((k Φ r.2).bind fun j => match j.2[i]? with
  | some (.odc t es) => guard' (kOk t j.1 && decide (es.length < 1000000)) (.ok (.nx, j.2.set i (.odc t (putD es j.1 r.1))))
  | _ => .stuck)
def dNewD (t : Bool) : Den := fun _ ρ => .ok (.odc t [], ρ)
section
variable {Γ : Ctx} {x : Str} {i : Nat} {k : DenO} {p m : Bool} {c e : Expr} {d : Den} {xpos pos spos : Pos}
theorem snd_tget (hN : Γ.N[i]? = some x) (hv : visB Γ.sc x = true) (hx : okName x = true) (hk : SndO Γ c k p m) (hc : notSlice c = true) : SndE Γ (.Subscript (.Name x xpos) c pos) (dTGet i k) p := by
  intro X Φ B F H ρ σ Q W C hK T R hq
  have P : PE X (.Name x xpos) (tVar i) := pe_var (by rw [C.nm]; exact hN) (by rw [C.sc]; exact vis_of hv) (okName_d hx) (okName_c hx)
  obtain ⟨h1, hq⟩ := wp_guard hq
  obtain ⟨s, t, es, h1, h2⟩ := isTab_of h1
  obtain ⟨a, ha⟩ := tab_val R h1 h2
  refine PE.w (pe_tget (by have := room_u C.room; omega) P pe_w (noSl_of hc)) ⟨_, ha, ?_⟩
  refine hk X Φ B F H ρ σ _ W C hK T R (wp_mono (wp_bind (c := k Φ ρ) hq) (fun y q w F1 H1 R1 e1 e2 hw => ?_) fun _ z => z)
  obtain ⟨y, ρ1⟩ := y
  have R1 : Rel B F1 H1 ρ1 σ := R1
  cases z : (ρ1[i]?).bind tabOf with
  | none => simp only [z] at q; exact q.elim
  | some te =>
    obtain ⟨t1, es1⟩ := te
    obtain ⟨s1, g1, g2⟩ := Option.bind_eq_some_iff.mp z
    simp only [z] at q
    obtain ⟨q1, q⟩ := wp_guard q
    obtain ⟨r, g3, g4⟩ := tab_get R1 g1 g2 q1 hw.bp ha
    cases l : lookD es1 y with
    | none => rw [l] at q; exact q.elim
    | some dd =>
      rw [l] at q g4
      cases r with
      | none => exact g4.elim
      | some v => exact ⟨a, v, rfl, hK ▸ g3, q v F1 H1 R1 e1 e2 g4⟩
theorem tin_run {neg : Bool} (hN : Γ.N[i]? = some x) (hv : visB Γ.sc x = true) (hx : okName x = true) (hk : SndO Γ c k p m) {X : Cx} {Φ : Calls} {B : Bd} {F H : Hp} {ρ : Env} {σ : St} {Q : VK} {W : WX} (C : CtxOk Γ Φ X) (hK : B.K = X.K) (T : L2N.Takes X W) (R : Rel B F H ρ σ)
    (hq : (dTIn neg i k Φ ρ).wp (EvP B F H σ p Q) (ExP X B F σ W)) : wE X c σ H fun w H1 => tVar i σ H1 fun v H2 => ∃ a r, v = .ref a ∧ TGet X.K H2 a w r ∧ Q (.bl (if neg = true then !r.isSome else r.isSome)) H2 := by
  refine hk X Φ B F H ρ σ _ W C hK T R (wp_mono (wp_bind (c := k Φ ρ) hq) (fun y q w F1 H1 R1 e1 e2 hw => ?_) fun _ z => z)
  obtain ⟨y, ρ1⟩ := y
  have R1 : Rel B F1 H1 ρ1 σ := R1
  cases z : (ρ1[i]?).bind tabOf with
  | none => simp only [z] at q; exact q.elim
  | some te =>
    obtain ⟨t1, es1⟩ := te
    obtain ⟨s1, g1, g2⟩ := Option.bind_eq_some_iff.mp z
    simp only [z] at q
    obtain ⟨q1, q⟩ := wp_guard q
    obtain ⟨a, ha⟩ := tab_val R1 g1 g2
    obtain ⟨r, g3, g4⟩ := tab_get R1 g1 g2 q1 hw.bp ha
    rw [g4.some_eq] at q
    exact ⟨_, ha, a, r, rfl, hK ▸ g3, q _ F1 H1 R1 e1 e2 (Rp.bl _)⟩
theorem snd_tin (hN : Γ.N[i]? = some x) (hv : visB Γ.sc x = true) (hx : okName x = true) (hk : SndO Γ c k p m) : SndE Γ (.Compare c [.In] [.Name x xpos] pos) (dTIn false i k) p := by
  intro X Φ B F H ρ σ Q W C hK T R hq
  have P : PE X (.Name x xpos) (tVar i) := pe_var (by rw [C.nm]; exact hN) (by rw [C.sc]; exact vis_of hv) (okName_d hx) (okName_c hx)
  exact PE.w (pe_cmpR (op_tin (by have := room_u C.room; omega)) pe_w P rfl) (tin_run hN hv hx hk C hK T R hq)
theorem snd_tnin (hN : Γ.N[i]? = some x) (hv : visB Γ.sc x = true) (hx : okName x = true) (hk : SndO Γ c k p m) : SndE Γ (.Compare c [.NotIn] [.Name x xpos] pos) (dTIn true i k) p := by
  intro X Φ B F H ρ σ Q W C hK T R hq
  have P : PE X (.Name x xpos) (tVar i) := pe_var (by rw [C.nm]; exact hN) (by rw [C.sc]; exact vis_of hv) (okName_d hx) (okName_c hx)
  exact PE.w (pe_cmpR (op_tnin (by have := room_u C.room; omega)) pe_w P rfl) (tin_run hN hv hx hk C hK T R hq)
theorem snd_tinT (hN : Γ.N[i]? = some x) (hv : visB Γ.sc x = true) (hx : okName x = true) (hk : SndO Γ c k p m) : SndT Γ (.Compare c [.In] [.Name x xpos] pos) (dTIn false i k) p := by
  intro X Φ B F H ρ σ Q W C hK T R hq
  have P : PE X (.Name x xpos) (tVar i) := pe_var (by rw [C.nm]; exact hN) (by rw [C.sc]; exact vis_of hv) (okName_d hx) (okName_c hx)
  exact PT.w (pt_cmpR (op_tin (by have := room_u C.room; omega)) pe_w P rfl) (tin_run hN hv hx hk C hK T R (wp_mono hq (fun _ z => evp_test z) fun _ z => z))
theorem snd_tninT (hN : Γ.N[i]? = some x) (hv : visB Γ.sc x = true) (hx : okName x = true) (hk : SndO Γ c k p m) : SndT Γ (.Compare c [.NotIn] [.Name x xpos] pos) (dTIn true i k) p := by
  intro X Φ B F H ρ σ Q W C hK T R hq
  have P : PE X (.Name x xpos) (tVar i) := pe_var (by rw [C.nm]; exact hN) (by rw [C.sc]; exact vis_of hv) (okName_d hx) (okName_c hx)
  exact PT.w (pt_cmpR (op_tnin (by have := room_u C.room; omega)) pe_w P rfl) (tin_run hN hv hx hk C hK T R (wp_mono hq (fun _ z => evp_test z) fun _ z => z))
theorem snd_tput {pk : Bool} (hN : Γ.N[i]? = some x) (hv : visB Γ.sc x = true) (hx : okName x = true) (h : SndE Γ e d p) (hk : SndO Γ c k pk m) (he : notComp e = true) (hc : notSlice c = true) :
    SndS Γ (.Assign [.Subscript (.Name x xpos) c spos] e pos) (dTPut i k d) := by
  intro X Φ B F H ρ σ D W C BO bo hK T R hq
  have P : PE X (.Name x xpos) (tVar i) := pe_var (by rw [C.nm]; exact hN) (by rw [C.sc]; exact vis_of hv) (okName_d hx) (okName_c hx)
  refine PS.w (ps_asg pe_w (pg_sub P pe_w (set_tab (by have := room_u C.room; omega)) (by intro v; cases c <;> first | rfl | cases hc)) (sole_of he) (by unfold swappedStores; cases e <;> rfl) rfl) ?_
  refine snd_oOf h X Φ B F H ρ σ _ W C hK T R (wp_mono (wp_bind (c := oOf d Φ ρ) hq) (fun r q v F1 H1 R1 e1 _ hv => ?_) ExS.ex)
  obtain ⟨y, ρ1⟩ := r
  have hv : Rp B.K F1 y v := hv
  obtain ⟨ho, q⟩ := wp_guard q
  obtain ⟨s, t, es, h1, h2⟩ := isTab_of ho
  have R1 : Rel B F1 H1 ρ1 σ := R1
  obtain ⟨a, ha⟩ := tab_val R1 h1 h2
  refine ⟨_, ha, ?_⟩
  refine hk X Φ B F1 H1 ρ1 σ _ W C hK T R1 (wp_mono (wp_bind (c := k Φ ρ1) q) (fun j q w F2 H2 R2 e3 _ hw => ?_) fun z q => ExS.ex z (ExS.mono e1 z q))
  obtain ⟨j, ρ2⟩ := j
  have R2 : Rel B F2 H2 ρ2 σ := R2
  cases z : ρ2[i]? with
  | none => simp only [z] at q; exact q.elim
  | some s2 =>
    cases s2 with
    | odc t2 es2 =>
      simp only [z] at q
      obtain ⟨q1, q⟩ := wp_guard q
      rw [Bool.and_eq_true, decide_eq_true_eq] at q1
      obtain ⟨q1, q2⟩ := q1
      obtain ⟨a', o', k1, k2, k3, k4, k5⟩ := R2.sl.own i _ z rfl
      rw [ha] at k1
      cases k1
      have hw := hw.bp
      cases t2 with
      | false =>
        obtain ⟨kvs, rfl, r⟩ := k4
        obtain ⟨kk, e⟩ := Option.isSome_iff_exists.mp (show (keyK j).isSome = true from q1)
        have e := keyK_of e
        subst e
        have ew : w = kV kk := by
          cases kk with
          | inl i => exact hw.int
          | inr x => exact hw.str
        have lt : kvs.length < sizeLine := by rw [← rpK_len r]; exact lt_line (by omega)
        exact ⟨a, _, rfl, .inl (.inl ⟨kvs, kk, k3, ew, lt, rfl⟩), q σ F2 _ (R2.alter (s' := .odc false (putD es2 (keyD kk) y)) z rfl ha ⟨_, rfl, put_K (hv.mono e3) r⟩) (e1.trans e3)⟩
      | true =>
        obtain ⟨b, kvs, rfl, r⟩ := k4
        obtain ⟨kk, e⟩ := Option.isSome_iff_exists.mp (show (keyT j).isSome = true from q1)
        have e := keyT_of e
        subst e
        obtain ⟨cc, oo, vs, rfl, g1, g2, g3⟩ := hw.tup
        have rk : Rp B.K F2 (.tuple (kk.map .int)) (.ref cc) := .tup g1 g2 g3
        have lt : kvs.length < sizeLine := by rw [← rpI_len r]; exact lt_line (by omega)
        exact ⟨a, _, rfl, .inr ⟨b, kvs, kk, cc, es2, k3, rfl, hK ▸ r.mono R2.kept.ex, hK ▸ rk.mono R2.kept.ex, lt, rfl⟩, q σ F2 _ (R2.alter (s' := .odc true (putD es2 (.tuple (kk.map .int)) y)) z rfl ha ⟨_, _, rfl, put_T rk (hv.mono e3) r⟩) (e1.trans e3)⟩
    | _ => simp only [z] at q; exact q.elim
/-- {} -/
theorem tab_empty {P : Program} {w : World} {H : Hp} (h : Heap) (hb : sysModules < h.objs.size) : ObjOk P w H (h.push { cls := .type "dict", data := .dict #[] }) h.objs.size (tabO h.objs.size []) :=
  tabO_ok ⟨Nat.zero_le _, beq_eq_false_iff_ne.mpr (Ne.symm (Nat.ne_of_lt hb)), [], .nil, _, #[], 0, Heap.get?_push_size _ rfl, ⟨rfl, rfl, rfl⟩, rfl, rfl, List.nodup_nil⟩
def tNewTab : TE := fun _ H Q => ∀ p, H p = none → Q (.ref p) (upd H p (tabO p []))
theorem pe_newTab {X : Cx} : PE X (.Dict [] [] pos) tNewTab := ⟨fun pins s σ H Q I h =>
  wpAny_Dict_empty ⟨.ref s.heap.objs.size, _, I.laid (a := s.heap.objs.size) (o := tabO s.heap.objs.size []) (t' := s.toks) (fun _ _ q => Heap.get?_push_of_some _ q) (Nat.le_refl _) (tab_empty s.heap I.big), rfl, h _ (I.hok.fresh (Nat.le_refl _))⟩⟩
theorem snd_newD (t : Bool) : SndE Γ (.Dict [] [] pos) (dNewD t) true := by
  intro X Φ B F H ρ σ Q W C hK T R hq
  have q := pq_of (s := .odc t []) R (.refl F) (fun _ => .refl H) hq
  cases t with
  | false => exact PE.w pe_dnewK fun p hp => q p [] hp .nil
  | true => exact PE.w pe_newTab fun p hp => q p [] hp .nil
end

/-! ### {k: None} of a tuple of whole numbers -/
def tDispN (ty : TE) : TE := fun σ H Q => ∀ p, H p = none → ty σ (upd H p (tabO p [])) fun y H2 => H2 p = some (tabO p []) ∧ ∃ k c, y = .ref c ∧ (∃ K : PySem.W.Frag, Rp K H2 (.tuple (k.map .int)) (.ref c)) ∧ Q (.ref p) (upd H2 p (tabO p [(k, c, .non)]))
theorem pe_dispN {X : Cx} {k : Expr} {ty : TE} {pos cp : Pos} {ck : Nat} (hu : X.A.units + 1 < cLine) (hk : PE X k ty) : PE X (.Dict [some k] [.Constant .none ck cp] pos) (tDispN ty) := by
  refine ⟨fun pins s σ H Q I q => ?_⟩
  have hn := I.hok.fresh (Nat.le_refl s.heap.objs.size)
  have I1 := I.laid (a := s.heap.objs.size) (o := tabO s.heap.objs.size []) (h' := s.heap.push { cls := .type "dict", data := .dict #[] }) (t' := s.toks) (fun _ _ q => Heap.get?_push_of_some _ q) (Nat.le_refl _) (tab_empty s.heap I.big)
  rw [arm_eval_Dict, zip_pairTrees [some k] [.Constant .none ck cp] X.env pos rfl rfl, dictDisplay_pairs _ (by simp [pairTrees]) (by simp [pairTrees])]
  refine wpAny_bind (wpAny_standAt (wpAny_bind ?_))
  refine wpAny_subDictH (knd := tupleKind (intKind X.prog X.w)) (show X.A.units < cLine by omega) (by simp [pairTrees]) ?_
  refine pairTrees_cons_walk (thn (hk.run pins _ σ _ _ I1 (q _ hn)) fun kv s1 ⟨y, H2, I2, ry, e, kk, c, ey, ⟨K, rk⟩, q2⟩ => ?_)
  subst ey
  cases (show kv = Value.ref c from ry)
  refine thn (pe_non.run pins s1 σ H2 (fun v H3 => v = .non ∧ H3 = H2) I2 ⟨rfl, rfl⟩) fun vv s2 ⟨z, H3, I3, rz, ez, eh⟩ => ?_
  subst ez eh
  cases (show vv = Value.none from rz)
  refine pairTrees_nil_walk ?_
  obtain ⟨_, hd, xs, pt, dd⟩ := tab_dict (K := K) (es := []) I3 e .nil
  cases pt
  refine ⟨[(kk, c, .none)], ⟨rfl, rfl, keyI I3 rk, trivial⟩, dd, fun h' tk hm hs => wpAny_pure ?_⟩
  have hm : h'.DictOfH (tupleKind (intKind X.prog X.w)) s.heap.objs.size [(kk, c, .none)] := hm
  have he : ∃ q, h'.get? s.heap.objs.size = some q := let ⟨q, _, _, hq, _⟩ := hm; ⟨q, hq⟩
  refine ⟨.ref s.heap.objs.size, _, ?_, rfl, q2⟩
  exact d_write I3 (by rw [e]; exact trivial) hs he (tab_new (by show 1 ≤ _; exact le_line (by decide)) hd (show PtI [(kk, c, .non)] [(kk, c, .none)] from .cons ⟨rfl, rfl, rfl⟩ .nil) hm)
def dDispN (j : Nat) : Den := fun _ ρ => match ρ[j]? with
  | some (.val d) => guard' (keyT d).isSome (.ok (.odc true [(d, .none)], ρ))
  | _ => .stuck
/-- {i: n} -/
def dDispI (i n : Int) : Den := fun _ ρ => .ok (.odc false [(.int i, .int n)], ρ)
/-- d.get(k, x) -/
def dTGet2 (i : Nat) (a : DenOs) : Den := fun Φ ρ => guard' (isTab ρ i) ((a Φ ρ).bind fun x => match (x.2[i]?).bind tabOf, x.1 with
  | some (false, es), [k, d] => guard' (keyK k).isSome (.ok (.val ((lookD es k).getD d), x.2))
  | _, _ => .stuck)
/-- the keys: the dict stands still from here on -/
def iDictK (i : Nat) : DenI := fun _ ρ => match ρ[i]? with
  | some (.odc false es) => .ok (es.map (·.1), ρ.set i (.val (.dict es)))
  | _ => .stuck
/-- list(d) of a new dict -/
def dListD (d : Den) : Den := fun Φ ρ => (d Φ ρ).bind fun r => match r.1 with
  | .odc true es => guard' (decide (es.length ≤ 1000000)) (.ok (.own (es.map (·.1)), r.2))
  | _ => .stuck
section
variable {B : Bd} {F H : Hp} {ρ : Env} {σ : St} {s : Slot} {a : Addr} {o o' : HO}
/-- an own object is frozen in another form -/
theorem Rel.lock (k : Rel B F H ρ σ) {i : Nat} {d : PyData} (h : ρ[i]? = some s) (hs : s.isOwn = true) (h1 : σ[i]? = some (some (.ref a))) (e2 : Rp B.K (upd F a o') d (.ref a)) : Rel B (upd F a o') (upd H a o') (ρ.set i (.val d)) σ ∧ Ex F (upd F a o') := by
  obtain ⟨b, o, g1, h2, h3, h4, h5⟩ := k.sl.own i s h hs
  rw [h1] at g1
  cases g1
  have e : Ex F (upd F a o') := .new h2
  have dis : ∀ (j : Nat) (t : Slot), (ρ.set i (.val d))[j]? = some t → t.isOwn = true → ρ[j]? = some t ∧ j ≠ i := fun j t q qs => by
    rcases set_get q with ⟨_, z, _⟩ | ⟨z1, z2⟩
    · rw [z] at qs; cases qs
    · exact ⟨z2, z1⟩
  have hn : B.La a ∨ B.H0 a = none := h5.imp (fun z => ⟨i, z⟩) id
  refine ⟨⟨⟨k.kept.ff.trans e, fun b u q => ?_, fun b u q n => ?_, fun b q1 q2 q3 => ?_, fun b q => ?_⟩, ⟨by rw [List.length_set]; exact k.sl.len, fun j d' q => ?_, fun j ns q => ?_, fun j t q qs => ?_, k.sl.par, fun j m t u b ne q qs q' qs' e3 => ?_⟩⟩, e⟩
  · by_cases z : b = a
    · subst z; rw [upd_same] at q ⊢; exact q
    · rw [upd_ne z] at q ⊢; exact k.kept.ex _ _ q
  · have z : b ≠ a := fun z => by
      subst z
      rcases hn with w | w
      · exact n w
      · rw [w] at q; cases q
    rw [upd_ne z]
    exact k.kept.keep b u q n
  · have z : b ≠ a := fun z => by
      subst z
      rcases hn with w | w
      · exact q3 w
      · exact q1 w
    rw [upd_ne z]
    exact k.kept.nof b q1 q2 q3
  · by_cases z : b = a
    · subst z; rw [upd_same]; exact fun z => nomatch z
    · rw [upd_ne z]; exact k.kept.live b q
  · rcases set_get q with ⟨z, z2, _⟩ | ⟨z, z2⟩
    · cases z2
      rw [z]
      exact ⟨_, h1, e2⟩
    · obtain ⟨v, q1, q2⟩ := k.sl.val j d' z2
      exact ⟨v, q1, q2.mono e⟩
  · rcases set_get q with ⟨z, z2, _⟩ | ⟨z, z2⟩
    · cases z2
    · obtain ⟨v, q1, q2⟩ := k.sl.scr j ns z2
      exact ⟨v, q1, e.sqL q2⟩
  · obtain ⟨q', ne⟩ := dis j t q qs
    obtain ⟨b, u, g1, g2, g3, g4, g5⟩ := k.sl.own j t q' qs
    have nb : b ≠ a := fun z => by subst z; exact k.sl.dis j i t s b ne q' qs h hs g1 h1
    exact ⟨b, u, g1, by rw [upd_ne nb]; exact g2, by rw [upd_ne nb]; exact g3, g4.mono e, g5⟩
  · obtain ⟨g, _⟩ := dis j t q qs
    obtain ⟨g', _⟩ := dis m u q' qs'
    exact k.sl.dis j m t u b ne g qs g' qs' e3
end
section
variable {Γ : Ctx} {x : Str} {i : Nat} {k : DenO} {p m : Bool} {c e : Expr} {d : Den} {xpos pos spos apos fpos : Pos}
theorem snd_dispN {ck : Nat} {cp : Pos} (hN : Γ.N[i]? = some x) (hv : visB Γ.sc x = true) (hx : okName x = true) : SndE Γ (.Dict [some (.Name x xpos)] [.Constant .none ck cp] pos) (dDispN i) true := by
  intro X Φ B F H ρ σ Q W C hK T R hq
  have P : PE X (.Name x xpos) (tVar i) := pe_var (by rw [C.nm]; exact hN) (by rw [C.sc]; exact vis_of hv) (okName_d hx) (okName_c hx)
  refine PE.w (pe_dispN (by have := room_u C.room; omega) P) fun p hp => ?_
  unfold dDispN at hq
  cases z : ρ[i]? with
  | none => rw [z] at hq; exact hq.elim
  | some s =>
    rw [z] at hq
    cases s with
    | val d =>
      obtain ⟨q1, hq⟩ := wp_guard hq
      obtain ⟨kk, e⟩ := Option.isSome_iff_exists.mp q1
      have e := keyT_of e
      subst e
      obtain ⟨v, g1, g2⟩ := R.sl.val i _ z
      have g2' := g2
      cases g2 with
      | tup h1 h2 h3 =>
        refine ⟨_, g1, upd_same, kk, _, rfl, ⟨B.K, (g2'.mono R.kept.ex).mono (.new hp)⟩, ?_⟩
        rw [upd_upd]
        exact pq_of (s := .odc true [(.tuple (kk.map .int), .none)]) R (.refl F) (fun _ => .refl H) hq p _ hp (.cons g2' .non .nil)
    | _ => exact hq.elim
theorem snd_dispI {n j : Int} {k1 k2 : Nat} {p1 p2 : Pos} : SndE Γ (.Dict [some (.Constant (.int j) k1 p1)] [.Constant (.int n) k2 p2] pos) (dDispI j n) true := by
  intro X Φ B F H ρ σ Q W C hK T R hq
  refine PE.w (pe_disp (pps_cons pe_int pe_int pps_nil) rfl rfl (fun z => nomatch z) (Nat.le_of_lt_succ (by show 1 < 16; decide))) ?_
  intro t ht
  have e : mergeK [] [((.inl j : Key), V.int n)] = [((.inl j : Key), V.int n)] := rfl
  refine ⟨upd_same, [(.inl j, .int n)], rfl, by show 1 ≤ 15; decide, ?_⟩
  rw [e, upd_upd]
  exact pq_of (s := .odc false [(.int j, .int n)]) R (.refl F) (fun _ => .refl H) hq t _ ht (.cons (k := .inl j) (.int n) .nil)
theorem src_keys {K : PySem.W.Frag} {F : Hp} {tp : Bool} {a : Addr} {o : Obj} {kvs : List (Key × V)} {es : List (PyData × PyData)} (h : F a = some (.frz o (.dK kvs))) (r : RpK K F es kvs) : Src tp K F (Itk a o kvs) (es.map (·.1)) := by
  have get : ∀ {es : List (PyData × PyData)} {kvs : List (Key × V)}, RpK K F es kvs → ∀ (i : Nat) (d : PyData), (es.map (·.1))[i]? = some d → ∃ k v, kvs[i]? = some (k, v) ∧ d = keyD k := by
    intro es kvs r
    induction es generalizing kvs with
    | nil => intro i d q; simp at q
    | cons e es ih =>
      cases r with
      | cons h1 h2 =>
        intro i d q
        cases i with
        | zero => simp at q; exact ⟨_, _, rfl, q.symm⟩
        | succ i =>
          obtain ⟨k, v, g1, g2⟩ := ih h2 i d (by simpa using q)
          exact ⟨k, v, by simpa using g1, g2⟩
  have len := rpK_len r
  refine ⟨fun i H d e q => ?_, fun i H e q => ⟨e _ _ h, by rw [← len]; simpa using q⟩⟩
  obtain ⟨k, v, g1, g2⟩ := get r i d q
  refine ⟨⟨e _ _ h, (List.getElem?_eq_some_iff.mp g1).1⟩, fun x H' y F2 e2 e3 => ?_⟩
  obtain ⟨z, k', v', y1, y2⟩ := y
  subst z
  rw [g1] at y1
  cases y1
  subst g2 y2
  exact ⟨fun _ z => z, .refl e3, taken_of e3 (by cases k with
    | inl i => exact .int i
    | inr x => exact .str x)⟩
theorem snd_iDict {tg : Expr} {tp : Bool} (hN : Γ.N[i]? = some x) (hv : visB Γ.sc x = true) (hx : okName x = true) : SndI Γ tg (.Name x xpos) (iDictK i) false tp := by
  intro X Φ B F H ρ σ Q W C hK T R hq
  have P : PE X (.Name x xpos) (tVar i) := pe_var (by rw [C.nm]; exact hN) (by rw [C.sc]; exact vis_of hv) (okName_d hx) (okName_c hx)
  unfold iDictK at hq
  cases z : ρ[i]? with
  | none => rw [z] at hq; exact hq.elim
  | some s =>
    rw [z] at hq
    cases s with
    | odc t es =>
      cases t with
      | true => exact hq.elim
      | false =>
        obtain ⟨a, o, g1, g2, g3, g4, g5⟩ := R.sl.own i _ z rfl
        obtain ⟨kvs, rfl, r⟩ := g4
        intro pins s I
        obtain ⟨od, I1⟩ := I.lock g3 trivial
        have e : Ex F (upd F a (.frz od (.dK kvs))) := .new g2
        obtain ⟨R1, e1⟩ := R.lock (o' := .frz od (.dK kvs)) z rfl g1 (.dT upd_same (r.mono e))
        refine PI.w (pi_keys P) ⟨_, g1, a, od, rfl, .inl ⟨kvs, upd_same, ?_⟩⟩ pins s I1
        exact hq _ _ _ R1 e1 (fun z => nomatch z) (src_keys upd_same (r.mono e))
    | _ => exact hq.elim
def rListTab (K : PySem.W.Frag) : List V → Hp → VK → Prop := fun xs H Q => ∃ a b kvs es, xs = [V.ref a] ∧ H a = some (tabO b kvs) ∧ RpI K H es kvs ∧ ∀ p, H p = none → Q (.ref p) (upd H p (.lst (kvs.map fun x => .ref x.2.1)))
theorem call_listTab {X : Cx} (hc : X.calm = true) : CallR X (.type "list") (rListTab X.K) := by
  intro pins s σ H xs us Q I r h
  obtain ⟨d, b, kvs, es, rfl, hd, rk, q⟩ := h
  obtain ⟨u, rfl, rx⟩ := r.one
  cases rx
  obtain ⟨z, hs, ks, pr, o, en, ep, ho, hx, hdt, he, ki, hn⟩ := tab_dict I hd rk
  have l1 : en.size = ks.length := size_of_entries he
  have l2 : kvs.length = ks.length := Paired.length pr
  refine PySem.W.kdl_call (kdl_raw hs hx hdt) (I.ok.hd hc) ho (by omega) fun h' tk acc' c' kp e it => ?_
  have ea : acc'.toList = ks.map fun x => Value.ref x.2.1 := by
    have hl : acc'.toList.length = ks.length := by rw [Array.length_toList, it.1]; exact l1
    refine List.ext_getElem? fun j => ?_
    rw [List.getElem?_map]
    cases hj : acc'.toList[j]? with
    | none =>
      have h1 := List.getElem?_eq_none_iff.mp hj
      rw [List.getElem?_eq_none (by omega)]
      rfl
    | some v =>
      obtain ⟨ent, hen, hv⟩ := it.2 j v (by rw [← Array.getElem?_toList]; exact hj)
      have qe := entry_at he j
      rw [hen] at qe
      obtain ⟨b', e1, e2⟩ := Option.map_eq_some_iff.mp qe.symm
      rw [e1, hv, ← e2]
      rfl
  have eb : (kvs.map fun x => V.ref x.2.1) = (ks.map fun x => x.2.1).map V.ref := by
    clear ea it e kp q rk hd he hn ki l1 l2 z
    induction pr with
    | nil => rfl
    | cons h t ih =>
      simp only [List.map_cons, h.2.1]
      exact congrArg _ ih
  have rv : Vals (kvs.map fun x => V.ref x.2.1) acc'.toList := by
    rw [ea, eb, show (ks.map fun x => Value.ref x.2.1) = (ks.map fun x => x.2.1).map Value.ref by rw [List.map_map]; rfl]
    exact vals_refs _
  refine ⟨.ref s.heap.objs.size, _, I.laid (t' := tk) (o := .lst (kvs.map fun x => V.ref x.2.1)) kp (Nat.le_refl _) ?_, rfl, q _ (I.hok.fresh (Nat.le_refl _))⟩
  exact ⟨by rw [List.length_map]; exact z, acc'.toList, c', rv, by rw [Array.toArray_toList]; exact e⟩
theorem rpI_keys {K : PySem.W.Frag} {F : Hp} : ∀ {es : List (PyData × PyData)} {kvs : List (List Int × Addr × V)}, RpI K F es kvs → RpAll K F (es.map (·.1)) (kvs.map fun x => V.ref x.2.1)
  | _, _, .nil => .nil
  | _, _, .cons h0 _ h2 => .cons h0 (rpI_keys h2)
theorem snd_listD (h : SndE Γ e d p) (he : plainE e = true) (hg : Γ.sc.names.lookup ("list" : Str) = some .globalImplicit) (hf : ("list" : Str) ∈ Γ.blts) : SndE Γ (.Call (.Name "list" fpos) [e] [] pos) (dListD d) false := by
  intro X Φ B F H ρ σ Q W C hK T R hq
  refine PE.w (pe_callTy (call_listTab C.calm) (gl_of C hg) (C.blt _ hf) boot_list' (pa_cons pe_w pa_nil (star_of he)) (by decide) (by decide) (star_of he)) ?_
  refine h X Φ B F H ρ σ _ W C hK T R (wp_mono (wp_bind (c := d Φ ρ) hq) (fun r q v F1 H1 R1 e1 e2 hr => ?_) fun _ q => q)
  obtain ⟨s, ρ1⟩ := r
  cases s with
  | odc t es =>
    cases t with
    | false => exact q.elim
    | true =>
      obtain ⟨q1, q⟩ := wp_guard q
      obtain ⟨a, o, rfl, h1, h2, ⟨b, kvs, rfl, rk⟩, h4, h5⟩ := hr
      have R1 : Rel B F1 H1 ρ1 σ := R1
      refine ⟨a, b, kvs, es, rfl, h2, hK ▸ rk.mono R1.kept.ex, fun l hl => ?_⟩
      exact pq_of (p := false) (s := .own (es.map (·.1))) R1 e1 (fun z => nomatch z) q l _ hl (rpI_keys rk)
  | _ => exact q.elim
/-- a bar b -/
def pOrI : Prim := pI2 yes2 fun i j => .int (Builtin.bitOr i j)
theorem e_orI {a b : Expr} {d : DenOs} (h : SndOs Γ [a, b] d p) : SndE Γ (.BinOp a .BitOr b pos) (dP pOrI d) p := snd_bin (r := fun _ => rI0 fun i j => .int (Builtin.bitOr i j)) (fun X _ _ => op_or) (fun K => rule_I0 fun _ _ _ => .int _) h
end
end Dn

/-! Den36: d.get(k, x), a name's own thing moved, range with a step, tuple(range). -/
namespace Dn
open PySem PySem.Spec L2
open PyProof.Rows hiding St
def isTabF (ρ : Env) (i : Nat) : Bool := match (ρ[i]?).bind tabOf with
  | some (false, _) => true
  | _ => false
theorem isTabF_of {ρ : Env} {i : Nat} (h : isTabF ρ i = true) : ∃ s es, ρ[i]? = some s ∧ tabOf s = some (false, es) := by
  unfold isTabF at h
  cases z : (ρ[i]?).bind tabOf with
  | none => rw [z] at h; cases h
  | some te =>
    obtain ⟨t, es⟩ := te
    rw [z] at h
    cases t with
    | true => cases h
    | false =>
      obtain ⟨s, g1, g2⟩ := Option.bind_eq_some_iff.mp z
      exact ⟨s, es, g1, g2⟩
def dTGetD (i : Nat) (a : DenOs) : Den := fun Φ ρ => guard' (isTabF ρ i) ((a Φ ρ).bind fun x => match (x.2[i]?).bind tabOf, x.1 with
  | some (false, es), [k, d] => guard' (keyK k).isSome (.ok (.val ((lookD es k).getD d), x.2))
  | _, _ => .stuck)
section
variable {B : Bd} {F H : Hp} {ρ : Env} {σ : St}
/-- a dict of whole numbers and texts, own or frozen -/
theorem tabF_get (R : Rel B F H ρ σ) {i : Nat} {s : Slot} {es : List (PyData × PyData)} (hs : ρ[i]? = some s) (ht : tabOf s = some (false, es)) : ∃ a kvs, σ[i]? = some (some (.ref a)) ∧ Rd H a (.dK kvs) ∧ RpK B.K F es kvs := by
  cases s with
  | odc t es' =>
    cases ht
    obtain ⟨a, o, g1, g2, g3, g4, _⟩ := R.sl.own i _ hs rfl
    obtain ⟨kvs, rfl, r⟩ := g4
    exact ⟨a, kvs, g1, .inl g3, r⟩
  | val d =>
    cases d with
    | dict es' =>
      cases ht
      obtain ⟨v, g1, g2⟩ := R.sl.val i _ hs
      cases g2 with
      | dK h1 h2 => exact ⟨_, _, g1, .inl (R.kept.ex _ _ h1), h2⟩
      | dT h1 h2 => exact ⟨_, _, g1, .inr ⟨_, R.kept.ex _ _ h1⟩, h2⟩
    | _ => cases ht
  | _ => cases ht
end
section
variable {Γ : Ctx} {x y : Str} {i j : Nat} {a b c : Expr} {d d' d2 : DenO} {as : DenOs} {p p' p2 m m' m2 : Bool} {xpos pos pos' apos fpos rpos lpos : Pos} {tg : Expr}
theorem snd_tgetD (hN : Γ.N[i]? = some x) (hv : visB Γ.sc x = true) (hx : okName x = true) (h : SndFs Γ [a, b] as p) (he : [a, b].all plainE = true) (hline : (apos.endLine == pos.line) = true) :
    SndE Γ (.Call (.Attribute (.Name x xpos) "get" apos) [a, b] [] pos) (dTGetD i as) p := by
  intro X Φ B F H ρ σ Q W C hK T R hq
  have P : PE X (.Name x xpos) (tVar i) := pe_var (by rw [C.nm]; exact hN) (by rw [C.sc]; exact vis_of hv) (okName_d hx) (okName_c hx)
  have he' := he
  rw [List.all_cons, Bool.and_eq_true, List.all_cons, Bool.and_eq_true] at he'
  obtain ⟨h1, hq⟩ := wp_guard hq
  obtain ⟨s, es, h1, h2⟩ := isTabF_of h1
  obtain ⟨l, kvs, g1, g2, g3⟩ := tabF_get R h1 h2
  refine PE.w (pe_dget2 (by have := room_u C.room; omega) P pe_w pe_w ⟨base_of rfl, few_of he (show 2 < 20 by decide), hline, by rw [star_of he'.1, star_of he'.2.1]; rfl⟩) ⟨_, g1, l, rfl, .inl ⟨kvs, g2⟩, ?_⟩
  refine (show wEs X [a, b] σ H (fun vs H3 => match vs with
    | [y, z] => ∃ o, DGet H3 l y o ∧ Q (o.getD z) H3
    | _ => False) from ?_)
  refine h X Φ B F H ρ σ _ W C hK T R (wp_mono (wp_bind (c := as Φ ρ) hq) (fun r q vs F1 H1 R1 e1 e2 hvs => ?_) fun _ z => z)
  obtain ⟨ds, ρ1⟩ := r
  have R1 : Rel B F1 H1 ρ1 σ := R1
  cases z : (ρ1[i]?).bind tabOf with
  | none => simp only [z] at q; exact q.elim
  | some te =>
    obtain ⟨t1, es1⟩ := te
    obtain ⟨s1, k1, k2⟩ := Option.bind_eq_some_iff.mp z
    simp only [z] at q
    cases t1 with
    | true => exact q.elim
    | false =>
      obtain ⟨l', kvs1, k3, k4, k5⟩ := tabF_get R1 k1 k2
      rw [g1] at k3
      cases k3
      match ds, vs, hvs, q with
      | [k, dd], [w, v], .cons w1 (.cons w2 .nil), q =>
        obtain ⟨q1, q⟩ := wp_guard q
        obtain ⟨kk, e⟩ := Option.isSome_iff_exists.mp q1
        have e := keyK_of e
        subst e
        have ew : w = kV kk := by
          cases kk with
          | inl i => cases w1; rfl
          | inr x => cases w1; rfl
        have lk := look_K kk k5
        refine ⟨valV kvs1 kk, .inl ⟨kvs1, kk, k4, ew, rfl⟩, q _ F1 H1 R1 e1 e2 ?_⟩
        cases l1 : lookD es1 (keyD kk) with
        | none =>
          cases l2 : valV kvs1 kk with
          | none => exact w2
          | some u => rw [l1, l2] at lk; exact lk.elim
        | some u1 =>
          cases l2 : valV kvs1 kk with
          | none => rw [l1, l2] at lk; exact lk.elim
          | some u => rw [l1, l2] at lk; exact lk
      | [], _, _, q => exact q.elim
      | [_], _, _, q => exact q.elim
      | _ :: _ :: _ :: _, _, _, q => exact q.elim
/-- y = x: what x owns goes over -/
def dMvS (i j : Nat) : DenS := fun _ ρ => match ρ[j]? with
  | some (.val d) => .ok (.nx, ρ.set i (.val d))
  | some (.own ds) => .ok (.nx, (ρ.set j .un).set i (.own ds))
  | some (.odc t es) => .ok (.nx, (ρ.set j .un).set i (.odc t es))
  | _ => .stuck
theorem snd_mvS (hN : Γ.N[i]? = some x) (hl : locB Γ.sc x = true) (hi : Γ.np ≤ i) (hN' : Γ.N[j]? = some y) (hv : visB Γ.sc y = true) (hy : okName y = true) (hj : Γ.np ≤ j) : SndS Γ (.Assign [.Name x xpos] (.Name y pos') pos) (dMvS i j) := by
  intro X Φ B F H ρ σ D W C BO bo hK T R h
  have P : PE X (.Name y pos') (tVar j) := pe_var (by rw [C.nm]; exact hN') (by rw [C.sc]; exact vis_of hv) (okName_d hy) (okName_c hy)
  refine PS.w (ps_set (i := i) (by rw [C.nm]; exact C.nd) (by rw [C.nm]; exact hN) (by rw [C.sc]; exact loc_of hl) P (swap_of rfl) (.inl (BO.fn x))) ?_
  unfold dMvS at h
  have mv : ∀ s : Slot, s.isOwn = true → ρ[j]? = some s → (Out.ok (Fl.nx, (ρ.set j .un).set i s)).wp (StP B F D) (ExS X B F W) → tVar j σ H fun v H' => D.nx (σ.set i (some v)) H' := fun s hs e hq => by
    obtain ⟨a, o, e1, e2, e3, e4, e5⟩ := R.sl.own j s e hs
    have e6 : B.H0 a = none := by
      rcases e5 with z | z
      · exact absurd (bo.L j a z) (by omega)
      · exact z
    refine ⟨_, e1, hq _ F H ((R.unset j).put (s := s) ((Res.of_own hs).mpr ⟨a, o, rfl, e2, e3, e4, e6, fun m t k1 k2 k3 => ?_⟩) i (Nat.le_trans bo.vs hi)) (.refl F)⟩
    rcases set_get k1 with ⟨_, z2, _⟩ | ⟨z1, z2⟩
    · rw [z2] at k2; cases k2
    · exact R.sl.dis m j t s a z1 z2 k2 e hs k3 e1
  cases e : ρ[j]? with
  | none => rw [e] at h; exact h.elim
  | some s =>
    rw [e] at h
    cases s with
    | val d =>
      obtain ⟨v, h1, h2⟩ := R.sl.val j d e
      exact ⟨v, h1, h _ F H (R.put (s := .val d) h2 i (Nat.le_trans bo.vs hi)) (.refl F)⟩
    | own ds => exact mv _ rfl e h
    | odc t es => exact mv _ rfl e h
    | un => exact h.elim
    | scr ns => exact h.elim
/-- range(a, b, c) -/
def rngC (lo c : Int) (n : Nat) : List PyData := (List.range n).map fun i => .int (lo + (i : Nat) * c)
def rg3B (i j c : Int) (n : Nat) : Bool := decide (c ≠ 0) && decide (c.natAbs < 1073741824) && Builtin.Range.small i j c && decide (Builtin.Range.rangeSize i j c = n)
def iR3 (a b c : DenO) : DenI := fun Φ ρ => (a Φ ρ).bind fun r => (b Φ r.2).bind fun s => (c Φ s.2).bind fun t => match r.1, s.1, t.1 with
  | .int i, .int j, .int k => guard' (rg3B i j k (Builtin.Range.rangeSize i j k).toNat) (.ok (rngC i k (Builtin.Range.rangeSize i j k).toNat, t.2))
  | _, _, _ => .stuck
theorem src_rngC {K : PySem.W.Frag} {F : Hp} {lo c : Int} {n : Nat} : Src false K F (Itc lo c n) (rngC lo c n) := by
  have hl : (rngC lo c n).length = n := by simp [rngC]
  refine ⟨fun i H d e q => ?_, fun i H e q => by show n ≤ i; rw [← hl]; exact q⟩
  have hi : i < n := by rw [← hl]; exact (List.getElem?_eq_some_iff.mp q).1
  refine ⟨hi, fun x H' y F2 e2 e3 => ?_⟩
  obtain ⟨z, y⟩ := y
  subst z
  subst y
  have : d = .int (lo + (i : Nat) * c) := by
    unfold rngC at q
    rw [List.getElem?_map, List.getElem?_range hi] at q
    exact (Option.some.inj q).symm
  subst this
  exact ⟨fun _ z => z, .refl e3, Rp.int _⟩
theorem snd_iR3 (h : SndO Γ a d p m) (h' : SndO Γ b d' p' m') (h2 : SndO Γ c d2 p2 m2) (he : plainE a = true) (he' : plainE b = true) (he2 : plainE c = true) (hg : Γ.sc.names.lookup ("range" : Str) = some .globalImplicit) (hf : ("range" : Str) ∈ Γ.blts) :
    SndI Γ tg (.Call (.Name "range" fpos) [a, b, c] [] pos) (iR3 d d' d2) (p && (p' && p2)) false := by
  intro X Φ B F H ρ σ R W C hK T Rl hq
  refine PI.w (pi_range3 (gl_of C hg) (C.blt _ hf) (pa_cons pe_w (pa_cons pe_w (pa_cons pe_w pa_nil (star_of he2)) (star_of he')) (star_of he)) (by rw [star_of he]) (by rw [star_of he', star_of he2]; rfl)) ?_
  refine h X Φ B F H ρ σ _ W C hK T Rl (wp_mono (wp_bind (c := d Φ ρ) hq) (fun y q v F1 H1 R1 e1 e2 hv => ?_) fun _ q => q)
  refine h' X Φ B F1 H1 y.2 σ _ W C hK T R1 (wp_mono (wp_bind (c := d' Φ y.2) q) (fun z q w F2 H2 R2 e3 e4 hw => ?_) (ExP.mono e1))
  refine h2 X Φ B F2 H2 z.2 σ _ W C hK T R2 (wp_mono (wp_bind (c := d2 Φ z.2) q) (fun u q t F3 H3 R3 e5 e6 ht => ?_) (ExP.mono (e1.trans e3)))
  obtain ⟨y, ρ1⟩ := y
  obtain ⟨z, ρ2⟩ := z
  obtain ⟨u, ρ3⟩ := u
  cases y with
  | int i =>
    cases z with
    | int j =>
      cases u with
      | int k =>
        obtain ⟨g, q⟩ := wp_guard q
        unfold rg3B at g
        simp only [Bool.and_eq_true, decide_eq_true_eq] at g
        have hv := hv.bp.int
        have hw := hw.bp.int
        have ht := ht.bp.int
        subst hv
        subst hw
        subst ht
        refine ⟨i, j, k, _, rfl, ⟨g.1.1.1, g.1.1.2, g.1.2, g.2⟩, q _ F3 H3 R3 ((e1.trans e3).trans e5) (fun z => ?_) src_rngC⟩
        rw [Bool.and_eq_true, Bool.and_eq_true] at z
        exact ((e2 z.1).trans (e4 z.2.1)).trans (e6 z.2.2)
      | _ => exact q.elim
    | _ => exact q.elim
  | _ => exact q.elim
/-- tuple(range(a)), the object known -/
def tTupRgF (te : St → Hp → (Int → Int → Hp → Prop) → Prop) : TE := fun σ H Q => te σ H fun a b H1 => RgOk a b ∧ ∀ q o, H1 q = none → o.dict = none → Q (.ref q) (upd H1 q (.frz o (.tup (rgV a b))))
theorem pe_tupRgF {X : Cx} {e : Expr} {te : St → Hp → (Int → Int → Hp → Prop) → Prop} (hc : X.calm = true) (hg : Gl X "tuple") (hm : X.mg "tuple" = none) (he : PRg X e te) (na : starEach [e] X.env = (false, eval e X.env) :: starEach [] X.env) : PE X (.Call (.Name "tuple" fpos) [e] [] pos) (tTupRgF te) := by
  refine ⟨fun pins s σ H Q I h => ?_⟩
  refine Call_ (ld_blt I hg hm boot_tuple (PyProof.Rows.callWith_type1 (PyProof.Rows.args_cons (thn (he pins s σ H _ I h) fun x s1 ⟨r, a, b, t, u, v, H1, ex, hr, I1, ok, q⟩ => args_nil ?_) na) na))
  subst ex
  obtain ⟨b1, b2, b3, b4, b5⟩ := ok
  refine call_tuple_range (n := (b - a).toNat) (I1.ok.hd hc) hr (small_one b1 b2 b3 b4) (rangeSize_nat a b) b5 fun h' tk acc hk hi => ?_
  have I2 : Inv X pins σ H1 { s1 with heap := h', toks := tk } := I1.kept hk
  have hz : (rgV a b).length ≤ sizeLine := by rw [rgV_length, sizeLine_eq]; omega
  refine ⟨.ref h'.objs.size, _, I2.laid (t' := tk) (o := .frz { cls := .type "tuple", data := .seq acc } (.tup (rgV a b))) (fun c o e => Heap.get?_push_of_some _ e) (Nat.le_refl _) ⟨Heap.get?_push_size _ rfl, hz, acc.toList, vals_rg hi, ?_⟩, rfl, q _ _ (I2.hok.fresh (Nat.le_refl _)) rfl⟩
  rw [Array.toArray_toList]
  exact IsTup.new _ _
def dTupR (so : DenI) : Den := fun Φ ρ => (so Φ ρ).bind fun r => guard' (decide (r.1.length ≤ 1000000)) (.ok (.val (.tuple r.1), r.2))
theorem snd_tupR1 (h : SndO Γ a d p m) (he : plainE a = true) (hg : Γ.sc.names.lookup ("range" : Str) = some .globalImplicit) (hf : ("range" : Str) ∈ Γ.blts) (hg2 : Γ.sc.names.lookup ("tuple" : Str) = some .globalImplicit) (hf2 : ("tuple" : Str) ∈ Γ.blts) :
    SndE Γ (.Call (.Name "tuple" fpos) [.Call (.Name "range" rpos) [a] [] pos] [] lpos) (dTupR (iR1 d)) p := by
  intro X Φ B F H ρ σ Q W C hK T R hq
  refine PE.w (pe_tupRgF C.calm (gl_of C hg2) (C.blt _ hf2) (prg_1 (gl_of C hg) (C.blt _ hf) pe_w (star_of he)) rfl) ?_
  refine h X Φ B F H ρ σ _ W C hK T R (wp_mono (wp_bind (c := d Φ ρ) (wp_bind (c := iR1 d Φ ρ) hq)) (fun y q v F1 H1 R1 e1 e2 hv => ?_) fun _ q => q)
  obtain ⟨y, ρ1⟩ := y
  cases y with
  | int n =>
    obtain ⟨g, q⟩ := wp_guard q
    have := small_of g
    have hv := hv.bp.int
    subst hv
    obtain ⟨g2, q⟩ := wp_guard q
    rw [rngD_length] at g2
    have g2 := of_decide_eq_true g2
    refine ⟨n, rfl, ⟨by omega, by omega, this.1, this.2, ?_⟩, fun l o hl ho => pq_tup R1.kept.ex (pq_of R1 e1 e2 q) hl ho ?_⟩
    · rw [Int.sub_zero]; omega
    · have := rg_rp (K := B.K) (F := F1) 0 n
      rw [Int.sub_zero] at this
      exact this
  | _ => exact q.elim
end
/-! ### insert -/
def rInsertP : V → List V → Hp → VK → Prop := fun x vs H Q => ∃ (l : Addr) (xs : List V) (i : Int) (y : V), x = .ref l ∧ vs = [.int i, y] ∧ H l = some (.lst xs) ∧ xs.length < sizeLine ∧ 0 ≤ i ∧ i < 2 ^ 63 ∧ Q .non (upd H l (.lst (xs.take i.toNat ++ [y] ++ xs.drop i.toNat)))
def mInsert : MutF := fun ds as => match as with
  | [.int i, d] => if decide (0 ≤ i) && decide (i < 2 ^ 62) && decide (ds.length < 1000000) then some (.none, ds.take i.toNat ++ [d] ++ ds.drop i.toNat) else none
  | _ => none
theorem rm_insert (K : PySem.W.Frag) : RuleM K rInsertP mInsert := by
  intro F H a ds as vs avs res ds' Q e hF hH r ra h q
  unfold mInsert at h
  split at h
  · split at h
    · rename_i i d hl
      simp only [Bool.and_eq_true, decide_eq_true_eq] at hl
      cases h
      cases ra with
      | cons r1 r2 =>
        cases r2 with
        | cons r2 r3 =>
          cases r3
          cases r1
          exact ⟨a, vs, i, _, rfl, rfl, hH, by rw [← r.length]; exact lt_line (by omega), hl.1.1, by omega, q _ _ .non (((r.take _).app (.cons r2 .nil)).app (r.drop _))⟩
    · cases h
  · cases h
section
variable {Γ : Ctx} {as : DenOs} {p : Bool} {pos xpos apos : Pos} {e f : Expr} {x : Str} {i : Nat}
theorem u_insert (hN : Γ.N[i]? = some x) (hv : visB Γ.sc x = true) (hx : okName x = true) (h : SndFs Γ [e, f] as p) (he : [e, f].all plainE = true) (hline : (apos.endLine == pos.line) = true) : SndE Γ (.Call (.Attribute (.Name x xpos) "insert" apos) [e, f] [] pos) (dMut i mInsert as) false :=
  snd_mut PySem.F.slot_list_insert PySem.F.type_list_insert (fun X _ => mt_insert) rm_insert hN hv hx h he (show 2 < 20 by decide) hline
end
end Dn

/-! Den37: how the meanings of Den35, Den36 are taken apart. -/
namespace Dn
open PySem PySem.Spec L2
open PyProof.Rows hiding St
section
variable {Φ : Calls} {ρ : Env} {a b c : DenO} {e d : Den} {as : DenOs} {i j : Nat} {x k v : PyData} {ds : List PyData} {es : List (PyData × PyData)} {t neg : Bool} {s : Slot} {n m : Int} {so : DenI}
@[simp] theorem x_isTab : isTab ρ i = ((ρ[i]?).bind tabOf).isSome := id rfl
@[simp] theorem x_tabOf1 : tabOf (.odc t es) = some (t, es) := id rfl
@[simp] theorem x_tabOf2 : tabOf (.val (.dict es)) = some (false, es) := id rfl
def kTg2 (o : Option PyData) (ρ : Env) : Out (Slot × Env) := (opt o).bind fun d => .ok (.val d, ρ)
def kTg (o : Option (Bool × List (PyData × PyData))) (x : PyData) (ρ : Env) : Out (Slot × Env) := match o with
  | some (t, es) => guard' (kOk t x) (kTg2 (lookD es x) ρ)
  | none => .stuck
def kTg0 (i : Nat) : PyData × Env → Out (Slot × Env) := fun x => kTg ((x.2[i]?).bind tabOf) x.1 x.2
@[simp] theorem x_dTGet : dTGet i a Φ ρ = guard' (isTab ρ i) ((a Φ ρ).bind (kTg0 i)) := id rfl
@[simp] theorem x_dTGet0 : kTg0 i (x, ρ) = kTg ((ρ[i]?).bind tabOf) x ρ := id rfl
@[simp] theorem x_dTGet1 : kTg (some (t, es)) x ρ = guard' (kOk t x) (kTg2 (lookD es x) ρ) := id rfl
@[simp] theorem x_dTGet2 : kTg2 (some x) ρ = .ok (.val x, ρ) := id rfl
def kTi (neg : Bool) (o : Option (Bool × List (PyData × PyData))) (x : PyData) (ρ : Env) : Out (Slot × Env) := match o with
  | some (t, es) => guard' (kOk t x) (.ok (.val (.bool (if neg = true then !(lookD es x).isSome else (lookD es x).isSome)), ρ))
  | none => .stuck
def kTi0 (neg : Bool) (i : Nat) : PyData × Env → Out (Slot × Env) := fun x => kTi neg ((x.2[i]?).bind tabOf) x.1 x.2
@[simp] theorem x_dTIn : dTIn neg i a Φ ρ = (a Φ ρ).bind (kTi0 neg i) := id rfl
@[simp] theorem x_dTIn0 : kTi0 neg i (x, ρ) = kTi neg ((ρ[i]?).bind tabOf) x ρ := id rfl
@[simp] theorem x_dTIn1 : kTi true (some (t, es)) x ρ = guard' (kOk t x) (.ok (.val (.bool (!(lookD es x).isSome)), ρ)) := id rfl
@[simp] theorem x_dTIn2 : kTi false (some (t, es)) x ρ = guard' (kOk t x) (.ok (.val (.bool ((lookD es x).isSome)), ρ)) := id rfl
def kTp2 (o : Option Slot) (i : Nat) (k v : PyData) (ρ : Env) : Out (Fl × Env) := match o with
  | some (.odc t es) => guard' (kOk t k && decide (es.length < 1000000)) (.ok (.nx, ρ.set i (.odc t (putD es k v))))
  | _ => .stuck
def kTp1 (i : Nat) (v : PyData) : PyData × Env → Out (Fl × Env) := fun j => kTp2 (j.2[i]?) i j.1 v j.2
def kTp (i : Nat) (a : DenO) (Φ : Calls) : PyData × Env → Out (Fl × Env) := fun r => guard' (isTab r.2 i) ((a Φ r.2).bind (kTp1 i r.1))
@[simp] theorem x_dTPut : dTPut i a e Φ ρ = (oOf e Φ ρ).bind (kTp i a Φ) := id rfl
@[simp] theorem x_dTPut0 : kTp i a Φ (v, ρ) = guard' (isTab ρ i) ((a Φ ρ).bind (kTp1 i v)) := id rfl
@[simp] theorem x_dTPut1 : kTp1 i v (k, ρ) = kTp2 (ρ[i]?) i k v ρ := id rfl
@[simp] theorem x_dTPut2 : kTp2 (some (.odc t es)) i k v ρ = guard' (kOk t k && decide (es.length < 1000000)) (.ok (.nx, ρ.set i (.odc t (putD es k v)))) := id rfl
@[simp] theorem x_dNewD : dNewD t Φ ρ = .ok (.odc t [], ρ) := id rfl
@[simp] theorem x_dDispI : dDispI n m Φ ρ = .ok (.odc false [(.int n, .int m)], ρ) := id rfl
def kDn (o : Option Slot) (ρ : Env) : Out (Slot × Env) := match o with
  | some (.val d) => guard' (keyT d).isSome (.ok (.odc true [(d, .none)], ρ))
  | _ => .stuck
@[simp] theorem x_dDispN : dDispN j Φ ρ = kDn (ρ[j]?) ρ := id rfl
@[simp] theorem x_dDispN1 : kDn (some (.val x)) ρ = guard' (keyT x).isSome (.ok (.odc true [(x, .none)], ρ)) := id rfl
def kIk (o : Option Slot) (i : Nat) (ρ : Env) : Out (List PyData × Env) := match o with
  | some (.odc false es) => .ok (es.map (·.1), ρ.set i (.val (.dict es)))
  | _ => .stuck
@[simp] theorem x_iDictK : iDictK i Φ ρ = kIk (ρ[i]?) i ρ := id rfl
@[simp] theorem x_iDictK1 : kIk (some (.odc false es)) i ρ = .ok (es.map (·.1), ρ.set i (.val (.dict es))) := id rfl
def kLd : Slot × Env → Out (Slot × Env) := fun r => match r.1 with
  | .odc true es => guard' (decide (es.length ≤ 1000000)) (.ok (.own (es.map (·.1)), r.2))
  | _ => .stuck
@[simp] theorem x_dListD : dListD d Φ ρ = (d Φ ρ).bind kLd := id rfl
@[simp] theorem x_dListD1 : kLd (.odc true es, ρ) = guard' (decide (es.length ≤ 1000000)) (.ok (.own (es.map (·.1)), ρ)) := id rfl
@[simp] theorem x_isTabF1 : isTabF (.odc false es :: ρ) 0 = true := id rfl
@[simp] theorem x_isTabF2 : isTabF (.val (.dict es) :: ρ) 0 = true := id rfl
@[simp] theorem x_isTabF3 : isTabF (s :: ρ) (i + 1) = isTabF ρ i := by
  unfold isTabF
  rw [List.getElem?_cons_succ]
def kGd (o : Option (Bool × List (PyData × PyData))) (l : List PyData) (ρ : Env) : Out (Slot × Env) := match o, l with
  | some (false, es), [k, d] => guard' (keyK k).isSome (.ok (.val ((lookD es k).getD d), ρ))
  | _, _ => .stuck
def kGd0 (i : Nat) : List PyData × Env → Out (Slot × Env) := fun x => kGd ((x.2[i]?).bind tabOf) x.1 x.2
@[simp] theorem x_dTGetD : dTGetD i as Φ ρ = guard' (isTabF ρ i) ((as Φ ρ).bind (kGd0 i)) := id rfl
@[simp] theorem x_dTGetD0 : kGd0 i (ds, ρ) = kGd ((ρ[i]?).bind tabOf) ds ρ := id rfl
@[simp] theorem x_dTGetD1 : kGd (some (false, es)) [k, v] ρ = guard' (keyK k).isSome (.ok (.val ((lookD es k).getD v), ρ)) := id rfl
def kMv (o : Option Slot) (i j : Nat) (ρ : Env) : Out (Fl × Env) := match o with
  | some (.val d) => .ok (.nx, ρ.set i (.val d))
  | some (.own ds) => .ok (.nx, (ρ.set j .un).set i (.own ds))
  | some (.odc t es) => .ok (.nx, (ρ.set j .un).set i (.odc t es))
  | _ => .stuck
@[simp] theorem x_dMvS : dMvS i j Φ ρ = kMv (ρ[j]?) i j ρ := id rfl
@[simp] theorem x_dMvS1 : kMv (some (.val x)) i j ρ = .ok (.nx, ρ.set i (.val x)) := id rfl
@[simp] theorem x_dMvS2 : kMv (some (.own ds)) i j ρ = .ok (.nx, (ρ.set j .un).set i (.own ds)) := id rfl
@[simp] theorem x_dMvS3 : kMv (some (.odc t es)) i j ρ = .ok (.nx, (ρ.set j .un).set i (.odc t es)) := id rfl
@[simp] theorem x_kOkI : kOk false (.int n) = true := id rfl
@[simp] theorem x_kOkP {p : Int × Int} : kOk true (prD p) = true := id rfl
@[simp] theorem x_kOkP2 : kOk true (.tuple [.int n, .int m]) = true := id rfl
theorem x_kOkN (ns : List Int) : kOk true (.tuple (nsD ns)) = true := by
  show (numsOf (nsD ns)).isSome = true
  rw [numsOf_map]
  rfl
@[simp] theorem x_keyKI : keyK (.int n) = some (.inl n) := id rfl
@[simp] theorem x_keyTP {p : Int × Int} : keyT (prD p) = some [p.1, p.2] := id rfl
@[simp] theorem x_keyTP2 : keyT (.tuple [.int n, .int m]) = some [n, m] := id rfl
@[simp] theorem x_orI : pOrI [.int n, .int m] = some (.val (.int (Builtin.bitOr n m))) := id rfl
def kTr : List PyData × Env → Out (Slot × Env) := fun r => guard' (decide (r.1.length ≤ 1000000)) (.ok (.val (.tuple r.1), r.2))
@[simp] theorem x_dTupR : dTupR so Φ ρ = (so Φ ρ).bind kTr := id rfl
@[simp] theorem x_dTupR1 : kTr (ds, ρ) = guard' (decide (ds.length ≤ 1000000)) (.ok (.val (.tuple ds), ρ)) := id rfl
def kR3c (x y : PyData) : PyData × Env → Out (List PyData × Env) := fun t => match x, y, t.1 with
  | .int i, .int j, .int k => guard' (rg3B i j k (Builtin.Range.rangeSize i j k).toNat) (.ok (rngC i k (Builtin.Range.rangeSize i j k).toNat, t.2))
  | _, _, _ => .stuck
def kR3b (c : DenO) (Φ : Calls) (x : PyData) : PyData × Env → Out (List PyData × Env) := fun s => (c Φ s.2).bind (kR3c x s.1)
def kR3 (b c : DenO) (Φ : Calls) : PyData × Env → Out (List PyData × Env) := fun r => (b Φ r.2).bind (kR3b c Φ r.1)
@[simp] theorem x_iR3 : iR3 a b c Φ ρ = (a Φ ρ).bind (kR3 b c Φ) := id rfl
@[simp] theorem x_iR3a : kR3 b c Φ (x, ρ) = (b Φ ρ).bind (kR3b c Φ x) := id rfl
@[simp] theorem x_iR3b : kR3b c Φ x (k, ρ) = (c Φ ρ).bind (kR3c x k) := id rfl
@[simp] theorem x_iR3c {l : Int} : kR3c (.int n) (.int m) (.int l, ρ) = guard' (rg3B n m l (Builtin.Range.rangeSize n m l).toNat) (.ok (rngC n l (Builtin.Range.rangeSize n m l).toNat, ρ)) := id rfl
end
/-! ### tables of pairs -/
/-- keys pairs -/
def tabP {α : Type} (f : α → PyData) (L : List ((Int × Int) × α)) : List (PyData × PyData) := L.map fun e => (prD e.1, f e.2)
def lookL {κ α : Type} [DecidableEq κ] (L : List (κ × α)) (k : κ) : Option α := (L.find? fun e => decide (e.1 = k)).map (·.2)
def putL {κ α : Type} [DecidableEq κ] (L : List (κ × α)) (k : κ) (v : α) : List (κ × α) := if (lookL L k).isSome = true then L.map (fun e => if e.1 = k then (e.1, v) else e) else L ++ [(k, v)]
/-- keys by a coding -/
theorem lookD_enc {κ α : Type} [DecidableEq κ] (enc : κ → PyData) (he : ∀ a b, kEq (enc a) (enc b) = decide (a = b)) (f : α → PyData) : ∀ (L : List (κ × α)) (k : κ), lookD (L.map fun e => (enc e.1, f e.2)) (enc k) = (lookL L k).map f
  | [], _ => rfl
  | e :: L, k => by
    have ih := lookD_enc enc he f L k
    unfold lookD lookL at ih ⊢
    rw [List.map_cons, List.find?_cons, List.find?_cons]
    have h := he e.1 k
    by_cases c : e.1 = k
    · subst c
      simp only [h, decide_true, Option.map_some]
    · simp only [h, c, decide_false]
      exact ih
theorem putD_enc {κ α : Type} [DecidableEq κ] (enc : κ → PyData) (he : ∀ a b, kEq (enc a) (enc b) = decide (a = b)) (f : α → PyData) (L : List (κ × α)) (k : κ) (v : α) : putD (L.map fun e => (enc e.1, f e.2)) (enc k) (f v) = (putL L k v).map fun e => (enc e.1, f e.2) := by
  unfold putD putL
  rw [lookD_enc enc he f, Option.isSome_map]
  split
  · rw [List.map_map, List.map_map]
    refine List.map_congr_left fun e _ => ?_
    have h := he e.1 k
    by_cases c : e.1 = k
    · have h1 : kEq (enc k) (enc k) = true := by rw [he]; exact decide_eq_true rfl
      simp [h1, c]
    · simp [h, c]
  · rw [List.map_append]
    rfl
theorem kEq_int (a b : Int) : kEq (.int a) (.int b) = decide (a = b) := rfl
theorem lookD_pr {α : Type} (f : α → PyData) (L : List ((Int × Int) × α)) (k : Int × Int) : lookD (L.map fun e => (prD e.1, f e.2)) (prD k) = (lookL L k).map f := lookD_enc prD kEq_pr f L k
theorem putD_pr {α : Type} (f : α → PyData) (L : List ((Int × Int) × α)) (k : Int × Int) (v : α) : putD (L.map fun e => (prD e.1, f e.2)) (prD k) (f v) = (putL L k v).map fun e => (prD e.1, f e.2) := putD_enc prD kEq_pr f L k v
theorem lookD_in {α : Type} (f : α → PyData) (L : List (Int × α)) (k : Int) : lookD (L.map fun e => (.int e.1, f e.2)) (.int k) = (lookL L k).map f := lookD_enc PyData.int kEq_int f L k
theorem putD_in {α : Type} (f : α → PyData) (L : List (Int × α)) (k : Int) (v : α) : putD (L.map fun e => (.int e.1, f e.2)) (.int k) (f v) = (putL L k v).map fun e => (.int e.1, f e.2) := putD_enc PyData.int kEq_int f L k v
section
variable {κ α : Type} [DecidableEq κ]
theorem lookL_none {L : List (κ × α)} {k : κ} : lookL L k = none ↔ k ∉ L.map (·.1) := by
  unfold lookL
  rw [Option.map_eq_none_iff, List.find?_eq_none, List.mem_map]
  constructor
  · rintro h ⟨e, he, rfl⟩
    exact h e he (decide_eq_true rfl)
  · intro h e he z
    exact h ⟨e, he, of_decide_eq_true z⟩
theorem lookL_some {L : List (κ × α)} {k : κ} {v : α} (h : lookL L k = some v) : (k, v) ∈ L := by
  obtain ⟨e, he, rfl⟩ := Option.map_eq_some_iff.mp h
  have h1 := List.mem_of_find?_eq_some he
  have h2 : e.1 = k := by simpa using List.find?_some he
  rw [← h2]
  exact h1
theorem lookL_of {L : List (κ × α)} (nd : (L.map (·.1)).Nodup) {k : κ} {v : α} (h : (k, v) ∈ L) : lookL L k = some v := by
  induction L with
  | nil => cases h
  | cons e L ih =>
    rw [List.map_cons, List.nodup_cons] at nd
    unfold lookL
    rw [List.find?_cons]
    rcases List.mem_cons.mp h with z | z
    · subst z
      simp
    · have ne : ¬ e.1 = k := fun q => nd.1 (by rw [q]; exact List.mem_map.mpr ⟨_, z, rfl⟩)
      simp only [ne, decide_false]
      exact ih nd.2 z
theorem putL_new {L : List (κ × α)} {k : κ} {v : α} (h : lookL L k = none) : putL L k v = L ++ [(k, v)] := by
  unfold putL
  rw [h]
  rfl
theorem lookL_put {L : List (κ × α)} {k j : κ} {v : α} : lookL (putL L k v) j = if j = k then some v else lookL L j := by
  by_cases c : (lookL L k).isSome = true
  · unfold putL
    rw [if_pos c]
    induction L with
    | nil => cases c
    | cons e L ih =>
      rw [List.map_cons]
      unfold lookL at c ⊢
      rw [List.find?_cons] at c ⊢
      by_cases q : e.1 = k
      · simp only [q, if_true]
        by_cases z : j = k
        · simp [z]
        · have z' : ¬ k = j := fun y => z y.symm
          simp only [z, z', decide_false, if_false]
          rw [List.find?_cons]
          simp only [q, z', decide_false]
          have key : ∀ M : List (κ × α), (M.map fun e => if e.1 = k then (e.1, v) else e).find? (fun e => decide (e.1 = j)) = M.find? (fun e => decide (e.1 = j)) := by
            intro M
            induction M with
            | nil => rfl
            | cons m M ih =>
              rw [List.map_cons, List.find?_cons, List.find?_cons, ih]
              by_cases w : m.1 = k
              · have w2 : ¬ m.1 = j := fun y => z (y.symm.trans w)
                simp only [w, if_true, z', decide_false]
              · simp only [w, if_false]
          rw [key]
      · simp only [q, decide_false, if_false] at c ⊢
        by_cases z : e.1 = j
        · have : ¬ j = k := fun y => q (z.trans y)
          simp only [z, decide_true, this, if_false, List.find?_cons]
        · have := ih c
          unfold lookL at this
          simp only [z, decide_false, List.find?_cons]
          exact this
  · have hn : lookL L k = none := by
      cases q : lookL L k with
      | none => rfl
      | some _ => rw [q] at c; exact absurd rfl c
    rw [putL_new hn]
    unfold lookL at hn ⊢
    rw [List.find?_append]
    have hn := Option.map_eq_none_iff.mp hn
    by_cases z : j = k
    · subst z
      rw [hn]
      simp
    · have z' : ¬ k = j := fun y => z y.symm
      simp [z, z']
end
end Dn

/-! Den38: things of any kind, for the laws that hand them in (plain). -/
namespace Dn
open PySem PySem.Spec L2
open PyProof.Rows hiding St
/-- small data -/
abbrev L0 (d : PyData) : Prop := Sn 12 17000 d
theorem big100' : (1000000 : Nat) < 2 ^ 100 := by decide
theorem L0.int {i : Int} (h : -1000000 < i ∧ i < 1000000) : Sn 1 2000 (.int i) := .int (Nat.lt_trans (by omega) big100') (by decide)
theorem L0.tup8 {ds : List PyData} (h : ∀ d ∈ ds, Sn 11 2000 d) (hl : ds.length ≤ 8) : L0 (.tuple ds) := .tup (k := 11) (w := 2000) h (by decide) (by omega)
theorem L0.lst8 {ds : List PyData} (h : ∀ d ∈ ds, Sn 11 2000 d) (hl : ds.length ≤ 8) : L0 (.list ds) := .lst (k := 11) (w := 2000) h (by decide) (by omega)
theorem L0.ns {ns : List Int} (h : ∀ i ∈ ns, -1000000 < i ∧ i < 1000000) (hl : ns.length ≤ 8) : L0 (.tuple (nsD ns)) := .tup8 (fun d hd => by
  obtain ⟨i, hi, rfl⟩ := List.mem_map.mp hd
  exact (L0.int (h i hi)).mono (by decide) (by decide)) (by rw [List.length_map]; exact hl)
theorem L0.nsL {ns : List Int} (h : ∀ i ∈ ns, -1000000 < i ∧ i < 1000000) (hl : ns.length ≤ 8) : L0 (.list (nsD ns)) := .lst8 (fun d hd => by
  obtain ⟨i, hi, rfl⟩ := List.mem_map.mp hd
  exact (L0.int (h i hi)).mono (by decide) (by decide)) (by rw [List.length_map]; exact hl)
theorem L0.pr {p : Int × Int} (h : (-1000000 < p.1 ∧ p.1 < 1000000) ∧ -1000000 < p.2 ∧ p.2 < 1000000) : L0 (prD p) := L0.ns (ns := [p.1, p.2]) (fun i hi => by
  simp only [List.mem_cons, List.not_mem_nil, or_false] at hi
  rcases hi with rfl | rfl
  · exact h.1
  · exact h.2) (by simp)
/-- what is handed in -/
structure Thing (d : PyData) : Prop where
  rp : reprOk d = true
  ln : ∀ ds, d = .list ds → ds.length ≤ 900
theorem Thing.lst {ds : List PyData} (h : ∀ d ∈ ds, L0 d) (hl : ds.length ≤ 900) : Thing (.list ds) :=
  ⟨(Sn.lst (k := 12) (w := 17000) (k' := 13) (w' := 15990000) h (by decide) (by omega)).repr (by decide) (by decide), fun es e => by cases e; exact hl⟩
theorem Thing.tup {ds : List PyData} (h : ∀ d ∈ ds, L0 d) (hl : ds.length ≤ 900) : Thing (.tuple ds) :=
  ⟨(Sn.tup (k := 12) (w := 17000) (k' := 13) (w' := 15990000) h (by decide) (by omega)).repr (by decide) (by decide), fun es e => by cases e⟩
theorem L0.thing {d : PyData} (h : L0 d) (hl : ∀ ds, d = .list ds → ds.length ≤ 900) : Thing d := ⟨h.repr (by decide) (by decide), hl⟩
/-- a result that is such a thing -/
def ResT (s : Slot) : Prop := ∃ d, (s = .val d ∨ ∃ ds, s = .own ds ∧ d = .list ds) ∧ Thing d
theorem ResT.val {d : PyData} (h : Thing d) : ResT (.val d) := ⟨d, .inl rfl, h⟩
theorem ResT.own {ds : List PyData} (h : Thing (.list ds)) : ResT (.own ds) := ⟨_, .inr ⟨ds, rfl, rfl⟩, h⟩
theorem addL {A B : List PyData} (h : A.length + B.length ≤ 1000000) : pAdd [.list A, .list B] = some (.own (A ++ B)) := by
  show (if A.length + B.length ≤ 1000000 then some (Slot.own (A ++ B)) else none) = _
  rw [if_pos h]
theorem slcL (ds : List PyData) (a b : Option Int) : pSlc (.list ds) a b = some (.own (cutD ds a b)) := rfl
/-- a pair out of a list of pairs -/
theorem atI_ps {L : List (Int × Int)} {i : Int} (h0 : 0 ≤ i) (h1 : i < L.length) : ∃ p, atI (psD L) i = some (prD p) ∧ p ∈ L := by
  obtain ⟨d, e, hd⟩ := atI_mem (ds := psD L) h0 (by rw [List.length_map]; exact h1)
  obtain ⟨p, hp, rfl⟩ := List.mem_map.mp hd
  exact ⟨p, e, hp⟩
theorem psD_len (L : List (Int × Int)) : (psD L).length = L.length := List.length_map _
theorem last_ps {L : List (Int × Int)} (h : L ≠ []) : ∃ p, atI (psD L) (-1) = some (prD p) ∧ p ∈ L := by
  have e : L = L.dropLast ++ [L.getLast h] := (List.dropLast_concat_getLast h).symm
  refine ⟨L.getLast h, ?_, List.getLast_mem h⟩
  have : psD L = psD L.dropLast ++ [prD (L.getLast h)] := by
    rw [← List.map_singleton, ← List.map_append, ← e]
  rw [this]
  exact x_last _ _
/-- == [] of whatever list -/
theorem eqL0 (ds : List PyData) : pEq [.list ds, .list []] = some (.val (.bool (decide (ds = [])))) := by
  cases ds with
  | nil => rfl
  | cons d ds =>
    have h2 : otherLen (.list (d :: ds)) (.list []) = true := by simp [otherLen]
    have : pEq [.list (d :: ds), .list []] = if (SeqAt.shaped (.list (d :: ds)) && SeqAt.shaped (.list [])) = true then some (Slot.val (.bool (PyData.eqv (.list (d :: ds)) (.list [])))) else if otherLen (.list (d :: ds)) (.list []) = true then some (.val (.bool false)) else none := rfl
    rw [this, h2]
    simp [PyData.eqv, PyData.eqvAll]
theorem neL0 (ds : List PyData) : pNe [.list ds, .list []] = some (.val (.bool (!decide (ds = [])))) := by
  cases ds with
  | nil => rfl
  | cons d ds =>
    have h2 : otherLen (.list (d :: ds)) (.list []) = true := by simp [otherLen]
    have : pNe [.list (d :: ds), .list []] = if (SeqAt.shaped (.list (d :: ds)) && SeqAt.shaped (.list [])) = true then some (Slot.val (.bool (!PyData.eqv (.list (d :: ds)) (.list [])))) else if otherLen (.list (d :: ds)) (.list []) = true then some (.val (.bool true)) else none := rfl
    rw [this, h2]
    simp [PyData.eqv, PyData.eqvAll]
theorem eqBB (b c : Bool) : pEq [.bool b, .bool c] = some (.val (.bool (b == c))) := by cases b <;> cases c <;> rfl
theorem neBB (b c : Bool) : pNe [.bool b, .bool c] = some (.val (.bool (!(b == c)))) := by cases b <;> cases c <;> rfl
/-- a display's item -/
theorem wp_item {L : List PyData} {i : Int} {ρ : Env} {α β : Type} {K : Slot × Env → Out α} {K2 : α → Out β} {P : β → Prop} {E : Exc → Prop} (h0 : 0 ≤ i) (h1 : i < L.length) (h : ∀ d ∈ L, (((kP2 (some (.val d)) ρ).bind K).bind K2).wp P E) : (((kP2 ((atI L i).map Slot.val) ρ).bind K).bind K2).wp P E := by
  obtain ⟨d, e, hd⟩ := atI_mem h0 h1
  rw [e]
  exact h d hd
theorem wp_item1 {L : List PyData} {i : Int} {ρ : Env} {α : Type} {K : Slot × Env → Out α} {P : α → Prop} {E : Exc → Prop} (h0 : 0 ≤ i) (h1 : i < L.length) (h : ∀ d ∈ L, ((kP2 (some (.val d)) ρ).bind K).wp P E) : ((kP2 ((atI L i).map Slot.val) ρ).bind K).wp P E := by
  obtain ⟨d, e, hd⟩ := atI_mem h0 h1
  rw [e]
  exact h d hd
theorem atI_ex {L : List PyData} {i : Int} {x : Option PyData} (h : atI L i = x) (h0 : 0 ≤ i) (h1 : i < L.length) : ∃ d, d ∈ L ∧ x = some d := by
  obtain ⟨d, e, hd⟩ := atI_mem h0 h1
  exact ⟨d, hd, h.symm.trans e⟩
theorem mod_in (b : Int) {m : Int} (h : 0 < m) : 0 ≤ b % m ∧ b % m < m := ⟨Int.emod_nonneg b (by omega), Int.emod_lt_of_pos b h⟩
theorem revP (L : List (Int × Int)) : (psD L).reverse = psD L.reverse := by unfold psD; rw [List.map_reverse]
/-- all of the one are of the other -/
def SubP (F T : List (Int × Int)) : Prop := ∀ p ∈ F, p ∈ T
theorem SubP.snoc {F T : List (Int × Int)} {u : Int × Int} (h : SubP F T) (hu : u ∈ T) : SubP (F ++ [u]) T := fun p hp => (List.mem_append.mp hp).elim (h p) fun z => by rw [List.mem_singleton.mp z]; exact hu
theorem SubP.one {T : List (Int × Int)} {u : Int × Int} (hu : u ∈ T) : SubP [u] T := fun p z => by rw [List.mem_singleton.mp z]; exact hu
theorem SubP.nil {T : List (Int × Int)} : SubP [] T := fun p z => absurd z List.not_mem_nil
theorem SubP.filter {T : List (Int × Int)} {f : Int × Int → Bool} : SubP (T.filter f) T := fun p hp => (List.mem_filter.mp hp).1
theorem SubP.refl {T : List (Int × Int)} : SubP T T := fun p hp => hp
theorem SubP.trans {A B C : List (Int × Int)} (h : SubP A B) (g : SubP B C) : SubP A C := fun p hp => g p (h p hp)
theorem forall_app {α : Type} {P : α → Prop} {A B : List α} (h1 : ∀ d ∈ A, P d) (h2 : ∀ d ∈ B, P d) : ∀ d ∈ A ++ B, P d := fun d hd => (List.mem_append.mp hd).elim (h1 d) (h2 d)
theorem forall_one {α : Type} {P : α → Prop} {a : α} (h : P a) : ∀ d ∈ [a], P d := fun d hd => by rw [List.mem_singleton.mp hd]; exact h
theorem forall_cut {P : PyData → Prop} {ds : List PyData} {a b : Option Int} (h : ∀ d ∈ ds, P d) : ∀ d ∈ cutD ds a b, P d := fun d hd => h d (cutD_mem hd)
end Dn

/-! Den39: tables of a search: each thing with the one it comes of (plain). -/
namespace Dn
open PySem PySem.Spec L2
open PyProof.Rows hiding St
abbrev CamL := List ((Int × Int) × Option (Int × Int))
def optD : Option (Int × Int) → PyData
  | none => .none
  | some p => prD p
def camD (L : CamL) : List (PyData × PyData) := L.map fun e => (prD e.1, optD e.2)
def keysL (L : CamL) : List (Int × Int) := L.map (·.1)
theorem keysL_len (L : CamL) : (keysL L).length = L.length := List.length_map _
theorem keysL_app (L : CamL) (x : Int × Int) (o : Option (Int × Int)) : keysL (L ++ [(x, o)]) = keysL L ++ [x] := by simp [keysL]
/-- on the way back -/
def BackI (L : CamL) (T : List (Int × Int)) (k : Nat) (G : List (Int × Int)) : Prop := ∃ v F, G = v :: F ∧ v ∈ keysL L ∧ k = (keysL L).idxOf v ∧ F.length + k ≤ 64 ∧ SubP G T
theorem camD_keys (L : CamL) : (camD L).map (·.1) = psD (keysL L) := by
  unfold camD psD keysL
  rw [List.map_map, List.map_map]
  rfl
theorem camD_len (L : CamL) : (camD L).length = L.length := List.length_map _
theorem lookCam (L : CamL) (k : Int × Int) : lookD (camD L) (prD k) = (lookL L k).map optD := lookD_pr optD L k
theorem putCam (L : CamL) (k y : Int × Int) (h : lookL L k = none) : putD (camD L) (prD k) (prD y) = camD (L ++ [(k, some y)]) := by
  have := putD_pr optD L k (some y)
  rw [putL_new h] at this
  exact this
/-- every thing but the first comes of an earlier one -/
structure Came (T : List (Int × Int)) (s : Int × Int) (E : Int × Int → Int × Int → Prop) (L : CamL) : Prop where
  nd : (keysL L).Nodup
  sub : SubP (keysL L) T
  hd : ∃ L', L = (s, none) :: L'
  pr : ∀ (i : Nat) (e : (Int × Int) × Option (Int × Int)), L[i]? = some e → i ≠ 0 → ∃ (j : Nat) (y : Int × Int), j < i ∧ (keysL L)[j]? = some y ∧ e.2 = some y ∧ E y e.1
section
variable {T : List (Int × Int)} {s : Int × Int} {E : Int × Int → Int × Int → Prop} {L : CamL}
theorem Came.start (hs : s ∈ T) : Came T s E [(s, none)] := by
  refine ⟨by simp [keysL], fun p hp => ?_, ⟨[], rfl⟩, fun i e h ne => ?_⟩
  · have hp : p ∈ [s] := hp
    rw [List.mem_singleton.mp hp]; exact hs
  · cases i with
    | zero => exact absurd rfl ne
    | succ i => simp at h
theorem Came.len (c : Came T s E L) : L.length ≤ T.length := by
  have := nodup_sub_len (keysL L) T c.nd c.sub
  rwa [keysL_len] at this
theorem Came.push (c : Came T s E L) {x y : Int × Int} {j : Nat} (hx : x ∈ T) (hn : lookL L x = none) (hy : (keysL L)[j]? = some y) (he : E y x) : Came T s E (L ++ [(x, some y)]) := by
  have hn : x ∉ keysL L := lookL_none.mp hn
  have ek := keysL_app L x (some y)
  refine ⟨?_, ?_, ?_, fun i e h ne => ?_⟩
  · rw [ek]
    exact List.nodup_append.mpr ⟨c.nd, by simp, fun a ha b hb e => by
      rw [List.mem_singleton.mp hb] at e
      subst e
      exact hn ha⟩
  · rw [ek]; exact c.sub.snoc hx
  · obtain ⟨L', rfl⟩ := c.hd
    exact ⟨L' ++ [(x, some y)], rfl⟩
  · rw [ek]
    have lt : ∀ {k : Nat} {z : Int × Int}, (keysL L)[k]? = some z → (keysL L ++ [x])[k]? = some z := fun {k z} q => by
      have := (List.getElem?_eq_some_iff.mp q).1
      rw [List.getElem?_append_left this]
      exact q
    by_cases lti : i < L.length
    · rw [List.getElem?_append_left lti] at h
      obtain ⟨j', y', h1, h2, h3, h4⟩ := c.pr i e h ne
      exact ⟨j', y', h1, lt h2, h3, h4⟩
    · rw [List.getElem?_append_right (by omega)] at h
      have i0 : i - L.length = 0 := by
        have := (List.getElem?_eq_some_iff.mp h).1
        simp at this
        omega
      rw [i0] at h
      cases h
      have := (List.getElem?_eq_some_iff.mp hy).1
      rw [keysL_len] at this
      exact ⟨j, y, by omega, lt hy, rfl, he⟩
/-- a thing's entry -/
theorem Came.look (c : Came T s E L) {x : Int × Int} (hx : x ∈ keysL L) : ∃ o, lookL L x = some o ∧ ((o = none ∧ x = s) ∨ ∃ y, o = some y ∧ y ∈ keysL L ∧ (keysL L).idxOf y < (keysL L).idxOf x ∧ E y x) := by
  have hi := List.idxOf_lt_length_of_mem hx
  have gi : (keysL L)[(keysL L).idxOf x]? = some x := by
    rw [List.getElem?_eq_getElem hi, List.getElem_idxOf hi]
  rw [keysL_len] at hi
  have ei : L[(keysL L).idxOf x]? = some (L[(keysL L).idxOf x]'hi) := List.getElem?_eq_getElem hi
  generalize L[(keysL L).idxOf x]'hi = e at ei
  have ex : e.1 = x := by
    unfold keysL at gi ei
    rw [List.getElem?_map, ei] at gi
    exact Option.some.inj gi
  refine ⟨e.2, lookL_of c.nd (by rw [← ex]; exact List.mem_of_getElem? ei), ?_⟩
  by_cases z : (keysL L).idxOf x = 0
  · left
    obtain ⟨L', hL⟩ := c.hd
    rw [z, hL] at ei
    have : (s, none) = e := by simpa using ei
    rw [← this]
    refine ⟨rfl, ?_⟩
    rw [← ex, ← this]
  · right
    obtain ⟨j, y, h1, h2, h3, h4⟩ := c.pr _ e ei z
    refine ⟨y, h3, List.mem_of_getElem? h2, ?_, by rw [← ex]; exact h4⟩
    have hj := (List.getElem?_eq_some_iff.mp h2).1
    have : (keysL L).idxOf y = j := by
      have := (List.getElem?_eq_some_iff.mp h2).2
      rw [← this]
      exact c.nd.idxOf_getElem j hj
    omega
theorem Came.ne (c : Came T s E L) : L ≠ [] := by
  obtain ⟨L', rfl⟩ := c.hd
  simp
end
/-- a way back: each one comes of the one ahead -/
def BackP (s : Int × Int) (E : Int × Int → Int × Int → Prop) : List (Int × Int) → Prop
  | [] => False
  | [_] => True
  | a :: b :: F => E a b ∧ BackP s E (b :: F)
end Dn

/-! Den40: o[a], o[b] = x, y; (a, b), (c, d) = x, y. -/
namespace Dn
open PySem PySem.Spec L2
open PyProof.Rows hiding St
def notNm : Expr → Bool
  | .Subscript _ _ _ => true
  | .Tuple _ _ _ => true
  | _ => false
theorem stores_none {t1 t2 : Expr} {vs : List Expr} {k k2 : Nat} {p p2 : Pos} {env : PySem.Env} (h1 : notNm t1 = true) (h2 : notNm t2 = true) : swappedStores [.Tuple [t1, t2] k p] (.Tuple vs k2 p2) env = pure none := by
  unfold swappedStores
  cases t1 <;> first | (cases h1; done) | skip
  all_goals
    cases t2 <;> first | (cases h2; done) | skip
  all_goals
    simp
/-- o[a], o[b] = x, y: o an own list, a, b names -/
def dSwp (i k1 k2 : Nat) (vs : DenOs) : DenS := fun Φ ρ => (vs Φ ρ).bind fun r => match r.1, r.2[k1]?, r.2[k2]?, r.2[i]? with
  | [x, y], some (.val (.int a)), some (.val (.int b)), some (.own ds) => (opt (ixN ds.length a)).bind fun m => (opt (ixN ds.length b)).bind fun m2 => .ok (.nx, r.2.set i (.own ((ds.set m x).set m2 y)))
  | _, _, _, _ => .stuck
theorem dSwp_of {D : Ends} {X : Cx} {B : Bd} {F : Hp} {W : WX} {l : List PyData} {ρ : Env} {i k1 k2 : Nat} (h : (match l, ρ[k1]?, ρ[k2]?, ρ[i]? with
    | [x, y], some (.val (.int a)), some (.val (.int b)), some (.own ds) => (opt (ixN ds.length a)).bind fun m => (opt (ixN ds.length b)).bind fun m2 => Out.ok (Fl.nx, ρ.set i (.own ((ds.set m x).set m2 y)))
    | _, _, _, _ => .stuck).wp (StP B F D) (ExS X B F W)) : ∃ x y a b ds m m2, l = [x, y] ∧ ρ[k1]? = some (.val (.int a)) ∧ ρ[k2]? = some (.val (.int b)) ∧ ρ[i]? = some (.own ds) ∧ ixN ds.length a = some m ∧ ixN ds.length b = some m2 ∧ StP B F D (Fl.nx, ρ.set i (.own ((ds.set m x).set m2 y))) := by
  split at h
  · rename_i x y a b ds h1 h2 h3
    cases e1 : ixN ds.length a with
    | none => rw [e1] at h; exact h.elim
    | some m =>
      rw [e1] at h
      cases e2 : ixN ds.length b with
      | none =>
        replace h : ((opt (ixN ds.length b)).bind fun m2 => Out.ok (Fl.nx, ρ.set i (.own ((ds.set m x).set m2 y)))).wp (StP B F D) (ExS X B F W) := h
        rw [e2] at h
        exact h.elim
      | some m2 =>
        replace h : ((opt (ixN ds.length b)).bind fun m2 => Out.ok (Fl.nx, ρ.set i (.own ((ds.set m x).set m2 y)))).wp (StP B F D) (ExS X B F W) := h
        rw [e2] at h
        exact ⟨x, y, a, b, ds, m, m2, rfl, h1, h2, h3, e1, e2, h⟩
  · exact h.elim
section
variable {Γ : Ctx} {x y z : Str} {i k1 k2 : Nat} {vs : DenOs} {p : Bool} {a b : Expr} {xp yp zp xp2 sp sp2 pos tp vp : Pos} {kt kv : Nat}
theorem snd_swp (hN : Γ.N[i]? = some x) (hv : visB Γ.sc x = true) (hx : okName x = true) (hN1 : Γ.N[k1]? = some y) (hv1 : visB Γ.sc y = true) (hy : okName y = true) (hN2 : Γ.N[k2]? = some z) (hv2 : visB Γ.sc z = true) (hz : okName z = true)
    (h : SndFs Γ [a, b] vs p) (he : [a, b].all plainE = true) :
    SndS Γ (.Assign [.Tuple [.Subscript (.Name x xp) (.Name y yp) sp, .Subscript (.Name x xp2) (.Name z zp) sp2] kt tp] (.Tuple [a, b] kv vp) pos) (dSwp i k1 k2 vs) := by
  intro X Φ B F H ρ σ D W C BO bo hK T R hq
  have P : ∀ q, PE X (.Name x q) (tVar i) := fun q => pe_var (by rw [C.nm]; exact hN) (by rw [C.sc]; exact vis_of hv) (okName_d hx) (okName_c hx)
  have P1 : PE X (.Name y yp) (tVar k1) := pe_var (by rw [C.nm]; exact hN1) (by rw [C.sc]; exact vis_of hv1) (okName_d hy) (okName_c hy)
  have P2 : PE X (.Name z zp) (tVar k2) := pe_var (by rw [C.nm]; exact hN2) (by rw [C.sc]; exact vis_of hv2) (okName_d hz) (okName_c hz)
  refine PS.w (ps_asg (pe_tupF (pa_ws he)) (pg_tup C.calm (pgs_cons (pg_sub (P xp) P1 set_list) (pgs_cons (pg_sub (P xp2) P2 set_list) pgs_nil))) (sole_of rfl) (stores_none rfl rfl) rfl) ?_
  unfold tAsg tTupF
  dsimp only
  refine h X Φ B F H ρ σ _ W C hK T R (wp_mono (wp_bind (c := vs Φ ρ) hq) (fun r q ws F1 H1 R1 e1 _ hws => ?_) ExS.ex)
  obtain ⟨l, ρ1⟩ := r
  have R1 : Rel B F1 H1 ρ1 σ := R1
  obtain ⟨u, v, na, nb, ds, m, m2, rfl, g1, g2, g3, g4, g5, q⟩ := dSwp_of q
  match ws, hws with
  | [w1, w2], .cons r1 (.cons r2 .nil) =>
    refine ⟨by show 2 ≤ sizeLine; decide, fun t o ht ho => ?_⟩
    have G : Grow F1 H1 (upd F1 t (.frz o (.tup [w1, w2]))) (upd H1 t (.frz o (.tup [w1, w2]))) := Grow.new R1.kept.ex ht
    have R2 := R1.add G
    obtain ⟨c, oo, k3, k4, k5, k6, k7⟩ := R2.sl.own i _ g3 rfl
    obtain ⟨vl, rfl, rv⟩ := k6
    obtain ⟨va, s1, s2⟩ := R2.sl.val k1 _ g1
    obtain ⟨vb, s3, s4⟩ := R2.sl.val k2 _ g2
    cases s2
    cases s4
    have hlen : ds.length = vl.length := rv.length
    have e5 : (ds.set m u).length = (vl.set m w1).length := by simp [hlen]
    refine ⟨t, [w1, w2], rfl, .inl (.inr ⟨o, upd_same⟩), rfl, w1, [w2], rfl, _, k3, _, s1, c, vl, na, m, rfl, rfl, k5, by rw [← hlen]; exact g4, w2, [], rfl, _, k3, _, s3, c, vl.set m w1, nb, m2, rfl, rfl, upd_same, by rw [← e5]; simpa using g5, rfl, ?_⟩
    rw [upd_upd]
    have q := q σ (upd F1 t (.frz o (.tup [w1, w2]))) (upd (upd H1 t (.frz o (.tup [w1, w2]))) c (.lst ((vl.set m w1).set m2 w2)))
    exact q (R2.alter (s' := .own ((ds.set m u).set m2 v)) g3 rfl k3 ⟨_, rfl, RpAll.setAt (r2.mono G.ff) m2 (RpAll.setAt (r1.mono G.ff) m rv)⟩) (e1.trans G.ff)
end
/-- (a, ..), (c, ..) = x, y: names -/
def dUn2 (is js : List Nat) (vs : DenOs) : DenS := fun Φ ρ => (vs Φ ρ).bind fun r => match r.1 with
  | [.tuple ds, .tuple es] => (opt (setAll is ds r.2)).bind fun ρ => (opt (setAll js es ρ)).bind fun ρ => .ok (.nx, ρ)
  | _ => .stuck
theorem dUn2_of {D : Ends} {X : Cx} {B : Bd} {F : Hp} {W : WX} {l : List PyData} {ρ : Env} {is js : List Nat} (h : (match l with
    | [.tuple ds, .tuple es] => (opt (setAll is ds ρ)).bind fun ρ => (opt (setAll js es ρ)).bind fun ρ => Out.ok (Fl.nx, ρ)
    | _ => .stuck).wp (StP B F D) (ExS X B F W)) : ∃ ds es ρ1 ρ2, l = [.tuple ds, .tuple es] ∧ setAll is ds ρ = some ρ1 ∧ setAll js es ρ1 = some ρ2 ∧ StP B F D (Fl.nx, ρ2) := by
  split at h
  · rename_i ds es
    cases e1 : setAll is ds ρ with
    | none => rw [e1] at h; exact h.elim
    | some ρ1 =>
      rw [e1] at h
      cases e2 : setAll js es ρ1 with
      | none =>
        replace h : ((opt (setAll js es ρ1)).bind fun ρ => Out.ok (Fl.nx, ρ)).wp (StP B F D) (ExS X B F W) := h
        rw [e2] at h
        exact h.elim
      | some ρ2 =>
        replace h : ((opt (setAll js es ρ1)).bind fun ρ => Out.ok (Fl.nx, ρ)).wp (StP B F D) (ExS X B F W) := h
        rw [e2] at h
        exact ⟨ds, es, ρ1, ρ2, rfl, e1, e2, h⟩
  · exact h.elim
theorem snd_un2 {Γ : Ctx} {ts us : List Expr} {is js : List Nat} {vs : DenOs} {p : Bool} {a b : Expr} {p1 p2 pos tp vp : Pos} {k1 k2 kt kv : Nat} (ht : Tgs Γ.N (locB Γ.sc) ts is) (hi : is.all (fun i => decide (Γ.np ≤ i)) = true) (hu : Tgs Γ.N (locB Γ.sc) us js) (hj : js.all (fun i => decide (Γ.np ≤ i)) = true)
    (h : SndFs Γ [a, b] vs p) (he : [a, b].all plainE = true) : SndS Γ (.Assign [.Tuple [.Tuple ts k1 p1, .Tuple us k2 p2] kt tp] (.Tuple [a, b] kv vp) pos) (dUn2 is js vs) := by
  intro X Φ B F H ρ σ D W C BO bo hK T R hq
  obtain ⟨hl, hz⟩ := ht.each (env := X.env)
  obtain ⟨hl2, hz2⟩ := hu.each (env := X.env)
  refine PS.w (ps_asg (pe_tupF (pa_ws he)) (pg_tup C.calm (pgs_cons (pg_tup C.calm (ht.pgs C (mayPut_body C BO)) hl hz) (pgs_cons (pg_tup C.calm (hu.pgs C (mayPut_body C BO)) hl2 hz2) pgs_nil))) (sole_of rfl) (stores_none rfl rfl) rfl) ?_
  unfold tAsg tTupF
  dsimp only
  refine h X Φ B F H ρ σ _ W C hK T R (wp_mono (wp_bind (c := vs Φ ρ) hq) (fun r q ws F1 H1 R1 e1 _ hws => ?_) ExS.ex)
  obtain ⟨l, ρ1⟩ := r
  have R1 : Rel B F1 H1 ρ1 σ := R1
  obtain ⟨ds, es, ρ2, ρ3, rfl, g1, g2, q⟩ := dUn2_of q
  obtain ⟨w1, w2, rfl, r1, r2⟩ : ∃ w1 w2, ws = [w1, w2] ∧ Rp B.K F1 (.tuple ds) w1 ∧ Rp B.K F1 (.tuple es) w2 := by
    match ws, hws with
    | [w1, w2], .cons r1 (.cons r2 .nil) => exact ⟨w1, w2, rfl, r1, r2⟩
  · refine ⟨by show 2 ≤ sizeLine; decide, fun t o ht' ho => ?_⟩
    have G : Grow F1 H1 (upd F1 t (.frz o (.tup [w1, w2]))) (upd H1 t (.frz o (.tup [w1, w2]))) := Grow.new R1.kept.ex ht'
    have R2 := R1.add G
    have r1 := r1.mono G.ff
    have r2 := r2.mono G.ff
    cases r1 with
    | tup h1 h2 h3 =>
      cases r2 with
      | tup h4 h5 h6 =>
        refine ⟨t, _, rfl, .inl (.inr ⟨o, upd_same⟩), rfl, _, _, rfl, _, _, rfl, .inl (.inr ⟨_, R2.kept.ex _ _ h1⟩), by rw [← rpAll_len h3, ← setAll_len _ _ _ _ g1], setAll_ok is ds _ ρ1 ρ2 σ g1 h3 R2 (fun i hi' => Nat.le_trans bo.vs (of_decide_eq_true (List.all_eq_true.mp hi i hi'))) fun σ' R3 => ?_⟩
        refine ⟨_, _, rfl, _, _, rfl, .inl (.inr ⟨_, R3.kept.ex _ _ h4⟩), by rw [← rpAll_len h6, ← setAll_len _ _ _ _ g2], setAll_ok js es _ ρ2 ρ3 σ' g2 h6 R3 (fun i hi' => Nat.le_trans bo.vs (of_decide_eq_true (List.all_eq_true.mp hj i hi'))) fun σ2 R4 => ⟨rfl, ?_⟩⟩
        exact q σ2 _ _ R4 (e1.trans G.ff)
section
variable {Φ : Calls} {ρ : Env} {vs : DenOs} {i k1 k2 : Nat} {is js : List Nat} {ds es xs : List PyData} {x y : PyData} {a b : Int} {m m2 : Nat}
def kSw3 (o : Option Nat) (i : Nat) (ds : List PyData) (y : PyData) (ρ : Env) : Out (Fl × Env) := (opt o).bind fun m2 => .ok (.nx, ρ.set i (.own (ds.set m2 y)))
def kSw2 (o : Option Nat) (b : Int) (i : Nat) (ds : List PyData) (x y : PyData) (ρ : Env) : Out (Fl × Env) := (opt o).bind fun m => (opt (ixN ds.length b)).bind fun m2 => .ok (.nx, ρ.set i (.own ((ds.set m x).set m2 y)))
def kSw1 (l : List PyData) (o1 o2 o3 : Option Slot) (i : Nat) (ρ : Env) : Out (Fl × Env) := match l, o1, o2, o3 with
  | [x, y], some (.val (.int a)), some (.val (.int b)), some (.own ds) => kSw2 (ixN ds.length a) b i ds x y ρ
  | _, _, _, _ => .stuck
def kSw (i k1 k2 : Nat) : List PyData × Env → Out (Fl × Env) := fun r => kSw1 r.1 (r.2[k1]?) (r.2[k2]?) (r.2[i]?) i r.2
@[simp] theorem x_dSwp : dSwp i k1 k2 vs Φ ρ = (vs Φ ρ).bind (kSw i k1 k2) := id rfl
@[simp] theorem x_dSwp0 : kSw i k1 k2 (xs, ρ) = kSw1 xs (ρ[k1]?) (ρ[k2]?) (ρ[i]?) i ρ := id rfl
@[simp] theorem x_dSwp1 : kSw1 [x, y] (some (.val (.int a))) (some (.val (.int b))) (some (.own ds)) i ρ = kSw2 (ixN ds.length a) b i ds x y ρ := id rfl
theorem x_dSwp2 (h : ixN ds.length b = some m2) : kSw2 (some m) b i ds x y ρ = .ok (.nx, ρ.set i (.own ((ds.set m x).set m2 y))) := by
  show (opt (ixN ds.length b)).bind _ = _
  rw [h]
  rfl
def kUn3 (o : Option Env) : Out (Fl × Env) := (opt o).bind fun ρ => .ok (.nx, ρ)
def kUn2 (js : List Nat) (es : List PyData) (o : Option Env) : Out (Fl × Env) := (opt o).bind fun ρ => kUn3 (setAll js es ρ)
def kUn1 (is js : List Nat) : List PyData × Env → Out (Fl × Env) := fun r => match r.1 with
  | [.tuple ds, .tuple es] => kUn2 js es (setAll is ds r.2)
  | _ => .stuck
@[simp] theorem x_dUn2 : dUn2 is js vs Φ ρ = (vs Φ ρ).bind (kUn1 is js) := id rfl
@[simp] theorem x_dUn2a : kUn1 is js ([.tuple ds, .tuple es], ρ) = kUn2 js es (setAll is ds ρ) := id rfl
@[simp] theorem x_dUn2b : kUn2 js es (some ρ) = kUn3 (setAll js es ρ) := id rfl
@[simp] theorem x_dUn2c : kUn3 (some ρ) = .ok (.nx, ρ) := id rfl
end
end Dn

/-! Den41: sorted(t) of a tuple too. -/
namespace Dn
open PySem PySem.Spec L2
open PyProof.Rows hiding St
section
open PySem.W PySem.Calls
variable {prog : Program} {w : World} {A : Around} {E : Value → Shared → Prop} {s : Shared} {β : Type} {enc : β → PyData} {R : Value → β → Prop} {vs : List Value} {bs : List β}
theorem sortedT_data {t : Addr} {Q : Value → Shared → Prop} (hl : IsTup s.heap t vs.toArray) (e : EachIs R vs bs) (er : EachIs (fun v b => ∃ as, Reads s.heap v (enc b) as) vs bs) (hal : AllAlike (bs.map enc)) (hk : Sortable (bs.map enc)) (hL : bs.length ≤ sizeLine)
    (hu : ∀ b, b ∈ bs → A.units + 2 + (enc b).depth < cLine)
    (h : ∀ (D : Addr) (h' : Heap) (out : List Value) (c : Nat), (∀ b o, s.heap.get? b = some o → h'.get? b = some o) → s.heap.get? D = none → h'.get? D = some (seqObj "list" out.toArray c) → EachIs R out (bs.mergeSort (dataLe false enc)) → Q (.ref D) { s with heap := h' }) :
    wpAny (model prog w) A (call (.builtin "sorted") [.ref t]) Q E s := by
  refine call_function_entry kind_sorted plain_sorted entry_sorted (args_sorted1 _) ?_
  unfold Builtin.«sorted»
  refine wpAny_bind (m := checkCount "sorted" 1 1 _) (wpAny_pure ?_)
  obtain ⟨o, ho, hc, n, hd⟩ := hl
  have hLv : vs.length ≤ sizeLine := by rw [e.length]; exact hL
  refine wpAny_bind (wpAny_collect_seq (A := A.in1) t (.inr rfl) ho hc hd (fun h1 kp => ?_) (by rw [List.size_toArray]; exact hLv))
  rw [List.toList_toArray]
  refine wpAny_bind (wpAny_newList ?_ hLv)
  have hp : ∀ b o, s.heap.get? b = some o → (h1.push (seqObj "list" vs.toArray 0)).get? b = some o := fun b o q => Heap.get?_push_of_some _ (kp b o q)
  have ho2 : (h1.push (seqObj "list" vs.toArray 0)).get? h1.objs.size = some (seqObj "list" vs.toArray 0) := Heap.get?_push_size _ rfl
  have gone : s.heap.get? h1.objs.size = none := by
    cases q : s.heap.get? h1.objs.size with
    | none => rfl
    | some u => exact absurd (Heap.lt_size (kp _ _ q)) (Nat.lt_irrefl _)
  have er' : EachIs (fun v b => ∃ as, Reads (sortingHeap (h1.push (seqObj "list" vs.toArray 0)) h1.objs.size vs) v (enc b) as) vs bs :=
    er.mono fun _ _ ⟨as, r⟩ => ⟨as, PyProof.Rows.Reads.keeps (fun b o q => sortingHeap_old (fun hb => by subst hb; rw [gone] at q; cases q) (hp b o q)) r⟩
  refine wpAny_bind (wpAny_holding (wpAny_mono (?body : wpAny (model prog w) A.in1 (call (.builtin "list.sort") [.ref h1.objs.size]) (fun _ s' => Q (.ref h1.objs.size) s') E { s with heap := h1.push (seqObj "list" vs.toArray 0) }) (fun _ s' x => wpAny_pure ⟨_, rfl, x⟩) fun _ _ e => e))
  refine wpAny_call_entry slot_list_sort ⟨_, ho2, rfl⟩ entry_list_sort
    (list_sort_vals (κ := dataKind (sortingHeap (h1.push (seqObj "list" vs.toArray 0)) h1.objs.size vs) (bs.map enc)) ho2 (SortsAt.data (s := { s with heap := sortingHeap (h1.push (seqObj "list" vs.toArray 0)) h1.objs.size vs })
      (each_map (R := fun v d => ∃ as, Reads (sortingHeap (h1.push (seqObj "list" vs.toArray 0)) h1.objs.size vs) v d as) enc er') hal hk (bound_map hu)) hLv ⟨.none, rfl, ?_⟩) (args_list_sort _)
  · obtain ⟨c, hc⟩ := sortedHeap_at (vs := vs) (out := (sortVals (dataKind (sortingHeap (h1.push (seqObj "list" vs.toArray 0)) h1.objs.size vs) (bs.map enc)) false vs vs).toArray) ho2
    refine h _ _ _ c (fun b o q => ?_) gone hc (sortVals_data false e er' hal)
    have hlt := Heap.lt_size (kp b o q)
    rw [sortedHeap_old (Nat.ne_of_lt hlt) (by rw [size_push']; exact Nat.lt_succ_of_lt hlt)]
    exact hp b o q
end
/-- sorted of a list or a tuple -/
def pSortS : Prim
  | [.tuple ds] => if sortOk ds && decide (ds.length ≤ 1000000) then some (.own (sortD ds)) else none
  | xs => pSorted xs
@[simp] theorem pSortS_list (ds : List PyData) : pSortS [.list ds] = pSorted [.list ds] := id rfl
def rSortS (K : PySem.W.Frag) : List V → Hp → VK → Prop := fun vs H Q => rSortF K vs H Q ∨ ∃ (a : Addr) (zs : List (PyData × V)), vs = [.ref a] ∧ (SqL K H a (zs.map (·.2)) ∨ SqT K H a (zs.map (·.2))) ∧ (∀ z ∈ zs, Dp K H z.2 z.1) ∧ sortOk (zs.map (·.1)) = true ∧
  ∀ p, H p = none → Q (.ref p) (upd H p (.lst ((zs.mergeSort (PySem.W.dataLe false Prod.fst)).map (·.2))))
theorem call_sortS {X : Cx} (hu : X.A.units + 200 < cLine) : CallR X (.builtin "sorted") (rSortS X.K) := by
  intro pins s σ H vs us Q I r h
  rcases h with h | ⟨a, zs, e, hs, hd, ok, q⟩
  · exact call_sortF hu pins s σ H vs us Q I r h
  rcases hs with hs | hs
  · exact call_sortF hu pins s σ H vs us Q I r ⟨a, zs, e, hs, hd, ok, q⟩
  subst e
  rw [Vals.ref1 r]
  obtain ⟨its, rv, hl, hz⟩ := I.tuple hs
  obtain ⟨g1, g2⟩ := each_of I rv hd
  have zl : zs.length ≤ sizeLine := by rw [List.length_map] at hz; exact hz
  refine sortedT_data (enc := Prod.fst) hl g1 g2 (sortOk_like ok) (sortOk_able ok) zl (fun z hz => ?_) fun D h' out c kp hn ho eo => ?_
  · have := sortOk_shaped ok z.1 (List.mem_map.mpr ⟨z, hz, rfl⟩)
    unfold SeqAt.shaped at this
    simp only [Bool.and_eq_true, decide_eq_true_eq] at this
    omega
  · have hn' := I.hok.gone hn
    refine ⟨.ref D, _, I.laidN (t' := s.toks) (o := .lst ((zs.mergeSort (PySem.W.dataLe false Prod.fst)).map (·.2))) kp hn hn' ⟨?_, out, c, vals_each eo, ho⟩, rfl, q _ hn'⟩
    rw [List.length_map, List.length_mergeSort]
    exact zl
theorem rl_sortS (K : PySem.W.Frag) : Rule K (rSortS K) pSortS := by
  intro F H ds vs Q s e hb hs q
  unfold pSortS at hs
  split at hs
  · rename_i ys
    split at hs
    · rename_i hl
      cases hs
      rw [Bool.and_eq_true] at hl
      obtain ⟨v, rfl, h1⟩ := hb.one
      obtain ⟨a, xs, rfl, k1, k2⟩ := h1.seq e (.inr rfl)
      obtain ⟨g1, g2, g3⟩ := zip_fst k2
      refine .inr ⟨a, ys.zip xs, rfl, ?_, fun z hz => dp_of _ _ ((g3 z hz).mono e) (shaped_lay (sortOk_shaped hl.1 z.1 (by rw [← g1]; exact List.mem_map.mpr ⟨z, hz, rfl⟩))), by rw [g1]; exact hl.1, fun p hp => ?_⟩
      · rw [g2]; exact k1
      have m : ((ys.zip xs).mergeSort (PySem.W.dataLe false Prod.fst)).map (·.1) = sortD ys := by
        have g := List.map_mergeSort (r := PySem.W.dataLe false (Prod.fst (α := PyData) (β := V))) (s := PySem.W.dataLe false id) (f := Prod.fst) (l := ys.zip xs) (fun a _ b _ => rfl)
        exact g.trans (congrArg sortD g1)
      refine q p _ hp ?_
      rw [← m]
      exact rpAll_of fun z hz => g3 z (List.mem_mergeSort.mp hz)
    · cases hs
  · exact .inl (rl_sorted K F H ds vs Q s e hb hs q)
section
variable {Γ : Ctx} {d : DenOs} {p : Bool} {pos fpos : Pos} {a : Expr} {es : List Expr}
theorem e_sortS (h : SndOs Γ (a :: es) d p) (he : (a :: es).all plainE = true) (hg : Γ.sc.names.lookup ("sorted" : Str) = some .globalImplicit) (hf : ("sorted" : Str) ∈ Γ.blts) : SndE Γ (.Call (.Name "sorted" fpos) (a :: es) [] pos) (dP pSortS d) p :=
  snd_callB (r := rSortS) (fun X _ hr => call_sortS (by have := hr.un; omega)) rl_sortS boot_sorted' h he hg hf (by decide)
end
end Dn

/-! Den42: rows (all things in some order), as plain lists. -/
namespace Dn
open PySem PySem.Spec L2
open PyProof.Rows hiding St
def leI (a b : Int) : Bool := decide (a ≤ b)
def sortI (ns : List Int) : List Int := ns.mergeSort leI
theorem alike_i (p q : Int) : PySem.W.alike (.int p) (.int q) = true := by simp [PySem.W.alike]
theorem sh_i (p : Int) : SeqAt.shaped (.int p) = true := by
  have := sh_nsT [p]
  unfold SeqAt.shaped at this ⊢
  simp [PyData.depth, PyData.canLay0, PyData.canLayAll0, PyData.depthAll] at this ⊢
theorem sortOk_ns (ns : List Int) : sortOk (nsD ns) = true := by
  unfold sortOk
  simp only [Bool.and_eq_true, Bool.or_eq_true, List.all_eq_true]
  refine ⟨fun d hd => ?_, .inr fun d hd => ?_⟩
  · obtain ⟨p, _, rfl⟩ := List.mem_map.mp hd
    refine ⟨sh_i p, fun e he => ?_⟩
    obtain ⟨q, _, rfl⟩ := List.mem_map.mp he
    exact alike_i p q
  · obtain ⟨p, _, rfl⟩ := List.mem_map.mp hd
    rfl
theorem sortD_ns (ns : List Int) : sortD (nsD ns) = nsD (sortI ns) := by
  have h : ∀ p q : Int, leI p q = PySem.W.dataLe false id (.int p) (.int q) := fun p q => by
    have := congrFun (congrFun (PySem.W.dataLe_int (β := Int) id) p) q
    exact this.symm
  unfold sortD sortI nsD
  exact (List.map_mergeSort (r := leI) (s := PySem.W.dataLe false id) (f := PyData.int) (l := ns) fun a _ b _ => h a b).symm
theorem x_sortIL (ns : List Int) (h : ns.length ≤ 1000000) : pSorted [.list (nsD ns)] = some (.own (nsD (sortI ns))) := by
  have : (nsD ns).length = ns.length := List.length_map _
  show (if (sortOk (nsD ns) && decide ((nsD ns).length ≤ 1000000)) = true then some (Slot.own (sortD (nsD ns))) else none) = _
  rw [if_pos (by rw [sortOk_ns, this, decide_eq_true h]; rfl), sortD_ns]
theorem x_sortIT (ns : List Int) (h : ns.length ≤ 1000000) : pSortS [.tuple (nsD ns)] = some (.own (nsD (sortI ns))) := by
  have : (nsD ns).length = ns.length := List.length_map _
  show (if (sortOk (nsD ns) && decide ((nsD ns).length ≤ 1000000)) = true then some (Slot.own (sortD (nsD ns))) else none) = _
  rw [if_pos (by rw [sortOk_ns, this, decide_eq_true h]; rfl), sortD_ns]
theorem leI_trans {a b c : Int} (h : leI a b = true) (g : leI b c = true) : leI a c = true := by
  unfold leI at *
  simp only [decide_eq_true_eq] at *
  omega
theorem leI_total (a b : Int) : (leI a b || leI b a) = true := by
  unfold leI
  simp only [Bool.or_eq_true, decide_eq_true_eq]
  omega
theorem upTo_sorted (m : Nat) : (upTo m).Pairwise fun a b => leI a b = true := by
  unfold upTo
  refine List.pairwise_map.mpr (List.Pairwise.imp (fun {a b} h => ?_) (List.pairwise_lt_range (n := m)))
  unfold leI
  simp only [decide_eq_true_eq]
  omega
theorem sortI_perm (ns : List Int) : (sortI ns).Perm ns := List.mergeSort_perm ns leI
theorem sortI_iff (m : Nat) (ns : List Int) : sortI ns = upTo m ↔ ns.Perm (upTo m) := by
  constructor
  · intro h
    rw [← h]
    exact (sortI_perm ns).symm
  · intro h
    refine List.Perm.eq_of_pairwise (le := fun a b => leI a b = true) (fun a b _ _ h1 h2 => ?_) ?_ (upTo_sorted m) ((sortI_perm ns).trans h)
    · unfold leI at h1 h2
      simp only [decide_eq_true_eq] at h1 h2
      omega
    · exact List.pairwise_mergeSort (le := leI) (fun a b c h g => leI_trans h g) leI_total ns
theorem x_eqLL (ns ms : List Int) : pEq [.list (nsD ns), .list (nsD ms)] = some (.val (.bool (decide (ns = ms)))) := by
  unfold pEq
  simp only [sh_nsL, PyData.eqv, eqv_ns, Bool.and_self, if_true, beq_dec]
theorem x_inN (ns : List Int) (x : Int) : pIn [.int x, .tuple (nsD ns)] = some (.val (.bool (decide (x ∈ ns)))) := by
  unfold pIn
  simp only [sh_i, sh_nsT, any_int, Bool.and_self, if_true]
theorem x_ninN (ns : List Int) (x : Int) : pNin [.int x, .tuple (nsD ns)] = some (.val (.bool (!decide (x ∈ ns)))) := by
  unfold pNin
  simp only [sh_i, sh_nsT, any_int, Bool.and_self, if_true]
theorem addT {A B : List PyData} (h : A.length + B.length ≤ 1000000) : pAdd [.tuple A, .tuple B] = some (.val (.tuple (A ++ B))) := by
  show (if A.length + B.length ≤ 1000000 then some (Slot.val (.tuple (A ++ B))) else none) = _
  rw [if_pos h]
theorem slcT (ds : List PyData) (a b : Option Int) : pSlc (.tuple ds) a b = some (.val (.tuple (cutD ds a b))) := rfl
def intOf : PyData → Int
  | .int i => i
  | _ => 0
theorem isW_ns : ∀ ds : List PyData, ds.all isW = true → ds = nsD (ds.map intOf)
  | [], _ => rfl
  | d :: ds, h => by
    rw [List.all_cons, Bool.and_eq_true] at h
    have q := isW_ns ds h.2
    have e : d = .int (intOf d) := by
      have h1 := h.1
      cases d <;> first | rfl | cases h1
    show d :: ds = .int (intOf d) :: nsD (ds.map intOf)
    rw [← e, ← q]
/-- a tuple of all things -/
def rowT (m : Nat) : PyData → Bool
  | .tuple ds => decide (ds.length = m) && (ds.all isW && decide (sortI (ds.map intOf) = upTo m))
  | _ => false
theorem rowT_true {m : Nat} {x : PyData} (h : rowT m x = true) : ∃ ns, x = .tuple (nsD ns) ∧ ns.Perm (upTo m) := by
  cases x with
  | tuple ds =>
    have h : (decide (ds.length = m) && (ds.all isW && decide (sortI (ds.map intOf) = upTo m))) = true := h
    simp only [Bool.and_eq_true, decide_eq_true_eq] at h
    exact ⟨ds.map intOf, by rw [← isW_ns ds h.2.1], (sortI_iff _ _).mp h.2.2⟩
  | _ => cases h
theorem intOf_ns (ns : List Int) : (nsD ns).map intOf = ns := by
  rw [List.map_map]
  exact List.map_id ns
theorem all_isW (ns : List Int) : (nsD ns).all isW = true := by
  rw [List.all_map, List.all_eq_true]
  exact fun _ _ => rfl
theorem rowT_of {m : Nat} {ns : List Int} (h : ns.Perm (upTo m)) : rowT m (.tuple (nsD ns)) = true := by
  show (decide ((nsD ns).length = m) && ((nsD ns).all isW && decide (sortI ((nsD ns).map intOf) = upTo m))) = true
  rw [intOf_ns, all_isW, List.length_map, h.length_eq, upTo_len, decide_eq_true ((sortI_iff _ _).mpr h)]
  simp
/-- which stands ahead -/
def aheadB (ns : List Int) (p : Int × Int) : Bool := decide (ns.idxOf p.1 < ns.idxOf p.2)
def fitsD (ps : List (Int × Int)) : PyData → Bool
  | .tuple ds => ps.all (aheadB (ds.map intOf))
  | _ => false
def rowD (m : Nat) (ps : List (Int × Int)) (x : PyData) : Bool := rowT m x && fitsD ps x
theorem fits_ns (ps : List (Int × Int)) (ns : List Int) : fitsD ps (.tuple (nsD ns)) = ps.all (aheadB ns) := by
  show ps.all (aheadB ((nsD ns).map intOf)) = _
  rw [intOf_ns]
/-- a row whose things are in the order's bounds -/
theorem perm_has {m : Nat} {ns : List Int} (h : ns.Perm (upTo m)) {x : Int} (h0 : 0 ≤ x) (h1 : x < m) : x ∈ ns := h.mem_iff.mpr (mem_upTo.mpr ⟨h0, h1⟩)
theorem fits_not {m : Nat} {ps : List (Int × Int)} (o : IsOrd m ps) {ns : List Int} (h : ns.Perm (upTo m)) : (ps.filter fun p => decide (ns.idxOf p.2 < ns.idxOf p.1)) = [] ↔ ps.all (aheadB ns) = true := by
  rw [List.filter_eq_nil_iff, List.all_eq_true]
  refine forall_congr' fun p => ⟨fun q hp => ?_, fun q hp => ?_⟩
  · have q := q hp
    have b := o.bd p hp
    have i := o.irr p hp
    unfold aheadB
    simp only [decide_eq_true_eq] at q ⊢
    have ne : ns.idxOf p.1 ≠ ns.idxOf p.2 := fun z => i (idx_inj (perm_has h b.1 b.2.1) z)
    omega
  · have q := q hp
    unfold aheadB at q
    simp only [decide_eq_true_eq] at q ⊢
    omega
/-- where some thing is not in R, one of these has all things ahead of it in R -/
theorem free_ex {m : Nat} {ps : List (Int × Int)} (o : IsOrd m ps) (R : List Int) : ∀ (k : Nat) (t : Int), t ∈ upTo m → t ∉ R → ((upTo m).filter fun c => decide ((c, t) ∈ ps)).length ≤ k → ∃ t ∈ upTo m, t ∉ R ∧ ∀ p ∈ ps, p.2 = t → p.1 ∈ R := by
  intro k
  induction k with
  | zero =>
    intro t ht hr hk
    refine ⟨t, ht, hr, fun p hp e => ?_⟩
    have b := o.bd p hp
    have : p.1 ∈ (upTo m).filter fun c => decide ((c, t) ∈ ps) := List.mem_filter.mpr ⟨mem_upTo.mpr ⟨b.1, b.2.1⟩, by subst e; simpa using hp⟩
    rw [List.eq_nil_of_length_eq_zero (Nat.le_zero.mp hk)] at this
    cases this
  | succ k ih =>
    intro t ht hr hk
    by_cases c : ∃ p ∈ ps, p.2 = t ∧ p.1 ∉ R
    · obtain ⟨p, hp, e, hn⟩ := c
      have b := o.bd p hp
      have i := o.irr p hp
      refine ih p.1 (mem_upTo.mpr ⟨b.1, b.2.1⟩) hn ?_
      have := nodup_sub_len (p.1 :: ((upTo m).filter fun c => decide ((c, p.1) ∈ ps))) ((upTo m).filter fun c => decide ((c, t) ∈ ps)) (List.nodup_cons.mpr ⟨fun h => ?_, (upTo_nd m).sublist List.filter_sublist⟩) fun x hx => ?_
      · rw [List.length_cons] at this
        omega
      · have := (List.mem_filter.mp h).2
        exact o.irr _ (of_decide_eq_true this) rfl
      · rcases List.mem_cons.mp hx with rfl | hx
        · refine List.mem_filter.mpr ⟨mem_upTo.mpr ⟨b.1, b.2.1⟩, ?_⟩
          subst e
          simpa using hp
        · have hx := List.mem_filter.mp hx
          refine List.mem_filter.mpr ⟨hx.1, decide_eq_true ?_⟩
          have := o.tr _ (of_decide_eq_true hx.2) p hp rfl
          subst e
          exact this
    · refine ⟨t, ht, hr, fun p hp e => ?_⟩
      by_cases q : p.1 ∈ R
      · exact q
      · exact absurd ⟨p, hp, e, q⟩ c
/-- things not yet in the row that may come next, in the order of their numbers -/
def freeI (m : Nat) (ps : List (Int × Int)) (R : List Int) : List Int := (upTo m).filter fun t => decide (t ∉ R) && ps.all fun p => !(decide (p.2 = t) && !decide (p.1 ∈ R))
theorem mem_free {m : Nat} {ps : List (Int × Int)} {R : List Int} {t : Int} : t ∈ freeI m ps R ↔ t ∈ upTo m ∧ t ∉ R ∧ ∀ p ∈ ps, p.2 = t → p.1 ∈ R := by
  unfold freeI
  rw [List.mem_filter]
  simp only [Bool.and_eq_true, decide_eq_true_eq, List.all_eq_true, Bool.not_eq_true', Bool.and_eq_false_iff, decide_eq_false_iff_not, Bool.not_eq_false']
  refine and_congr_right fun _ => and_congr_right fun _ => forall_congr' fun p => forall_congr' fun hp => ?_
  constructor
  · rintro (h | h) e
    · exact absurd e h
    · exact h
  · intro h
    by_cases e : p.2 = t
    · exact .inr (h e)
    · exact .inl e
theorem free_ne {m : Nat} {ps : List (Int × Int)} (o : IsOrd m ps) {R : List Int} (nd : R.Nodup) (sub : ∀ x ∈ R, x ∈ upTo m) (hl : R.length < m) : freeI m ps R ≠ [] := by
  have : ∃ t ∈ upTo m, t ∉ R := by
    by_cases c : ∃ t ∈ upTo m, t ∉ R
    · exact c
    · have := nodup_sub_len (upTo m) R (upTo_nd m) fun x hx => Classical.byContradiction fun z => c ⟨x, hx, z⟩
      rw [upTo_len] at this
      omega
  obtain ⟨t, ht, hn⟩ := this
  obtain ⟨t, h1, h2, h3⟩ := free_ex o R _ t ht hn (Nat.le_refl _)
  intro z
  have := mem_free.mpr ⟨h1, h2, h3⟩
  rw [z] at this
  cases this
theorem perm_of_full {m : Nat} {R : List Int} (nd : R.Nodup) (sub : ∀ x ∈ R, x ∈ upTo m) (hl : m ≤ R.length) : R.Perm (upTo m) := by
  refine (List.perm_ext_iff_of_nodup nd (upTo_nd m)).mpr fun x => ⟨sub x, fun hx => Classical.byContradiction fun z => ?_⟩
  have := nodup_sub_len (x :: R) (upTo m) (List.nodup_cons.mpr ⟨z, nd⟩) fun y hy => (List.mem_cons.mp hy).elim (fun e => by rw [e]; exact hx) (sub y)
  rw [List.length_cons, upTo_len] at this
  omega
theorem upTo_succ (m : Nat) : upTo (m + 1) = upTo m ++ [(m : Int)] := by simp [upTo, List.range_succ]
/-- so far all that has something ahead of it has it ahead -/
def AhdI (ps : List (Int × Int)) (R : List Int) : Prop := ∀ p ∈ ps, p.2 ∈ R → aheadB R p = true
theorem ahd_snoc {ps : List (Int × Int)} {R : List Int} {t : Int} (h : AhdI ps R) (ht : t ∉ R) (g : ∀ p ∈ ps, p.2 = t → p.1 ∈ R) : AhdI ps (R ++ [t]) := fun p hp hm => by
  unfold aheadB
  rw [decide_eq_true_eq]
  by_cases c : p.2 ∈ R
  · have := h p hp c
    unfold aheadB at this
    rw [decide_eq_true_eq] at this
    have m1 : p.1 ∈ R := List.idxOf_lt_length_iff.mp (Nat.lt_of_lt_of_le this (List.idxOf_le_length))
    rw [List.idxOf_append, if_pos m1, List.idxOf_append, if_pos c]
    exact this
  · have e : p.2 = t := by simpa [c] using hm
    have m1 := g p hp e
    rw [List.idxOf_append, if_pos m1, List.idxOf_append, if_neg c]
    have := List.idxOf_lt_length_iff.mpr m1
    omega
theorem ahd_all {m : Nat} {ps : List (Int × Int)} (o : IsOrd m ps) {R : List Int} (h : AhdI ps R) (pm : R.Perm (upTo m)) : ps.all (aheadB R) = true := by
  rw [List.all_eq_true]
  exact fun p hp => h p hp (perm_has pm (o.bd p hp).2.2.1 (o.bd p hp).2.2.2)
end Dn

/-! Den43: lists of rows, what they tell, all rows of an order. -/
namespace Dn
open PySem PySem.Spec L2
open PyProof.Rows hiding St
theorem x_eqPT (ps qs : List (Int × Int)) : pEq [.tuple (psD ps), .tuple (psD qs)] = some (.val (.bool (decide (ps = qs)))) := by
  unfold pEq
  simp only [sh_psT, PyData.eqv, eqv_ps, Bool.and_self, if_true, beq_dec]
/-- the whole numbers of a row -/
def rowOf : PyData → List Int
  | .tuple ds => ds.map intOf
  | _ => []
theorem rowOf_ns (ns : List Int) : rowOf (.tuple (nsD ns)) = ns := intOf_ns ns
theorem rowD_true {m : Nat} {ps : List (Int × Int)} {x : PyData} (h : rowD m ps x = true) : x = .tuple (nsD (rowOf x)) ∧ (rowOf x).Perm (upTo m) ∧ ps.all (aheadB (rowOf x)) = true := by
  unfold rowD at h
  rw [Bool.and_eq_true] at h
  obtain ⟨ns, rfl, pm⟩ := rowT_true h.1
  rw [rowOf_ns]
  rw [fits_ns] at h
  exact ⟨rfl, pm, h.2⟩
theorem rowD_ns {m : Nat} {ps : List (Int × Int)} {ns : List Int} (pm : ns.Perm (upTo m)) : rowD m ps (.tuple (nsD ns)) = ps.all (aheadB ns) := by
  unfold rowD
  rw [rowT_of pm, fits_ns, Bool.true_and]
/-- a list of one or more rows -/
def rowsD (m : Nat) (ps : List (Int × Int)) : PyData → Bool
  | .list ds => decide (ds ≠ []) && ds.all (rowD m ps)
  | _ => false
def rsOf : PyData → List (List Int)
  | .list ds => ds.map rowOf
  | _ => []
/-- rows of an order, as plain lists -/
def RowsI (m : Nat) (ps : List (Int × Int)) (rs : List (List Int)) : Prop := ∀ r ∈ rs, r.Perm (upTo m) ∧ ps.all (aheadB r) = true
theorem rsOf_rs (rs : List (List Int)) : rsOf (.list (rsD rs)) = rs := by
  show (rsD rs).map rowOf = rs
  rw [List.map_map]
  have : rowOf ∘ (fun r => PyData.tuple (nsD r)) = id := funext fun r => rowOf_ns r
  rw [this, List.map_id]
theorem rs_of : ∀ ds : List PyData, (∀ d ∈ ds, d = .tuple (nsD (rowOf d))) → rsD (ds.map rowOf) = ds
  | [], _ => rfl
  | d :: ds, h => by
    show .tuple (nsD (rowOf d)) :: rsD (ds.map rowOf) = d :: ds
    rw [rs_of ds fun e he => h e (List.mem_cons_of_mem _ he), ← h d List.mem_cons_self]
theorem rowsD_true {m : Nat} {ps : List (Int × Int)} {x : PyData} (h : rowsD m ps x = true) : ∃ rs, x = .list (rsD rs) ∧ rs ≠ [] ∧ RowsI m ps rs := by
  cases x with
  | list ds =>
    have h : (decide (ds ≠ []) && ds.all (rowD m ps)) = true := h
    rw [Bool.and_eq_true, decide_eq_true_eq, List.all_eq_true] at h
    refine ⟨ds.map rowOf, ?_, by simpa using h.1, fun r hr => ?_⟩
    · rw [rs_of ds fun d hd => (rowD_true (h.2 d hd)).1]
    · obtain ⟨d, hd, rfl⟩ := List.mem_map.mp hr
      exact (rowD_true (h.2 d hd)).2
  | _ => cases h
theorem rowsD_of {m : Nat} {ps : List (Int × Int)} {rs : List (List Int)} (ne : rs ≠ []) (h : RowsI m ps rs) : rowsD m ps (.list (rsD rs)) = true := by
  show (decide (rsD rs ≠ []) && (rsD rs).all (rowD m ps)) = true
  rw [Bool.and_eq_true, decide_eq_true_eq, List.all_eq_true]
  refine ⟨by simpa using ne, fun d hd => ?_⟩
  obtain ⟨r, hr, rfl⟩ := List.mem_map.mp hd
  rw [rowD_ns (h r hr).1]
  exact (h r hr).2
/-- a list of rows that tells the order -/
def tellD (m : Nat) (ps : List (Int × Int)) (x : PyData) : Bool := rowsD m ps x && decide (toldP m (rsOf x) = ps)
theorem tellD_rs {m : Nat} {ps : List (Int × Int)} {rs : List (List Int)} (ne : rs ≠ []) (h : RowsI m ps rs) : tellD m ps (.list (rsD rs)) = decide (toldP m rs = ps) := by
  unfold tellD
  rw [rowsD_of ne h, rsOf_rs, Bool.true_and]
/-- all beginnings of rows of so many things, in the order of tuples -/
def rowsI (m : Nat) (ps : List (Int × Int)) : Nat → List (List Int)
  | 0 => [[]]
  | t + 1 => (rowsI m ps t).flatMap fun r => (freeI m ps r).map fun x => r ++ [x]
theorem freeI_len (m : Nat) (ps : List (Int × Int)) (R : List Int) : (freeI m ps R).length ≤ m := by
  have := List.length_filter_le (fun t => decide (t ∉ R) && ps.all fun p => !(decide (p.2 = t) && !decide (p.1 ∈ R))) (upTo m)
  rw [upTo_len] at this
  exact this
theorem flat_len {α β : Type} (f : α → List β) (k : Nat) : ∀ xs : List α, (∀ x ∈ xs, (f x).length ≤ k) → (xs.flatMap f).length ≤ xs.length * k
  | [], _ => Nat.zero_le _
  | x :: xs, h => by
    rw [List.flatMap_cons, List.length_append, List.length_cons, Nat.succ_mul]
    have h1 := h x List.mem_cons_self
    have h2 := flat_len f k xs fun y hy => h y (List.mem_cons_of_mem _ hy)
    omega
theorem rowsI_len (m : Nat) (ps : List (Int × Int)) : ∀ t, (rowsI m ps t).length ≤ m ^ t
  | 0 => Nat.le_refl _
  | t + 1 => by
    have h := flat_len (fun r => (freeI m ps r).map fun x => r ++ [x]) m (rowsI m ps t) fun r _ => by rw [List.length_map]; exact freeI_len m ps r
    exact Nat.le_trans h (Nat.mul_le_mul_right m (rowsI_len m ps t))
/-- a beginning of a row -/
structure Beg (m : Nat) (ps : List (Int × Int)) (r : List Int) : Prop where
  nd : r.Nodup
  sub : ∀ x ∈ r, x ∈ upTo m
  ahd : AhdI ps r
theorem Beg.nil {m : Nat} {ps : List (Int × Int)} : Beg m ps [] := ⟨List.nodup_nil, fun _ h => absurd h List.not_mem_nil, fun _ _ h => absurd h List.not_mem_nil⟩
theorem Beg.snoc {m : Nat} {ps : List (Int × Int)} {r : List Int} {x : Int} (b : Beg m ps r) (h : x ∈ freeI m ps r) : Beg m ps (r ++ [x]) := by
  obtain ⟨h1, h2, h3⟩ := mem_free.mp h
  refine ⟨List.nodup_append.mpr ⟨b.nd, by simp, by rintro a ha c hc rfl; rw [List.mem_singleton.mp hc] at ha; exact h2 ha⟩, fun y hy => ?_, ahd_snoc b.ahd h2 h3⟩
  rcases List.mem_append.mp hy with hy | hy
  · exact b.sub y hy
  · rw [List.mem_singleton.mp hy]; exact h1
theorem rowsI_beg (m : Nat) (ps : List (Int × Int)) : ∀ t, ∀ r ∈ rowsI m ps t, Beg m ps r ∧ r.length = t
  | 0, r, h => by rw [List.mem_singleton.mp h]; exact ⟨.nil, rfl⟩
  | t + 1, r, h => by
    obtain ⟨q, hq, h⟩ := List.mem_flatMap.mp h
    obtain ⟨x, hx, rfl⟩ := List.mem_map.mp h
    have := rowsI_beg m ps t q hq
    exact ⟨this.1.snoc hx, by rw [List.length_append, this.2]; rfl⟩
theorem rowsI_rows {m : Nat} {ps : List (Int × Int)} (o : IsOrd m ps) : RowsI m ps (rowsI m ps m) := fun r hr => by
  obtain ⟨b, hl⟩ := rowsI_beg m ps m r hr
  have pm := perm_of_full b.nd b.sub (by omega)
  exact ⟨pm, ahd_all o b.ahd pm⟩
theorem rowsI_ne {m : Nat} {ps : List (Int × Int)} (o : IsOrd m ps) : ∀ t, t ≤ m → rowsI m ps t ≠ []
  | 0, _ => by simp [rowsI]
  | t + 1, h => by
    obtain ⟨r, hr⟩ := List.exists_mem_of_ne_nil _ (rowsI_ne o t (by omega))
    obtain ⟨b, hl⟩ := rowsI_beg m ps t r hr
    obtain ⟨x, hx⟩ := List.exists_mem_of_ne_nil _ (free_ne o b.nd b.sub (by omega))
    have : r ++ [x] ∈ rowsI m ps (t + 1) := List.mem_flatMap.mpr ⟨r, hr, List.mem_map.mpr ⟨x, hx, rfl⟩⟩
    intro z
    rw [z] at this
    cases this
end Dn

/-! Den44: points (each thing's two numbers). -/
namespace Dn
open PySem PySem.Spec L2
open PyProof.Rows hiding St
/-- a tuple of two whole numbers -/
def isPt : PyData → Bool
  | .tuple ds => decide (ds.length = 2) && ds.all isW
  | _ => false
def ptOf : PyData → Int × Int
  | .tuple [.int a, .int b] => (a, b)
  | _ => (0, 0)
theorem isPt_true {d : PyData} (h : isPt d = true) : d = prD (ptOf d) := by
  cases d with
  | tuple ds =>
    have h : (decide (ds.length = 2) && ds.all isW) = true := h
    rw [Bool.and_eq_true, decide_eq_true_eq] at h
    have e := isW_ns ds h.2
    generalize ds.map intOf = l at e
    subst e
    have hl : l.length = 2 := by
      have := h.1
      rwa [List.length_map] at this
    match l, hl with
    | [a, b], _ => rfl
  | _ => cases h
theorem isPt_pr (p : Int × Int) : isPt (prD p) = true := rfl
theorem ptOf_pr (p : Int × Int) : ptOf (prD p) = p := rfl
theorem pts_of : ∀ ds : List PyData, ds.all isPt = true → ds = psD (ds.map ptOf)
  | [], _ => rfl
  | d :: ds, h => by
    rw [List.all_cons, Bool.and_eq_true] at h
    have q := pts_of ds h.2
    show d :: ds = prD (ptOf d) :: psD (ds.map ptOf)
    rw [← isPt_true h.1, ← q]
theorem map_ptOf (F : List (Int × Int)) : (psD F).map ptOf = F := by
  rw [List.map_map]
  exact List.map_id F
theorem all_isPt (F : List (Int × Int)) : (psD F).all isPt = true := by
  rw [List.all_map, List.all_eq_true]
  exact fun _ _ => rfl
theorem nsD_map {α : Type} (f : α → Int) (l : List α) : nsD (l.map f) = l.map fun p => .int (f p) := List.map_map
/-- a thing's point -/
def gP (F : List (Int × Int)) (t : Int) : Int × Int := F.getD t.toNat (0, 0)
theorem atI_gP {F : List (Int × Int)} {t : Int} (h0 : 0 ≤ t) (h1 : t < F.length) : atI (psD F) t = some (prD (gP F t)) := by
  obtain ⟨k, rfl⟩ := Int.eq_ofNat_of_zero_le h0
  have hk : k < F.length := by omega
  have := x_ixP F k hk
  have e : (atI (psD F) (k : Int)).map Slot.val = some (.val (prD F[k])) := this
  have g : gP F (k : Int) = F[k] := by
    show F.getD ((k : Int).toNat) (0, 0) = _
    rw [Int.toNat_natCast, List.getD_eq_getElem?_getD, List.getElem?_eq_getElem hk]
    rfl
  rw [g]
  cases z : atI (psD F) (k : Int) with
  | none => rw [z] at e; cases e
  | some d => rw [z] at e; cases e; rfl
/-- less in both -/
def lessB (F : List (Int × Int)) (p : Int × Int) : Bool := decide ((gP F p.1).1 < (gP F p.2).1) && decide ((gP F p.1).2 < (gP F p.2).2)
def domP (m : Nat) (F : List (Int × Int)) : List (Int × Int) := (gridP m).filter (lessB F)
/-- points of an order -/
def ptsF (m : Nat) (ps F : List (Int × Int)) : Bool := decide (sortI (F.map (·.1)) = upTo m) && (decide (sortI (F.map (·.2)) = upTo m) && decide (domP m F = ps))
def ptsD (m : Nat) (ps : List (Int × Int)) : PyData → Bool
  | .list ds => decide (ds.length = m) && (ds.all isPt && ptsF m ps (ds.map ptOf))
  | _ => false
theorem ptsD_pts {m : Nat} {ps F : List (Int × Int)} (h : F.length = m) : ptsD m ps (.list (psD F)) = ptsF m ps F := by
  show (decide ((psD F).length = m) && ((psD F).all isPt && ptsF m ps ((psD F).map ptOf))) = _
  rw [map_ptOf, all_isPt, List.length_map, h, decide_eq_true rfl]
  simp
theorem dom_iff {m : Nat} {ps : List (Int × Int)} (o : IsOrd m ps) (F : List (Int × Int)) : domP m F = ps ↔ ∀ p ∈ gridP m, lessB F p = decide (p ∈ ps) := by
  constructor
  · intro h p hp
    rw [Bool.eq_iff_iff, decide_eq_true_eq, ← h]
    exact ⟨fun q => List.mem_filter.mpr ⟨hp, q⟩, fun q => (List.mem_filter.mp q).2⟩
  · intro h
    refine srt_ext (grid_srt m _) o.srt fun p => ⟨fun q => ?_, fun q => ?_⟩
    · have q := List.mem_filter.mp q
      rw [h p q.1, decide_eq_true_eq] at q
      exact q.2
    · have b := o.bd p q
      have g : p ∈ gridP m := mem_grid.mpr b
      exact List.mem_filter.mpr ⟨g, by rw [h p g]; exact decide_eq_true q⟩
theorem row_filter (m a : Nat) (q : Int × Int → Bool) : psD ((rowP m a).filter q) = ((upTo m).filter fun t => q ((a : Int), t)).map fun t => prD ((a : Int), t) := by
  unfold rowP upTo psD
  rw [List.filter_map, List.map_map, List.filter_map, List.map_map]
  rfl
/-- so far what is less is so in the order -/
def LessOk (F ps L : List (Int × Int)) : Prop := ∀ p ∈ L, lessB F p = decide (p ∈ ps)
theorem LessOk.nil {F ps : List (Int × Int)} : LessOk F ps [] := fun _ h => absurd h List.not_mem_nil
theorem LessOk.app {F ps A B : List (Int × Int)} (h : LessOk F ps A) (g : LessOk F ps B) : LessOk F ps (A ++ B) := fun p hp => (List.mem_append.mp hp).elim (h p) (g p)
theorem LessOk.one {F ps : List (Int × Int)} {p : Int × Int} (h : lessB F p = decide (p ∈ ps)) : LessOk F ps [p] := fun q hq => by rw [List.mem_singleton.mp hq]; exact h
end Dn

/-! Den45: refusals: raise, the mark of a refusal that is held, try. -/
namespace Dn
open PySem PySem.Spec L2
open PyProof.Rows hiding St

/-! ### what is asked of a refusal while it is held -/
/-- the refusal at a, of class D, is held -/
structure Holds (X : Cx) (a D : Addr) : Prop where
  oe : ∃ oe : Obj, (a, oe) ∈ X.pn ∧ oe.cls = .ref D ∧ oe.dict = none ∧ ∃ vs, oe.data = .fields vs
  is : ExcC X.K D
  isi : X.mg "isinstance" = none
section
variable {X : Cx} {a D : Addr} {σ : St} {H : Hp}
theorem call_isM (hh : Holds X a D) : CallR X (.builtin "isinstance") (rIsE X.K D a) := by
  intro pins s σ H vs us Q I rel hq
  obtain ⟨c, cv, b, ev, hc, ek, q⟩ := hq
  obtain ⟨oe, hp, h1, h2, fs, h3⟩ := hh.oe
  have at_ := (I.pin (a, oe) (List.mem_append_left pins hp)).1
  obtain ⟨oc, od, oda, osl⟩ := oe
  have h1 : oc = .ref D := h1
  have h2 : od = none := h2
  have h3 : oda = .fields fs := h3
  subst ev h1 h2 h3
  match us, rel with
  | [u0, u1], .cons r0 (.cons r1 .nil) =>
    have e0 : u0 = .ref a := r0
    have e1 := hc u1 r1
    subst e0 e1
    have inst : PySem.W.InstAt s.heap a _ D none := ⟨at_, rfl, rfl, trivial⟩
    have E := hh.is
    exact PySem.W.kia_one (PySem.W.handS_kitx_exc E.hg E.hk E.hs E.hd E.ha E.hn E.ht E.hm) I.kIn inst ek (fun z => nomatch z) fun tk => ⟨.bl b, H, I.kept (t' := tk) fun _ _ z => z, rfl, q⟩
/-- it is of a class, or it is not -/
theorem is_w {x : Str} {p1 p2 p3 p4 : Pos} {c : V} {cv : Value} {b : Bool} {Q : VK} (hh : Holds X a D) (v0 : X.N[0]? = some ("e" : Str)) (vis : Vis X.env.scope "e") (g1 : Gl X "isinstance") (g2 : PE X (.Name x p3) (tC c)) (hc : ∀ u, RelV c u → u = cv)
    (k : PySem.W.kitOne X.K (.ref D) cv = some b) (e0 : σ[0]? = some (some (.ref a))) (q : Q (.bl b) H) : wE X (.Call (.Name "isinstance" p1) [.Name "e" p2, .Name x p3] [] p4) σ H Q :=
  PE.w (pe_callB (call_isM hh) g1 hh.isi boot_isinstance' (pa_cons (pe_var v0 vis rfl rfl) (pa_cons g2 pa_nil))) ⟨_, e0, c, cv, b, rfl, hc, k, q⟩
/-- a row of such questions -/
def Bls (X : Cx) (σ : St) (es : List Expr) (bs : List Bool) : Prop := es.all plainE = true ∧ ∀ (H : Hp) (Q : List V → Hp → Prop), Q (bs.map V.bl) H → wEs X es σ H Q
theorem Bls.nil : Bls X σ [] [] := ⟨rfl, fun _ _ q => q⟩
theorem Bls.cons {e : Expr} {es : List Expr} {b : Bool} {bs : List Bool} (he : plainE e = true) (h : ∀ (H : Hp) (Q : VK), Q (.bl b) H → wE X e σ H Q) (t : Bls X σ es bs) : Bls X σ (e :: es) (b :: bs) :=
  ⟨by rw [List.all_cons, he, t.1]; rfl, fun H Q q => h H _ (t.2 H _ q)⟩
/-- how often -/
def rCntB (K : PySem.W.Frag) : V → List V → Hp → VK → Prop := fun x xs H Q => ∃ (p : Addr) (bs : List Bool) (k : Bool), x = .ref p ∧ xs = [.bl k] ∧ SqL K H p (bs.map V.bl) ∧ Q (.int (bs.count k : Nat)) H
def isB (k : Bool) (v : Value) : Bool := match v with
  | .bool b => b == k
  | _ => false
theorem cnt_bools {k : Bool} : ∀ (bs : List Bool) (us : List Value), Vals (bs.map V.bl) us → us = bs.map Value.bool
  | [], _, h => by cases h; rfl
  | b :: bs, u :: us, h => by
    match h with
    | .cons h1 h2 =>
      have e : u = Value.bool b := h1
      rw [e, cnt_bools (k := k) bs us h2]
      rfl
theorem cnt_isB {k : Bool} : ∀ bs : List Bool, (bs.map Value.bool).countP (isB k) = bs.count k
  | [] => rfl
  | b :: bs => by
    rw [List.map_cons, List.countP_cons, List.count_cons, cnt_isB bs]
    rfl
theorem mt_cntB : MtR X "list.count" (rCntB X.K) := by
  intro pins s σ H x xs v us Q I rx rxs hq
  obtain ⟨p, bs, k, e1, e2, hs, q⟩ := hq
  subst e1 e2
  have ev : v = .ref p := rx
  match us, rxs with
  | [u], .cons ru .nil =>
    have eu : u = .bool k := ru
    subst ev eu
    obtain ⟨its, rv, ⟨ob, n, at_, hc, hdn, hd⟩, hlen⟩ := I.list hs
    have ei := cnt_bools (k := k) bs its rv
    subst ei
    obtain ⟨oc, od, oda, osl⟩ := ob
    have hc : oc = .type "list" := hc
    have hd : oda = .seq (bs.map Value.bool).toArray n := hd
    subst hc hd
    refine call_meets PySem.F.slot_list_count ⟨_, at_, rfl⟩ PySem.F.entry_list_count (PySem.F.args_list_count_2 _ _) (SeqAt.list_countAt p _ n od osl (.bool k) (isB k)) ⟨at_, fun y hy => ?_, ?_⟩
    · have hy : y ∈ bs.map Value.bool := by simpa using hy
      obtain ⟨b, _, rfl⟩ := List.mem_map.mp hy
      exact SeqAt.EqAt.bool_bool b k
    · refine ⟨.int (bs.count k : Nat), H, I.tok _, ⟨s.toks, ?_⟩, q⟩
      show Value.int (((bs.map Value.bool).countP (isB k) : Nat) : Int) s.toks = _
      rw [cnt_isB]
end

/-! ### the mark -/
def marksN : List Str := ["e", "found", "words"]
/-- the mark: the word at the one place that is true -/
def markOf (bs : List Bool) (ws : List Str) : Str := if bs.count true = 1 then (ws[bs.idxOf true]?).getD "other" else "other"
def strE (ws : List (Str × Nat × Pos)) : List Expr := ws.map fun w => .Constant (.str w.1) w.2.1 w.2.2
section
variable {X : Cx} {a D : Addr} {σ : St} {H : Hp} {Q : VK}
theorem strE_plain : ∀ ws : List (Str × Nat × Pos), (strE ws).all plainE = true
  | [] => rfl
  | w :: ws => by
    show (true && (strE ws).all plainE) = true
    rw [strE_plain ws]
    rfl
theorem strE_w : ∀ (ws : List (Str × Nat × Pos)) (H : Hp) (Q : List V → Hp → Prop), Q (ws.map fun w => .str w.1) H → wEs X (strE ws) σ H Q
  | [], _, _, q => q
  | w :: ws, H, Q, q => PE.w pe_str (strE_w ws H _ q)
/-- a list display of values that take nothing -/
theorem disp_w {es : List Expr} {vs : List V} {pos : Pos} (he : es.all plainE = true) (h : ∀ (H : Hp) (Q : List V → Hp → Prop), Q vs H → wEs X es σ H Q) (hl : vs.length ≤ 100) (q : ∀ p, H p = none → Q (.ref p) (upd H p (.lst vs))) : wE X (.List es pos) σ H Q :=
  PE.w (pe_lst (pa_ws he)) (h H _ ⟨le_line (by omega), q⟩)
theorem bls_w {es : List Expr} {bs : List Bool} {pos : Pos} (h : Bls X σ es bs) (hl : bs.length ≤ 100) (q : ∀ p, H p = none → Q (.ref p) (upd H p (.lst (bs.map V.bl)))) : wE X (.List es pos) σ H Q :=
  disp_w h.1 h.2 (by rw [List.length_map]; exact hl) q
/-- found = found + [..] -/
theorem add_w {es : List Expr} {b bs : List Bool} {p : Addr} {q1 q2 q3 q4 q5 : Pos} {D : Ends} (nd : X.N.Nodup) (n1 : X.N[1]? = some ("found" : Str)) (lc : X.env.scope.names.lookup ("found" : Str) = some .local) (hfn : ∀ x, X.fn x = true)
    (s1 : σ[1]? = some (some (.ref p))) (hp : H p = some (.lst (bs.map V.bl))) (h : Bls X σ es b) (lb : b.length ≤ 20) (lbs : bs.length ≤ 60) (next : ∀ p' H', Ex H H' → H' p' = some (.lst ((bs ++ b).map V.bl)) → D.nx (σ.set 1 (some (.ref p'))) H') :
    wS X (.Assign [.Name "found" q1] (.BinOp (.Name "found" q2) .Add (.List es q3) q4) q5) D σ H := by
  refine PS.w (ps_set (i := 1) nd n1 (.inl lc) pe_w (swap_of rfl) (.inl (hfn _))) ?_
  refine PE.w (pe_op op_cat (pe_var n1 (.inl lc) rfl rfl) pe_w) ⟨_, s1, ?_⟩
  refine bls_w h (by omega) fun p2 f2 => ?_
  have ne : p ≠ p2 := fun z => by rw [z, f2] at hp; cases hp
  refine ⟨p, p2, _, _, rfl, rfl, by rw [upd_ne ne]; exact hp, upd_same, le_line (by rw [List.length_map, List.length_map]; omega), fun p3 f3 => ?_⟩
  refine next p3 _ (Ex.trans (Ex.new f2) (Ex.new f3)) ?_
  rw [upd_same, List.map_append]
theorem ret_w {e : Expr} {t : TE} {q : Pos} {D : Ends} (he : PE X e t) (h : t σ H D.rt) : wSs X [.Return (some e) q] D σ H := PSs.w (pss_one (ps_ret he)) h
theorem idx_first : ∀ (bs : List Bool) (m : Nat) (h : m < bs.idxOf true) {hl : m < bs.length}, bs[m] = false
  | true :: bs, m, h, _ => by simp at h
  | false :: bs, 0, _, _ => rfl
  | false :: bs, m + 1, h, _ => by
    rw [List.getElem_cons_succ]
    refine idx_first bs m ?_
    simp [List.idxOf_cons] at h
    exact h
/-- what the whole def gives -/
theorem marks_w {es1 es2 es3 : List Expr} {b1 b2 b3 : List Bool} {r v : Expr} {ws : List (Str × Nat × Pos)} {br bv : Bool} {j1 j2 j3 j4 j5 : Nat}
    {q1 q2 q3 q4 q5 q6 q7 q8 q9 q10 q11 q12 q13 q14 q15 q16 q17 q18 q19 q20 q21 q22 q23 q24 q25 q26 q27 q28 q29 q30 q31 q32 q33 q34 q35 q36 q37 q38 : Pos}
    {D0 : Ends} (hN : X.N = marksN) (sc : ∀ x ∈ marksN, X.env.scope.names.lookup x = some .local) (hfn : ∀ x, X.fn x = true)
    (hr : plainE r = true ∧ plainT r = true) (wr : ∀ (σ : St) (H : Hp) (Q : VK), σ[0]? = some (some (.ref a)) → Q (.bl br) H → wE X r σ H Q)
    (hv : plainE v = true ∧ plainT v = true) (wv : ∀ (σ : St) (H : Hp) (Q : VK), σ[0]? = some (some (.ref a)) → Q (.bl bv) H → wE X v σ H Q)
    (h1 : ∀ σ : St, σ[0]? = some (some (.ref a)) → Bls X σ es1 b1) (h2 : ∀ σ : St, σ[0]? = some (some (.ref a)) → Bls X σ es2 b2) (h3 : ∀ σ : St, σ[0]? = some (some (.ref a)) → Bls X σ es3 b3)
    (l1 : b1.length ≤ 20) (l2 : b2.length ≤ 20) (l3 : b3.length ≤ 20) (lw : ws.length ≤ 60) (lb : (b1 ++ b2 ++ b3).length ≤ ws.length)
    (hl1 : (q31.endLine == q32.line) = true) (hl2 : (q35.endLine == q36.line) = true)
    (e0 : σ[0]? = some (some (.ref a))) (el : σ.length = 3) (good : ∀ H', Ex H H' → D0.rt (.str (if (br && bv) = true then markOf (b1 ++ b2 ++ b3) (ws.map (·.1)) else "other")) H') :
    wSs X [.If (.BoolOp .Or [.UnaryOp .Not r q1, .UnaryOp .Not v q2] q3) [.Return (some (.Constant (.str "other") j1 q4)) q5] [] q6,
      .Assign [.Name "found" q7] (.List es1 q8) q9,
      .Assign [.Name "found" q10] (.BinOp (.Name "found" q11) .Add (.List es2 q12) q13) q14,
      .Assign [.Name "found" q15] (.BinOp (.Name "found" q16) .Add (.List es3 q17) q18) q19,
      .If (.Compare (.Call (.Attribute (.Name "found" q30) "count" q31) [.Constant (.bool true) j2 q20] [] q32) [.NotEq] [.Constant (.int 1) j3 q21] q22) [.Return (some (.Constant (.str "other") j4 q23)) q24] [] q25,
      .Assign [.Name "words" q26] (.List (strE ws) q27) q28,
      .Return (some (.Subscript (.Name "words" q29) (.Call (.Attribute (.Name "found" q34) "index" q35) [.Constant (.bool true) j5 q33] [] q36) q37)) q38] D0 σ H := by
  have nd : X.N.Nodup := by rw [hN]; decide
  have n0 : X.N[0]? = some ("e" : Str) := by rw [hN]; rfl
  have n1 : X.N[1]? = some ("found" : Str) := by rw [hN]; rfl
  have n2 : X.N[2]? = some ("words" : Str) := by rw [hN]; rfl
  have lc1 := sc "found" (by decide)
  have lc2 := sc "words" (by decide)
  have vs0 : Vis X.env.scope "found" := .inl lc1
  refine PSs.w (pss_cons ps_w (pss_cons ps_w (pss_cons ps_w (pss_cons ps_w (pss_cons ps_w (pss_cons ps_w (pss_one ps_w))))))) ?_
  refine PS.w (ps_if pt_w pss_w pss_w) ?_
  refine PT.w (PW.pt (pw_or pt_w w_of_pt)) ?_
  refine PT.w (pt_not (pt_val pe_w (plainT_eq hr.2))) ?_
  refine wr σ H _ e0 ⟨br, rfl, ?_⟩
  cases br with
  | false => exact iteT (iteT (ret_w pe_str (good H (.refl H))))
  | true =>
  refine iteF ?_
  refine PT.w (PW.pt (pw_or1 (pt_not (pt_val pe_w (plainT_eq hv.2))))) ?_
  refine wv σ H _ e0 ⟨bv, rfl, ?_⟩
  cases bv with
  | false => exact iteT (ret_w pe_str (good H (.refl H)))
  | true =>
  refine iteF (PSs.w pss_nil ?_)
  have good : ∀ H', Ex H H' → D0.rt (.str (markOf (b1 ++ b2 ++ b3) (ws.map (·.1)))) H' := good
  refine PS.w (ps_set (i := 1) nd n1 (.inl lc1) pe_w (swap_of rfl) (.inl (hfn _))) ?_
  refine bls_w (h1 σ e0) (by omega) fun p1 f1 => ?_
  have z0 : ∀ {σ : St} {x : Option V}, σ[0]? = some (some (.ref a)) → (σ.set 1 x)[0]? = some (some (.ref a)) := fun {σ x} h => by rw [List.getElem?_set_ne (by decide)]; exact h
  refine add_w nd n1 lc1 hfn (by rw [List.getElem?_set_self (by omega)]) upd_same (h2 _ (z0 e0)) l2 (by omega) fun p2 H2 x2 f2 => ?_
  refine add_w nd n1 lc1 hfn (by rw [List.getElem?_set_self (by rw [List.length_set]; omega)]) f2 (h3 _ (z0 (z0 e0))) l3 (by rw [List.length_append]; omega) fun p3 H3 x3 f3 => ?_
  have X3 : Ex H H3 := (Ex.new f1).trans (x2.trans x3)
  clear x2 x3 f2 f1
  generalize hs : ((σ.set 1 (some (V.ref p1))).set 1 (some (V.ref p2))).set 1 (some (V.ref p3)) = σ3
  have s1 : σ3[1]? = some (some (.ref p3)) := by rw [← hs, List.getElem?_set_self (by rw [List.length_set, List.length_set]; omega)]
  have s3 : σ3.length = 3 := by rw [← hs, List.length_set, List.length_set, List.length_set]; exact el
  generalize hb : b1 ++ b2 ++ b3 = bs at f3 good lb
  have lbs : bs.length ≤ 60 := by omega
  clear hs hb h1 h2 h3
  refine PS.w (ps_if (pt_cmpR op_ne pe_w pe_int rfl) pss_w pss_w) ?_
  refine PE.w (pe_bm PySem.F.plainAttrs_list PySem.F.slot_list_count PySem.F.type_list_count mt_cntB (pe_var n1 vs0 rfl rfl) (pa_cons pe_bl pa_nil) (hline := hl1)) ⟨_, s1, .inl ⟨rfl, _, .inl (.inl f3)⟩, ?_⟩
  refine ⟨p3, bs, true, rfl, rfl, .inl (.inl f3), ?_⟩
  refine ⟨rfl, _, rfl, ?_⟩
  by_cases hc : bs.count true = 1
  · have e : (!decide (V.int ((bs.count true : Nat) : Int) = V.int 1)) = false := by rw [hc]; rfl
    rw [e]
    refine iteF (PSs.w pss_nil ?_)
    refine PS.w (ps_set (i := 2) nd n2 (.inl lc2) pe_w (swap_of rfl) (.inl (hfn _))) ?_
    refine disp_w (strE_plain ws) (strE_w ws) (by rw [List.length_map]; omega) fun p4 f4 => ?_
    have ne : p3 ≠ p4 := fun z => by rw [z, f4] at f3; cases f3
    have mem : true ∈ bs := List.count_pos_iff.mp (by omega)
    have il := List.idxOf_lt_length_iff.mpr mem
    have wl : bs.idxOf true < ws.length := by omega
    refine PS.w (ps_ret (pe_ix ix_list (pe_var n2 (.inl lc2) rfl rfl) pe_w (plainIx rfl))) ?_
    refine ⟨_, by rw [List.getElem?_set_self (by omega)], ?_⟩
    refine PE.w (pe_bm PySem.F.plainAttrs_list PySem.F.slot_list_index PySem.F.type_list_index mt_index (pe_var n1 vs0 rfl rfl) (pa_cons pe_bl pa_nil) (hline := hl2)) ⟨.ref p3, by rw [List.getElem?_set_ne (by decide)]; exact s1, .inl ⟨rfl, _, .inl (.inl (by rw [upd_ne ne]; exact f3))⟩, ?_⟩
    refine ⟨p3, bs.map V.bl, .bl true, bs.idxOf true, .bl true, rfl, rfl, .inl (.inl (by rw [upd_ne ne]; exact f3)), rfl, ?_, ?_, rfl, fun m z hm hz => ?_, ?_⟩
    · rw [List.all_map, List.all_eq_true]
      exact fun _ _ => rfl
    · rw [List.getElem?_map, List.getElem?_eq_getElem il, List.getElem_idxOf il]
      rfl
    · rw [List.getElem?_map, List.getElem?_eq_getElem (by omega)] at hz
      rw [idx_first bs m hm] at hz
      cases hz
      rfl
    · refine ⟨p4, ws.map fun w => .str w.1, bs.idxOf true, .str ws[bs.idxOf true].1, rfl, rfl, .inl (.inl upd_same), ?_, ?_⟩
      · exact x_ixn (by rw [List.getElem?_map, List.getElem?_eq_getElem wl]; rfl)
      · have g := good (upd H3 p4 (.lst (ws.map fun w => .str w.1))) (X3.trans (.new f4))
        have m : markOf bs (ws.map (·.1)) = ws[bs.idxOf true].1 := by
          unfold markOf
          rw [if_pos hc, List.getElem?_map, List.getElem?_eq_getElem wl]
          rfl
        rw [m] at g
        exact g
  · have e : (!decide (V.int ((bs.count true : Nat) : Int) = V.int 1)) = true := by
      rw [Bool.not_eq_true', decide_eq_false_iff_not]
      intro z
      have := V.int.inj z
      omega
    rw [e]
    have m : markOf bs (ws.map (·.1)) = "other" := by
      unfold markOf
      rw [if_neg hc]
    refine iteT (ret_w pe_str ?_)
    have g := good H3 X3
    rw [m] at g
    exact g
end
theorem boot_VE : bootBuiltins ("ValueError" : Str) = some (.type "ValueError") := by decide +kernel
/-! ### the def that tells the mark -/
def asks : List Str := ["NoOrder", "NoMany", "NoPairs", "Ring", "NoThing", "NoRow", "NoRows", "NoNumber", "NoChain", "NoTurns", "NoPoints", "NoText"]
def words : List Str := ["order", "many", "pairs", "ring", "thing", "row", "rows", "number", "chain", "turns", "points", "text"]
/-- what is known of a refusal's class -/
structure Kn (K : PySem.W.Frag) (mg : Str → Option Value) (D : Addr) (nm : Str) : Prop where
  ask : ∀ x ∈ asks, ∃ C : Addr, mg x = some (.ref C) ∧ PySem.W.kitOne K (.ref D) (.ref C) = some (decide (x = nm))
  rank : ∃ C : Addr, mg "RankError" = some (.ref C) ∧ PySem.W.kitOne K (.ref D) (.ref C) = some true
  val : mg "ValueError" = none ∧ PySem.W.kitOne K (.ref D) (.type "ValueError") = some true
def mkSc (sc : Scope) : Bool := marksN.all (fun x => sc.names.lookup x == some .local) && ("isinstance" :: "RankError" :: "ValueError" :: asks : List Str).all fun x => sc.names.lookup x == some .globalImplicit
abbrev isA (x : Str) (p1 p2 p3 p4 : Pos) : Expr := .Call (.Name "isinstance" p1) [.Name "e" p2, .Name x p3] [] p4
section
variable {X : Cx} {a D : Addr} {σ : St} {H : Hp}
theorem isA_w {sc : Scope} {x : Str} {p1 p2 p3 p4 : Pos} {C : Addr} {b : Bool} (hsc : X.env.scope = sc) (ms : mkSc sc = true) (hN : X.N = marksN) (hh : Holds X a D) (hx : sc.names.lookup x = some .globalImplicit) (hd : (x == ("__debug__" : Str)) = false) (hm : X.mg x = some (.ref C)) (k : PySem.W.kitOne X.K (.ref D) (.ref C) = some b) :
    ∀ (σ : St) (H : Hp) (Q : VK), σ[0]? = some (some (.ref a)) → Q (.bl b) H → wE X (isA x p1 p2 p3 p4) σ H Q := fun σ H Q e0 q => by
  subst hsc
  have m := ms
  unfold mkSc at m
  rw [Bool.and_eq_true, List.all_eq_true, List.all_eq_true] at m
  have l0 : X.env.scope.names.lookup ("e" : Str) = some .local := by simpa using m.1 ("e" : Str) (by decide)
  have l1 : X.env.scope.names.lookup ("isinstance" : Str) = some .globalImplicit := by simpa using m.2 ("isinstance" : Str) (by decide)
  exact is_w hh (by rw [hN]; rfl) (.inl l0) l1 (pe_glob (v := .ref C) hx hm rfl hd) (fun u r => r) k e0 q
theorem marks_st {sc : Scope} {r1 r2 r3 r4 r5 r6 r7 r8 r9 r10 r11 r12 r13 r14 r15 r16 r17 r18 r19 r20 r21 r22 r23 r24 r25 r26 r27 r28 r29 r30 r31 r32 r33 r34 r35 r36 r37 r38 r39 r40 r41 r42 r43 r44 r45 r46 r47 r48 r49 r50 r51 r52 r53 r54 r55 r56 w0 w1 w2 w3 w4 w5 w6 w7 w8 w9 w10 w11 q1 q2 q3 q4 q5 q6 q7 q8 q9 q10 q11 q12 q13 q14 q15 q16 q17 q18 q19 q20 q21 q22 q23 q24 q25 q26 q27 q28 q29 q30 q31 q32 q33 q34 q35 q36 q37 q38 : Pos} {j1 j2 j3 j4 j5 k0 k1 k2 k3 k4 k5 k6 k7 k8 k9 k10 k11 : Nat} {nm : Str} {D0 : Ends}
    (hsc : X.env.scope = sc) (ms : mkSc sc = true) (hN : X.N = marksN) (hfn : ∀ x, X.fn x = true) (hh : Holds X a D) (kn : Kn X.K X.mg D nm) (hl1 : (q31.endLine == q32.line) = true) (hl2 : (q35.endLine == q36.line) = true)
    (e0 : σ[0]? = some (some (.ref a))) (el : σ.length = 3) (good : ∀ H', Ex H H' → D0.rt (.str (markOf (asks.map fun x => decide (x = nm)) words)) H') :
    wSs X [.If (.BoolOp .Or [.UnaryOp .Not (isA "RankError" r49 r50 r51 r52) q1, .UnaryOp .Not (isA "ValueError" r53 r54 r55 r56) q2] q3) [.Return (some (.Constant (.str "other") j1 q4)) q5] [] q6,
      .Assign [.Name "found" q7] (.List [isA "NoOrder" r1 r2 r3 r4, isA "NoMany" r5 r6 r7 r8, isA "NoPairs" r9 r10 r11 r12, isA "Ring" r13 r14 r15 r16] q8) q9,
      .Assign [.Name "found" q10] (.BinOp (.Name "found" q11) .Add (.List [isA "NoThing" r17 r18 r19 r20, isA "NoRow" r21 r22 r23 r24, isA "NoRows" r25 r26 r27 r28, isA "NoNumber" r29 r30 r31 r32] q12) q13) q14,
      .Assign [.Name "found" q15] (.BinOp (.Name "found" q16) .Add (.List [isA "NoChain" r33 r34 r35 r36, isA "NoTurns" r37 r38 r39 r40, isA "NoPoints" r41 r42 r43 r44, isA "NoText" r45 r46 r47 r48] q17) q18) q19,
      .If (.Compare (.Call (.Attribute (.Name "found" q30) "count" q31) [.Constant (.bool true) j2 q20] [] q32) [.NotEq] [.Constant (.int 1) j3 q21] q22) [.Return (some (.Constant (.str "other") j4 q23)) q24] [] q25,
      .Assign [.Name "words" q26] (.List [.Constant (.str "order") k0 w0, .Constant (.str "many") k1 w1, .Constant (.str "pairs") k2 w2, .Constant (.str "ring") k3 w3, .Constant (.str "thing") k4 w4, .Constant (.str "row") k5 w5, .Constant (.str "rows") k6 w6, .Constant (.str "number") k7 w7, .Constant (.str "chain") k8 w8, .Constant (.str "turns") k9 w9, .Constant (.str "points") k10 w10, .Constant (.str "text") k11 w11] q27) q28,
      .Return (some (.Subscript (.Name "words" q29) (.Call (.Attribute (.Name "found" q34) "index" q35) [.Constant (.bool true) j5 q33] [] q36) q37)) q38] D0 σ H := by
  have m := ms
  unfold mkSc at m
  rw [Bool.and_eq_true, List.all_eq_true, List.all_eq_true] at m
  have gl : ∀ x ∈ ("isinstance" :: "RankError" :: "ValueError" :: asks : List Str), sc.names.lookup x = some .globalImplicit := fun x hx => by simpa using m.2 x hx
  obtain ⟨cR, mR, kR⟩ := kn.rank
  have askW : ∀ x ∈ asks, (x == ("__debug__" : Str)) = false → ∀ (p1 p2 p3 p4 : Pos) (σ : St) (H : Hp) (Q : VK), σ[0]? = some (some (.ref a)) → Q (.bl (decide (x = nm))) H → wE X (isA x p1 p2 p3 p4) σ H Q := fun x hx hd p1 p2 p3 p4 σ H Q e q => by
    obtain ⟨C, mC, kC⟩ := kn.ask x hx
    exact isA_w hsc ms hN hh (gl x (List.mem_cons_of_mem _ (List.mem_cons_of_mem _ (List.mem_cons_of_mem _ hx)))) hd mC kC σ H Q e q
  have B1 : ∀ σ : St, σ[0]? = some (some (.ref a)) → Bls X σ [isA "NoOrder" r1 r2 r3 r4, isA "NoMany" r5 r6 r7 r8, isA "NoPairs" r9 r10 r11 r12, isA "Ring" r13 r14 r15 r16] [decide ("NoOrder" = nm), decide ("NoMany" = nm), decide ("NoPairs" = nm), decide ("Ring" = nm)] := fun σ e => (.cons rfl (fun H Q q => askW "NoOrder" (by decide) (by decide) _ _ _ _ σ H Q e q) (.cons rfl (fun H Q q => askW "NoMany" (by decide) (by decide) _ _ _ _ σ H Q e q) (.cons rfl (fun H Q q => askW "NoPairs" (by decide) (by decide) _ _ _ _ σ H Q e q) (.cons rfl (fun H Q q => askW "Ring" (by decide) (by decide) _ _ _ _ σ H Q e q) .nil))))
  have B2 : ∀ σ : St, σ[0]? = some (some (.ref a)) → Bls X σ [isA "NoThing" r17 r18 r19 r20, isA "NoRow" r21 r22 r23 r24, isA "NoRows" r25 r26 r27 r28, isA "NoNumber" r29 r30 r31 r32] [decide ("NoThing" = nm), decide ("NoRow" = nm), decide ("NoRows" = nm), decide ("NoNumber" = nm)] := fun σ e => (.cons rfl (fun H Q q => askW "NoThing" (by decide) (by decide) _ _ _ _ σ H Q e q) (.cons rfl (fun H Q q => askW "NoRow" (by decide) (by decide) _ _ _ _ σ H Q e q) (.cons rfl (fun H Q q => askW "NoRows" (by decide) (by decide) _ _ _ _ σ H Q e q) (.cons rfl (fun H Q q => askW "NoNumber" (by decide) (by decide) _ _ _ _ σ H Q e q) .nil))))
  have B3 : ∀ σ : St, σ[0]? = some (some (.ref a)) → Bls X σ [isA "NoChain" r33 r34 r35 r36, isA "NoTurns" r37 r38 r39 r40, isA "NoPoints" r41 r42 r43 r44, isA "NoText" r45 r46 r47 r48] [decide ("NoChain" = nm), decide ("NoTurns" = nm), decide ("NoPoints" = nm), decide ("NoText" = nm)] := fun σ e => (.cons rfl (fun H Q q => askW "NoChain" (by decide) (by decide) _ _ _ _ σ H Q e q) (.cons rfl (fun H Q q => askW "NoTurns" (by decide) (by decide) _ _ _ _ σ H Q e q) (.cons rfl (fun H Q q => askW "NoPoints" (by decide) (by decide) _ _ _ _ σ H Q e q) (.cons rfl (fun H Q q => askW "NoText" (by decide) (by decide) _ _ _ _ σ H Q e q) .nil))))
  refine marks_w (a := a) (br := true) (bv := true) (ws := [("order", k0, w0), ("many", k1, w1), ("pairs", k2, w2), ("ring", k3, w3), ("thing", k4, w4), ("row", k5, w5), ("rows", k6, w6), ("number", k7, w7), ("chain", k8, w8), ("turns", k9, w9), ("points", k10, w10), ("text", k11, w11)]) hN (fun x hx => by rw [hsc]; simpa using m.1 x hx) hfn ⟨rfl, rfl⟩ (fun σ H Q e q => isA_w hsc ms hN hh (gl _ (by decide)) (by decide) mR kR σ H Q e q) ⟨rfl, rfl⟩ (fun σ H Q e q => ?_) B1 B2 B3 (by simp) (by simp) (by simp) (by simp) (by simp) hl1 hl2 e0 el good
  subst hsc
  exact is_w hh (by rw [hN]; rfl) (.inl (by simpa using m.1 "e" (by decide))) (gl _ (by decide)) (pe_bltn (v := .ty "ValueError") (gl _ (by decide)) kn.val.1 boot_VE rfl (by decide) (by decide)) (fun u r => r) kn.val.2 e q
end
/-- a def whose body tells the mark -/
def MkBody (st : Stmt) : Prop := ∀ (X : Cx) (a D : Addr) (nm : Str) (σ : St) (H : Hp) (D0 : Ends), X.N = marksN → X.env.scope = defScope st → (∀ x, X.fn x = true) → Holds X a D → Kn X.K X.mg D nm → σ[0]? = some (some (.ref a)) → σ.length = 3 →
  (∀ H', Ex H H' → D0.rt (.str (markOf (asks.map fun x => decide (x = nm)) words)) H') → wSs X (defBody st) D0 σ H
theorem fnM_of {P : Program} {w : World} {K : PySem.W.Frag} {mg : Str → Option Value} {base : Heap} {f : Addr} {fd : FuncData} {st : Stmt} {exs : List (Str × Str)} (F : Fun K "_law_marks" "_law_marks" st f fd) (S : FnScope marksN ["e"] (defScope st)) (body : MkBody st)
    (isi : mg "isinstance" = none) (says : ∀ p ∈ exs, markOf (asks.map fun x => decide (x = p.1)) words = p.2) (kn : ∀ p ∈ exs, ∀ D : Addr, mg p.1 = some (.ref D) → Kn K mg D p.1 ∧ ExcC K D) : FnM P w K mg base f fd exs := by
  obtain ⟨oc, od, kV, doc, pm, an, cv, ct, osl, rfl, lk, code⟩ := F.ex
  intro p hp D hD A outer s H q args Q E room hot pin e0 bind h1 h2 h3 good
  obtain ⟨k1, k2⟩ := kn p hp D hD
  have old := fun b o e => (e0.bs b o e).1
  have inK := e0.mod.kin.keeps old
  have far := e0.mod.nolimit.keeps old
  have kinds : ∀ y ∈ [(("e" : Str), Value.ref q.1)], (defScope st).names.lookup y.1 = some .local ∨ ((defScope st).names.lookup y.1 = some .cell ∧ ((cellsFrom (s.heap.objs.size + 1) (defScope st).names []).lookup y.1).isSome = true) := by
    intro y hy
    have ey : y = (("e" : Str), Value.ref q.1) := List.mem_singleton.mp hy
    subst ey
    exact (S.par _ (List.mem_singleton.mpr rfl)).imp id fun q => ⟨q, PySem.W.cellsFrom_some _ _ _ (.inl q)⟩
  refine codeAny_call_function room.depth (inK _ _ lk) rfl S.co S.gen rfl (PySem.W.codeRec_of inK code) (bind _ _ _ _ (wpAny_newFunctionEnv_cells S.kind kinds fun env he s1 enter => ?_))
  subst he
  generalize hX : L2H.cxH (L2N.CX P w) P w K mg base marksN "_law_marks" (defScope st) f cv A outer s H E q = X
  have J : Inv X [] (start marksN [.ref q.1]) H s1 := by
    subst hX
    exact L2H.inv_startH (ps := ["e"]) (us := [.ref q.1]) S pin e0 rfl (.cons rfl .nil) enter
  have hh : Holds X q.1 D := by
    subst hX
    exact ⟨⟨q.2, List.mem_singleton.mpr rfl, h1, h2, h3⟩, k2, isi⟩
  have ht : wSs X (defBody st) { nx := fun _ H' => Q .non H', rt := Q } (start marksN [.ref q.1]) H := by
    refine body X q.1 D p.1 _ H _ (by subst hX; rfl) (by subst hX; rfl) (by subst hX; exact fun _ => rfl) hh (by subst hX; exact k1) rfl rfl fun H' x => ?_
    rw [says p hp]
    exact good H' x
  have run := ht [] s1 J
  subst hX
  refine ⟨far.keeps enter.toInCall.keep, codeAny_func (wpAny_mono run (fun fl s' hs => ?_) fun _ _ hs => hs)⟩
  cases fl with
  | brk => exact hs.elim fun _ z => z.elim fun _ z => z.2.elim
  | cont => exact hs.elim fun _ z => z.elim fun _ z => z.2.elim
  | next =>
    obtain ⟨σ', H', I, q⟩ := hs
    exact ⟨.non, H', I.os, I.bare, I.base, I.hok, rfl, q⟩
  | ret u =>
    obtain ⟨v, σ', H', I, rv, q⟩ := hs
    exact ⟨v, H', I.os, I.bare, I.base, I.hok, rv, q⟩
/-! ### raise, try -/
def dRaise (x : Str) : DenS := fun _ _ => .exc ⟨x, none⟩
def hasX (x : Str) (exs : List (Str × Str)) : Bool := exs.any fun p => p.1 == x
theorem snd_raise {Γ : Ctx} {x m : Str} {j : Nat} {p p2 pos pos' : Pos} (hx : hasX x Γ.exs = true) (hg : Γ.sc.names.lookup x = some .globalImplicit) (hd : (x == ("__debug__" : Str)) = false) : SndS Γ (.Raise (some (.Call (.Name x p) [.Constant (.str m) j p2] [] pos)) none pos') (dRaise x) := by
  intro X Φ B F H ρ σ D W C BO bo hK T R hq
  obtain ⟨y, hy, e⟩ := List.any_eq_true.mp hx
  have e : y.1 = x := by simpa using e
  obtain ⟨c, mc, ef⟩ := C.exs y hy
  rw [e] at mc
  refine PS.w (L2N.ps_raise C.calm T (L2N.pmk_own PySem.F.excBase_ValueError ef.ok mc ef.kp (raises_own ef.bs ef.tp) (gl_of C hg) hd)) ?_
  exact hq σ F H (.ref c) none R.kept (.refl F) ⟨mc, rfl⟩
/-- the suite's call -/
theorem callM_w {X : Cx} {f D : Addr} {fd : FuncData} {exs : List (Str × Str)} {p : Str × Str} {y : Str} {i : Nat} {p1 p2 pos : Pos} {σ : St} {H : Hp} {Q : VK} (q : Addr × Obj) (hq : q ∈ X.pn) (hot : L2H.Hot1 X.A q) (room : L2H.RoomH 1 X.A) (FM : FnM X.prog X.w X.K X.mg X.base f fd exs)
    (hp : p ∈ exs) (hD : X.mg p.1 = some (.ref D)) (h1 : q.2.cls = .ref D) (h2 : q.2.dict = none) (h3 : ∃ vs, q.2.data = .fields vs) (hg : Gl X "_law_marks") (gm : X.mg "_law_marks" = some (.ref f)) (gk : PySem.W.keepIn X.K (.ref f) = true) (gb : Binds X.K fd ["e"] [])
    (hN : X.N[i]? = some y) (hv : Vis X.env.scope y) (hy1 : (y == ("__debug__" : Str)) = false) (hy2 : (y == ("__classdict__" : Str)) = false) (e0 : σ[i]? = some (some (.ref q.1))) (good : ∀ H', Ex H H' → Q (.str p.2) H') : wE X (.Call (.Name "_law_marks" p1) [.Name y p2] [] pos) σ H Q := by
  intro pins s I
  have ha : PA X [.Name y p2] (tCons (tVar i) tNil) := pa_cons (pe_var hN hv hy1 hy2) pa_nil
  refine wpAny_Call_Name_kw (ld_glob I hg gm (PySem.W.callWith_K (h₀ := X.base) I.ok.mod.kin gk (thn (ha.run pos pins s σ H (fun vs H1 => vs = [.ref q.1] ∧ H1 = H) I ⟨_, e0, rfl, rfl⟩) fun us s1 z => ?_) rfl rfl) (by decide))
  obtain ⟨vs, H1, I1, rel, e1, e2⟩ := z
  subst e1 e2
  match us, rel with
  | [u], .cons ru .nil =>
    have eu : u = .ref q.1 := ru
    subst eu
    have b := gb s1 [.ref q.1] I1.kIn rfl
    have pn := I1.pin q (List.mem_append_left pins hq)
    have pin : L2H.PinOk X.stack H1 s1 q := ⟨pn.1, pn.2.1, fun hm => by
      rcases List.mem_cons.mp (I1.stkSub q.1 hm) with z | z
      · exact pn.2.2.1 z
      · exact pn.2.2.2.1 z, pn.2.2.2.2⟩
    refine ⟨I1.kIn, wpAny_call (codeAny_mono (FM p hp D hD X.A X.stack s1 H1 q ⟨[.ref q.1], []⟩ Q (fun _ _ _ => False) room hot pin I1.env0 b h1 h2 h3 good) fun r s' h => ?_)⟩
    match r, h with
    | .error err, h => exact (noExc h).elim
    | .ok (.ret u), h => exact I1.after h
    | .ok .next, h => exact h.elim
    | .ok .brk, h => exact h.elim
    | .ok .cont, h => exact h.elim
/-- what stays of the slots behind a refusal -/
def thin (ρ : Env) : Env := ρ.map fun s => if s.isOwn = true then .un else s
theorem thin_get {ρ : Env} {i : Nat} {s : Slot} (h : (thin ρ)[i]? = some s) (n : s ≠ .un) : ρ[i]? = some s ∧ s.isOwn = false := by
  unfold thin at h
  rw [List.getElem?_map] at h
  cases e : ρ[i]? with
  | none => rw [e] at h; cases h
  | some t =>
    rw [e] at h
    have h : (if t.isOwn = true then Slot.un else t) = s := Option.some.inj h
    cases o : t.isOwn with
    | true => rw [o] at h; exact absurd h.symm n
    | false => rw [o] at h; subst h; exact ⟨rfl, o⟩
theorem Sl.thin {B : Bd} {F H F' H' : Hp} {ρ : Env} {σ : St} (k : Sl B F H ρ σ) (e : Ex F F') : Sl B F' H' (Dn.thin ρ) σ := by
  have no : ∀ {i : Nat} {s : Slot}, (Dn.thin ρ)[i]? = some s → s.isOwn = true → False := fun {i s} h o => by
    have := (thin_get h fun z => by rw [z] at o; cases o).2
    rw [o] at this
    cases this
  refine ⟨by rw [← k.len]; exact List.length_map _, fun i d h => ?_, fun i ns h => ?_, fun i s h o => (no h o).elim, k.par, fun i j s t a _ h o => (no h o).elim⟩
  · obtain ⟨v, h1, h2⟩ := k.val i d (thin_get h fun z => nomatch z).1
    exact ⟨v, h1, h2.mono e⟩
  · obtain ⟨b, h1, h2⟩ := k.scr i ns (thin_get h fun z => nomatch z).1
    exact ⟨b, h1, e.sqL h2⟩
/-- try: body, except RankError as e: return _law_marks(e) -/
def dTry (exs : List (Str × Str)) (b : DenS) : DenS := fun Φ ρ => match b Φ ρ with
  | .ok r => .ok r
  | .exc x => match x.arg, exs.find? fun p => p.1 == x.cls with
    | none, some p => .ok (.ret (.val (.str p.2)), thin ρ)
    | _, _ => .stuck
  | .stuck => .stuck
theorem snd_try {Γ : Ctx} {body : List Stmt} {b : DenS} {i : Nat} {np p1 p2 p3 p4 p5 pos : Pos} (hb : SndSs Γ body b) (hN : Γ.N[i]? = some ("e" : Str)) (hl : Γ.sc.names.lookup ("e" : Str) = some .local) (g1 : Γ.sc.names.lookup ("RankError" : Str) = some .globalImplicit)
    (g2 : Γ.sc.names.lookup ("_law_marks" : Str) = some .globalImplicit) (ne : Γ.exs.isEmpty = false) :
    SndS Γ (.Try body [.ExceptHandler (some (.Name "RankError" np)) (some "e") [.Return (some (.Call (.Name "_law_marks" p1) [.Name "e" p2] [] p3)) p4] p5] [] [] pos) (dTry Γ.exs b) := by
  intro X Φ B F H ρ σ D W C BO bo hK T R hq
  obtain ⟨room, f, fd, Rk, gm, gk, gb, gR, ex, FM⟩ := C.hot fun z => by rw [z] at ne; cases ne
  have nd : X.N.Nodup := by rw [C.nm]; exact C.nd
  have iN : X.N[i]? = some ("e" : Str) := by rw [C.nm]; exact hN
  have il : X.env.scope.names.lookup ("e" : Str) = some .local := by rw [C.sc]; exact hl
  refine PS.w (L2N.ps_try_as (i := i) (tb := fun W' D σ H => ∃ (B : Bd) (F : Hp) (ρ : Env), BdOk Γ B ∧ B.K = X.K ∧ Rel B F H ρ σ ∧ (b Φ ρ).wp (StP B F D) (ExS X B F W'))
    (ts := fun a cls d D σ H => d = none ∧ (∃ σ0 : St, σ = σ0.set i (some (.ref a))) ∧ ∃ p ∈ Γ.exs, X.mg p.1 = some cls ∧ ∀ H', Ex H H' → D.rt (.str p.2) H')
    BO.stk.1 BO.stk.2 nd iN il ⟨gl_of C g1, by decide, .inl gR⟩ T (fun W' pn xe tk hp => ⟨fun pins s σ H D I h => ?_⟩) fun a oe cls d pn hz hf => ⟨fun pins s σ H D I h => ?_⟩) ?_
  · obtain ⟨B', F', ρ', bo', hK', R', h⟩ := h
    have C' : CtxOk Γ Φ (X.tr pn xe) := ⟨C.nm, C.sc, C.nd, C.calm, C.room, C.grd, C.fns, C.gints, C.gstrs, C.blt, C.exs, C.hot⟩
    have BO' : BodyOk (X.tr pn xe) := ⟨BO.fn, BO.fk, hp, BO.stk⟩
    exact hb (X.tr pn xe) Φ B' F' H ρ' σ D W' C' BO' bo' hK' tk R' h pins s I
  · obtain ⟨hd, ⟨σ0, hσ⟩, p, hp, hm, good⟩ := h
    obtain ⟨Dc, mc, ef⟩ := C.exs p hp
    have ec : cls = .ref Dc := by
      rw [mc] at hm
      exact (Option.some.inj hm).symm
    subst hσ hd ec
    obtain ⟨vs, hv⟩ := hf
    have len : i < σ0.length := by
      have := I.len
      rw [List.length_set] at this
      have hi := (List.getElem?_eq_some_iff.mp iN).1
      have e : (X.suite a ((a, oe) :: pn)).N = X.N := rfl
      rw [e] at this
      omega
    have gM : Gl X "_law_marks" := gl_of C g2
    have w := callM_w (X := X.suite a ((a, oe) :: pn)) (p1 := p1) (p2 := p2) (pos := p3) (H := H) (Q := D.rt) (a, oe) List.mem_cons_self ⟨rfl, vs, hv, hz.2.2 vs hv⟩ ⟨room.dp, room.un⟩ FM hp mc hz.1 hz.2.1 ⟨vs, hv⟩ gM gm gk gb iN (.inl il) (by decide) (by decide) (by rw [List.getElem?_set_self len]) good
    exact PSs.w (pss_one (ps_ret pe_w)) w pins s I
  · refine ⟨B, F, ρ, bo, hK, R, ?_⟩
    have q : (dTry Γ.exs b Φ ρ).wp (StP B F D) (ExS X B F W) := hq
    unfold dTry at q
    cases e : b Φ ρ with
    | ok r => rw [e] at q; exact q
    | stuck => rw [e] at q; exact q.elim
    | exc x =>
      rw [e] at q
      obtain ⟨xc, xa⟩ := x
      cases xa with
      | some v => exact q.elim
      | none =>
        cases g : Γ.exs.find? fun p => p.1 == xc with
        | none =>
          simp only [g] at q
          exact q.elim
        | some p =>
          simp only [g] at q
          have hp := List.mem_of_find?_eq_some g
          have hx : p.1 = xc := by simpa using List.find?_some g
          intro σ' F' H' cls d kp ef m
          obtain ⟨m1, m2⟩ := m
          have m1 : X.mg p.1 = some cls := by rw [hx]; exact m1
          obtain ⟨Dc, mc, _⟩ := C.exs p hp
          have ec : cls = .ref Dc := by
            rw [mc] at m1
            exact (Option.some.inj m1).symm
          subst ec
          refine ⟨true, ex p hp Dc mc, fun _ a na => ⟨m2, ⟨σ', rfl⟩, p, hp, m1, fun H2 e2 => ?_⟩, fun z => nomatch z⟩
          exact q σ (.str p.2) F' H2 ⟨kp.grow e2, R.sl.thin ef⟩ ef (.str p.2)
/-! ### which class is which -/
theorem kit_of {K : PySem.W.Frag} {D C : Addr} {b : Bool} (self : PySem.W.subIn K (.ref D) (.ref D) = some true) (ic : PySem.W.isClsIn K C = true) (ty : PySem.W.typeIn K (.ref C) = some (.type "type")) (su : PySem.W.subIn K (.ref D) (.ref C) = some b) : PySem.W.kitOne K (.ref D) (.ref C) = some b := by
  unfold PySem.W.kitOne
  by_cases e : D = C
  · subst e
    rw [self] at su
    rw [if_pos (beq_self_eq_true _)]
    exact su
  · rw [if_neg (by simpa using e)]
    unfold PySem.W.kitCls
    have ic : (PySem.W.clsIn K C).isSome = true := ic
    simp only [ic, ty, beq_self_eq_true, Bool.and_self, if_true]
    exact su
theorem kit_val {K : PySem.W.Frag} {D : Addr} {b : Bool} (su : PySem.W.subIn K (.ref D) (.type "ValueError") = some b) : PySem.W.kitOne K (.ref D) (.type "ValueError") = some b := by
  have m : PySem.W.kitMeta "ValueError" = true := by decide +kernel
  show (if PySem.W.kitMeta "ValueError" = true then PySem.W.subIn K (.ref D) (.type "ValueError") else none) = some b
  rw [if_pos m]
  exact su
/-! ### steps -/
section
variable {α β : Type} {x : Exc} {f : α → Out β} {P : α → Prop} {E : Exc → Prop} {Φ : Calls} {ρ : Env} {b : DenS} {exs : List (Str × Str)} {c : Str} {p : Str × Str} {r : Fl × Env}
@[simp] theorem x_bindX : (Out.exc x : Out α).bind f = .exc x := id rfl
@[simp] theorem x_wpX : (Out.exc x : Out α).wp P E = E x := id rfl
@[simp] theorem x_dRaise : dRaise c Φ ρ = .exc ⟨c, none⟩ := id rfl
def kTry2 (o : Option (Str × Str)) (ρ : Env) : Out (Fl × Env) := match o with
  | some p => .ok (.ret (.val (.str p.2)), thin ρ)
  | none => .stuck
def kTry (exs : List (Str × Str)) (ρ : Env) : Out (Fl × Env) → Out (Fl × Env)
  | .ok r => .ok r
  | .exc ⟨c, none⟩ => kTry2 (exs.find? fun p => p.1 == c) ρ
  | .exc ⟨_, some _⟩ => .stuck
  | .stuck => .stuck
@[simp] theorem x_dTry : dTry exs b Φ ρ = kTry exs ρ (b Φ ρ) := by
  unfold dTry kTry
  cases b Φ ρ with
  | ok r => rfl
  | stuck => rfl
  | exc x =>
    obtain ⟨c, a⟩ := x
    cases a with
    | none =>
      show _ = kTry2 (exs.find? fun p => p.1 == c) ρ
      cases g : exs.find? fun p => p.1 == c with
      | none => simp only [g]; rfl
      | some p => simp only [g]; rfl
    | some v => rfl
@[simp] theorem x_kTryO : kTry exs ρ (.ok r) = .ok r := id rfl
@[simp] theorem x_kTryX : kTry exs ρ (.exc ⟨c, none⟩) = kTry2 (exs.find? fun p => p.1 == c) ρ := id rfl
@[simp] theorem x_kTry2 : kTry2 (some p) ρ = .ok (.ret (.val (.str p.2)), thin ρ) := id rfl
@[simp] theorem x_thin0 : thin [] = [] := id rfl
@[simp] theorem x_thinV {d : PyData} : thin (.val d :: ρ) = .val d :: thin ρ := id rfl
@[simp] theorem x_thinU : thin (.un :: ρ) = .un :: thin ρ := id rfl
@[simp] theorem x_thinO {ds : List PyData} : thin (.own ds :: ρ) = .un :: thin ρ := id rfl
end
end Dn

/-! Den46: lists of rows compared. -/
namespace Dn
open PySem PySem.Spec L2
open PyProof.Rows hiding St
theorem lay_rs : ∀ rs : List (List Int), PyData.canLayAll0 (rsD rs) = true ∧ PyData.depthAll (rsD rs) ≤ 2
  | [] => by simp [PyData.canLayAll0, PyData.depthAll]
  | r :: rs => by
    obtain ⟨h1, h2⟩ := lay_rs rs
    obtain ⟨g1, g2⟩ := lay_ns r
    constructor
    · show (PyData.canLay0 (.tuple (nsD r)) && PyData.canLayAll0 (rsD rs)) = true
      rw [h1, Bool.and_true]
      simpa [PyData.canLay0] using g1
    · show max (PyData.depth (.tuple (nsD r))) (PyData.depthAll (rsD rs)) ≤ 2
      have : PyData.depth (.tuple (nsD r)) = PyData.depthAll (nsD r) + 1 := by simp [PyData.depth]
      omega
theorem sh_rsL (rs : List (List Int)) : SeqAt.shaped (.list (rsD rs)) = true := by
  obtain ⟨h1, h2⟩ := lay_rs rs
  simp [SeqAt.shaped, PyData.canLay0, PyData.depth, h1]
  omega
theorem eqv_rs : ∀ rs qs : List (List Int), PyData.eqvAll (rsD rs) (rsD qs) = (rs == qs)
  | [], [] => by simp [PyData.eqvAll]
  | [], _ :: _ => by simp [PyData.eqvAll]
  | _ :: _, [] => by simp [PyData.eqvAll]
  | r :: rs, q :: qs => by
    show (PyData.eqv (.tuple (nsD r)) (.tuple (nsD q)) && PyData.eqvAll (rsD rs) (rsD qs)) = _
    rw [eqv_rs rs qs]
    have : PyData.eqv (.tuple (nsD r)) (.tuple (nsD q)) = (r == q) := by
      simp only [PyData.eqv, eqv_ns]
    rw [this]
    rfl
theorem x_neRL (rs qs : List (List Int)) : pNe [.list (rsD rs), .list (rsD qs)] = some (.val (.bool (!decide (rs = qs)))) := by
  unfold pNe
  simp only [sh_rsL, PyData.eqv, eqv_rs, Bool.and_self, if_true, beq_dec]
/-! an expression's result, frozen -/
def kIce : Slot × Env → Out (Slot × Env) := fun r => match r.1 with
  | .val d => .ok (.val d, r.2)
  | .own ds => .ok (.val (.list ds), r.2)
  | .odc false es => .ok (.val (.dict es), r.2)
  | _ => .stuck
def dIce (d : Den) : Den := fun Φ ρ => (d Φ ρ).bind kIce
theorem snd_ice {Γ : Ctx} {e : Expr} {d : Den} {p : Bool} (h : SndE Γ e d p) : SndE Γ e (dIce d) p := by
  intro X Φ B F H ρ σ Q W C hK T R hq
  refine h X Φ B F H ρ σ Q W C hK T R (wp_mono (wp_bind (c := d Φ ρ) hq) (fun r q v F1 H1 R1 e1 e2 hv => ?_) fun _ z => z)
  obtain ⟨s, ρ1⟩ := r
  cases s with
  | val x => exact q v F1 H1 R1 e1 e2 hv
  | own ds =>
    obtain ⟨F2, d2, R2, e3, ee, hr⟩ := Res.freeze R1 hv rfl
    cases ee
    exact q v F2 H1 R2 (e1.trans e3) e2 hr
  | odc t es =>
    cases t with
    | true => exact q.elim
    | false =>
      obtain ⟨F2, d2, R2, e3, ee, hr⟩ := Res.freeze R1 hv rfl
      cases ee
      exact q v F2 H1 R2 (e1.trans e3) e2 hr
  | un => exact q.elim
  | scr _ => exact q.elim
section
variable {d : Den} {Φ : Calls} {ρ : Env} {x : PyData} {ds : List PyData}
@[simp] theorem x_dIce : dIce d Φ ρ = (d Φ ρ).bind kIce := id rfl
@[simp] theorem x_kIce1 : kIce (.val x, ρ) = .ok (.val x, ρ) := id rfl
@[simp] theorem x_kIce2 : kIce (.own ds, ρ) = .ok (.val (.list ds), ρ) := id rfl
end
end Dn

/-! Den47: how many ways to go on. -/
namespace Dn
open PySem PySem.Spec L2
open PyProof.Rows hiding St
theorem x_inLi (ns : List Int) (x : Int) : pIn [.int x, .list (nsD ns)] = some (.val (.bool (decide (x ∈ ns)))) := by
  unfold pIn
  simp only [sh_i, sh_nsL, any_int, Bool.and_self, if_true]
theorem x_ninLi (ns : List Int) (x : Int) : pNin [.int x, .list (nsD ns)] = some (.val (.bool (!decide (x ∈ ns)))) := by
  unfold pNin
  simp only [sh_i, sh_nsL, any_int, Bool.and_self, if_true]
/-- so many rows begin so, k things lacking -/
def cnt (m : Nat) (ps : List (Int × Int)) : Nat → List Int → Nat
  | 0, _ => 1
  | k + 1, R => ((freeI m ps R).map fun x => cnt m ps k (R ++ [x])).sum
theorem free_perm {m : Nat} {ps : List (Int × Int)} {R Q : List Int} (h : R.Perm Q) : freeI m ps R = freeI m ps Q := by
  unfold freeI
  refine List.filter_congr fun t _ => ?_
  have e1 : decide (t ∉ R) = decide (t ∉ Q) := by
    rw [Bool.eq_iff_iff, decide_eq_true_eq, decide_eq_true_eq, h.mem_iff]
  have e2 : ∀ p : Int × Int, decide (p.1 ∈ R) = decide (p.1 ∈ Q) := fun p => by
    rw [Bool.eq_iff_iff, decide_eq_true_eq, decide_eq_true_eq, h.mem_iff]
  rw [e1]
  simp only [e2]
theorem cnt_perm {m : Nat} {ps : List (Int × Int)} : ∀ (k : Nat) {R Q : List Int}, R.Perm Q → cnt m ps k R = cnt m ps k Q
  | 0, _, _, _ => rfl
  | k + 1, R, Q, h => by
    unfold cnt
    rw [free_perm h]
    congr 1
    exact List.map_congr_left fun x _ => cnt_perm k (h.append_right [x])
theorem sort_iff {R Q : List Int} : sortI R = sortI Q ↔ R.Perm Q := by
  constructor
  · intro h
    exact ((sortI_perm R).symm.trans (by rw [h])).trans (sortI_perm Q)
  · intro h
    refine List.Perm.eq_of_pairwise (le := fun a b => leI a b = true) (fun a b _ _ h1 h2 => ?_) ?_ ?_ (((sortI_perm R).trans h).trans (sortI_perm Q).symm)
    · unfold leI at h1 h2
      simp only [decide_eq_true_eq] at h1 h2
      omega
    · exact List.pairwise_mergeSort (le := leI) (fun a b c h g => leI_trans h g) leI_total R
    · exact List.pairwise_mergeSort (le := leI) (fun a b c h g => leI_trans h g) leI_total Q
/-- what is known -/
def TabOk (m : Nat) (ps : List (Int × Int)) (T : List (List Int × Int)) : Prop := ∀ e ∈ T, ∃ R, Beg m ps R ∧ e.1 = sortI R ∧ e.2 = cnt m ps (m - R.length) R
def tabN (T : List (List Int × Int)) : List (PyData × PyData) := T.map fun e => (.tuple (nsD e.1), .int e.2)
theorem kEq_ns (a b : List Int) : kEq (.tuple (nsD a)) (.tuple (nsD b)) = decide (a = b) := by
  show (match numsOf (nsD a), numsOf (nsD b) with
    | some x, some y => decide (x = y)
    | _, _ => false) = _
  rw [numsOf_map, numsOf_map]
theorem look_ns (T : List (List Int × Int)) (k : List Int) : lookD (tabN T) (.tuple (nsD k)) = (lookL T k).map .int := lookD_enc (fun k => .tuple (nsD k)) kEq_ns .int T k
theorem put_ns (T : List (List Int × Int)) (k : List Int) (v : Int) : putD (tabN T) (.tuple (nsD k)) (.int v) = tabN (putL T k v) := putD_enc (fun k => .tuple (nsD k)) kEq_ns .int T k v
theorem TabOk.nil {m : Nat} {ps : List (Int × Int)} : TabOk m ps [] := fun _ h => absurd h List.not_mem_nil
theorem TabOk.look {m : Nat} {ps : List (Int × Int)} {T : List (List Int × Int)} (t : TabOk m ps T) {g : List Int} {v : Int} (h : lookL T (sortI g) = some v) : v = cnt m ps (m - g.length) g := by
  obtain ⟨R, _, h1, h2⟩ := t _ (lookL_some h)
  have p := sort_iff.mp h1
  have h2 : v = cnt m ps (m - R.length) R := h2
  rw [h2, ← cnt_perm _ p, p.length_eq]
theorem TabOk.put {m : Nat} {ps : List (Int × Int)} {T : List (List Int × Int)} (t : TabOk m ps T) {g : List Int} (b : Beg m ps g) : TabOk m ps (putL T (sortI g) (cnt m ps (m - g.length) g)) := by
  unfold putL
  split
  · intro e he
    obtain ⟨e', h', rfl⟩ := List.mem_map.mp he
    by_cases c : e'.1 = sortI g
    · rw [if_pos c]
      exact ⟨g, b, c, rfl⟩
    · rw [if_neg c]
      exact t e' h'
  · intro e he
    rcases List.mem_append.mp he with he | he
    · exact t e he
    · rw [List.mem_singleton.mp he]
      exact ⟨g, b, rfl, rfl⟩
theorem putL_len {T : List (List Int × Int)} {k : List Int} {v : Int} : (putL T k v).length ≤ T.length + 1 := by
  unfold putL
  split
  · rw [List.length_map]; omega
  · rw [List.length_append, List.length_singleton]; omega
section
variable {Φ : Calls} {ρ : Env} {i : Nat} {r : DenA} {t t' : Bool} {es fs : List (PyData × PyData)} {ss : List Slot}
@[simp] theorem x_asVar5 : aVar (some (.odc t es)) i r Φ ρ = (r Φ (ρ.set i .un)).bind (kAs (some i, .odc t es)) := id rfl
@[simp] theorem x_outs5 : outsOk (.odc t es :: ss) (.odc t' fs :: ρ) = outsOk ss ρ := id rfl
end
/-- so many entries more at most -/
def more (m : Nat) : Nat → Nat
  | 0 => 0
  | k + 1 => 1 + m * more m k
theorem sum_ns : ∀ l : List Nat, (l.map fun n : Nat => (n : Int)).sum = ((l.sum : Nat) : Int)
  | [] => rfl
  | n :: l => by
    rw [List.map_cons, List.sum_cons, List.sum_cons, sum_ns l]
    omega
/-- all rows that begin so, in the order of tuples -/
def ext (m : Nat) (ps : List (Int × Int)) : Nat → List Int → List (List Int)
  | 0, R => [R]
  | k + 1, R => (freeI m ps R).flatMap fun x => ext m ps k (R ++ [x])
theorem flat_sum {α β : Type} (f : α → List β) : ∀ l : List α, (l.flatMap f).length = (l.map fun x => (f x).length).sum
  | [] => rfl
  | x :: l => by rw [List.flatMap_cons, List.length_append, List.map_cons, List.sum_cons, flat_sum f l]
theorem ext_len (m : Nat) (ps : List (Int × Int)) : ∀ (k : Nat) (R : List Int), (ext m ps k R).length = cnt m ps k R
  | 0, _ => rfl
  | k + 1, R => by
    show ((freeI m ps R).flatMap fun x => ext m ps k (R ++ [x])).length = ((freeI m ps R).map fun x => cnt m ps k (R ++ [x])).sum
    rw [flat_sum]
    congr 1
    exact List.map_congr_left fun x _ => ext_len m ps k (R ++ [x])
theorem rows_ext (m : Nat) (ps : List (Int × Int)) (t : Nat) : ∀ k, rowsI m ps (t + k) = (rowsI m ps t).flatMap (ext m ps k)
  | 0 => by
    show rowsI m ps t = (rowsI m ps t).flatMap fun R => [R]
    rw [List.flatMap_singleton']
  | k + 1 => by
    have h := rows_ext m ps (t + 1) k
    rw [show t + (k + 1) = t + 1 + k by omega, h]
    show ((rowsI m ps t).flatMap fun r => (freeI m ps r).map fun x => r ++ [x]).flatMap (ext m ps k) = _
    rw [List.flatMap_assoc]
    congr 1
    funext r
    rw [List.flatMap_map]
    rfl
theorem rows_all (m : Nat) (ps : List (Int × Int)) : rowsI m ps m = ext m ps m [] := by
  have h := rows_ext m ps 0 m
  rw [Nat.zero_add] at h
  rw [h]
  show ([[]] : List (List Int)).flatMap (ext m ps m) = _
  simp
theorem ext_beg {m : Nat} {ps : List (Int × Int)} : ∀ (k : Nat) {R : List Int}, Beg m ps R → ∀ r ∈ ext m ps k R, Beg m ps r ∧ r.length = R.length + k
  | 0, R, b, r, h => by rw [List.mem_singleton.mp h]; exact ⟨b, rfl⟩
  | k + 1, R, b, r, h => by
    obtain ⟨x, hx, h⟩ := List.mem_flatMap.mp h
    have := ext_beg k (b.snoc hx) r h
    refine ⟨this.1, ?_⟩
    rw [this.2, List.length_append, List.length_singleton]
    omega
theorem cnt_pos {m : Nat} {ps : List (Int × Int)} (o : IsOrd m ps) : ∀ (k : Nat) {R : List Int}, Beg m ps R → m = R.length + k → 0 < cnt m ps k R
  | 0, _, _, _ => Nat.one_pos
  | k + 1, R, b, e => by
    obtain ⟨x, hx⟩ := List.exists_mem_of_ne_nil _ (free_ne o b.nd b.sub (by omega))
    have h := cnt_pos o k (b.snoc hx) (by rw [List.length_append, List.length_singleton]; omega)
    show 0 < ((freeI m ps R).map fun x => cnt m ps k (R ++ [x])).sum
    have : cnt m ps k (R ++ [x]) ≤ ((freeI m ps R).map fun x => cnt m ps k (R ++ [x])).sum := by
      generalize freeI m ps R = F at hx
      induction F with
      | nil => cases hx
      | cons y F ih =>
        rw [List.map_cons, List.sum_cons]
        rcases List.mem_cons.mp hx with rfl | hx
        · omega
        · have := ih hx; omega
    omega
theorem Beg.row {m : Nat} {ps : List (Int × Int)} {R : List Int} (o : IsOrd m ps) (b : Beg m ps R) (h : R.length = m) : R.Perm (upTo m) ∧ ps.all (aheadB R) = true := by
  have pm := perm_of_full b.nd b.sub (by omega)
  exact ⟨pm, ahd_all o b.ahd pm⟩
/-- what a row begins with -/
theorem beg_of_row {m : Nat} {ps : List (Int × Int)} {A B : List Int} (pm : (A ++ B).Perm (upTo m)) (fa : ps.all (aheadB (A ++ B)) = true) : Beg m ps A := by
  have nd : (A ++ B).Nodup := pm.nodup_iff.mpr (upTo_nd m)
  refine ⟨(List.nodup_append.mp nd).1, fun x hx => pm.mem_iff.mp (List.mem_append_left _ hx), fun p hp h => ?_⟩
  have f := List.all_eq_true.mp fa p hp
  unfold aheadB at f ⊢
  rw [decide_eq_true_eq] at f ⊢
  rw [List.idxOf_append, List.idxOf_append, if_pos h] at f
  have l := List.idxOf_lt_length_iff.mpr h
  by_cases c : p.1 ∈ A
  · rw [if_pos c] at f
    exact f
  · rw [if_neg c] at f
    omega
theorem free_of_row {m : Nat} {ps : List (Int × Int)} {A B : List Int} {x : Int} (pm : (A ++ x :: B).Perm (upTo m)) (fa : ps.all (aheadB (A ++ x :: B)) = true) : x ∈ freeI m ps A := by
  have nd : (A ++ x :: B).Nodup := pm.nodup_iff.mpr (upTo_nd m)
  have nx : x ∉ A := fun h => (List.nodup_append.mp nd).2.2 x h x List.mem_cons_self rfl
  refine mem_free.mpr ⟨pm.mem_iff.mp (by simp), nx, fun p hp e => ?_⟩
  have f := List.all_eq_true.mp fa p hp
  unfold aheadB at f
  rw [decide_eq_true_eq, e, List.idxOf_append, List.idxOf_append, if_neg nx, List.idxOf_cons_self] at f
  by_cases c : p.1 ∈ A
  · exact c
  · rw [if_neg c] at f
    omega
end Dn

/-! Den48: rows in the order of tuples, sorted. -/
namespace Dn
open PySem PySem.Spec L2
open PyProof.Rows hiding St
theorem leRow (a b : List Int) : PySem.W.dataLe false id (.tuple (nsD a)) (.tuple (nsD b)) = decide (a ≤ b) := by
  show (!PySem.W.dataLt (.tuple (nsD b)) (.tuple (nsD a))) = _
  have e : PySem.W.dataLt (.tuple (nsD b)) (.tuple (nsD a)) = decide (b < a) := (PySem.W.dataLt_tuple _ _).trans (PySem.W.dataLt_ints b a)
  rw [e]
  by_cases h : b < a
  · have : ¬ a ≤ b := fun r => List.not_lt.mpr r h
    simp [h, this]
  · have : a ≤ b := List.not_lt.mp h
    simp [h, this]
theorem alike_ns : ∀ a b : List Int, PySem.W.alikeAll (nsD a) (nsD b) = true
  | [], _ => by unfold PySem.W.alikeAll; rfl
  | _ :: _, [] => rfl
  | x :: a, y :: b => by
    show (PySem.W.alike (.int x) (.int y) && PySem.W.alikeAll (nsD a) (nsD b)) = true
    rw [alike_i, alike_ns a b]
    rfl
theorem sortOk_rs {rs : List (List Int)} (h : ∀ r ∈ rs, r ≠ []) : sortOk (rsD rs) = true := by
  unfold sortOk
  simp only [Bool.and_eq_true, Bool.or_eq_true, List.all_eq_true]
  refine ⟨fun d hd => ?_, .inl fun d hd => ?_⟩
  · obtain ⟨p, _, rfl⟩ := List.mem_map.mp hd
    refine ⟨sh_nsT p, fun e he => ?_⟩
    obtain ⟨q, _, rfl⟩ := List.mem_map.mp he
    have : PySem.W.alike (.tuple (nsD p)) (.tuple (nsD q)) = PySem.W.alikeAll (nsD p) (nsD q) := by simp [PySem.W.alike]
    rw [this]
    exact alike_ns p q
  · obtain ⟨p, hp, rfl⟩ := List.mem_map.mp hd
    cases p with
    | nil => exact absurd rfl (h [] hp)
    | cons x l => rfl
theorem x_sortRs {rs : List (List Int)} (h : ∀ r ∈ rs, r ≠ []) (s : rs.Pairwise (· ≤ ·)) (hl : rs.length ≤ 1000000) : pSorted [.list (rsD rs)] = some (.own (rsD rs)) := by
  have l : (rsD rs).length = rs.length := List.length_map _
  show (if (sortOk (rsD rs) && decide ((rsD rs).length ≤ 1000000)) = true then some (Slot.own (sortD (rsD rs))) else none) = _
  rw [if_pos (by rw [sortOk_rs h, l, decide_eq_true hl]; rfl)]
  have : sortD (rsD rs) = rsD rs := by
    unfold sortD
    refine List.mergeSort_of_pairwise ?_
    refine List.pairwise_map.mpr (s.imp fun {a b} h => ?_)
    rw [leRow]
    exact decide_eq_true h
  rw [this]
theorem lt_pre {x y : Int} (h : x < y) : ∀ (R a b : List Int), R ++ x :: a < R ++ y :: b
  | [], _, _ => List.cons_lt_cons_iff.mpr (.inl h)
  | z :: R, a, b => List.cons_lt_cons_iff.mpr (.inr ⟨rfl, lt_pre h R a b⟩)
theorem ext_pre {m : Nat} {ps : List (Int × Int)} : ∀ (k : Nat) (R : List Int), ∀ r ∈ ext m ps k R, ∃ s, r = R ++ s
  | 0, R, r, h => ⟨[], by rw [List.mem_singleton.mp h, List.append_nil]⟩
  | k + 1, R, r, h => by
    obtain ⟨x, hx, h⟩ := List.mem_flatMap.mp h
    obtain ⟨s, e⟩ := ext_pre k (R ++ [x]) r h
    exact ⟨x :: s, by rw [e, List.append_assoc]; rfl⟩
theorem free_up (m : Nat) (ps : List (Int × Int)) (R : List Int) : (freeI m ps R).Pairwise (· < ·) := by
  unfold freeI
  refine List.Pairwise.sublist List.filter_sublist ?_
  unfold upTo
  refine List.pairwise_map.mpr (List.Pairwise.imp (fun {a b} h => ?_) (List.pairwise_lt_range (n := m)))
  omega
theorem ext_up (m : Nat) (ps : List (Int × Int)) : ∀ (k : Nat) (R : List Int), (ext m ps k R).Pairwise (· < ·)
  | 0, R => List.pairwise_singleton _ _
  | k + 1, R => by
    show ((freeI m ps R).flatMap fun x => ext m ps k (R ++ [x])).Pairwise _
    rw [List.pairwise_flatMap]
    refine ⟨fun x _ => ext_up m ps k (R ++ [x]), (free_up m ps R).imp fun {x y} h a ha b hb => ?_⟩
    obtain ⟨s, rfl⟩ := ext_pre k _ a ha
    obtain ⟨t, rfl⟩ := ext_pre k _ b hb
    rw [List.append_assoc, List.append_assoc]
    exact lt_pre h R s t
theorem ext_le (m : Nat) (ps : List (Int × Int)) (k : Nat) (R : List Int) : (ext m ps k R).Pairwise (· ≤ ·) := (ext_up m ps k R).imp fun {a b} h => List.le_of_lt h
theorem ext_one {m : Nat} {ps : List (Int × Int)} {k : Nat} {R r : List Int} {i j : Nat} (h1 : (ext m ps k R)[i]? = some r) (h2 : (ext m ps k R)[j]? = some r) : i = j := by
  obtain ⟨a1, a2⟩ := List.getElem?_eq_some_iff.mp h1
  obtain ⟨b1, b2⟩ := List.getElem?_eq_some_iff.mp h2
  have p := List.pairwise_iff_getElem.mp (ext_up m ps k R)
  rcases Nat.lt_trichotomy i j with c | c | c
  · have := p i j a1 b1 c
    rw [a2, b2] at this
    exact absurd this (List.lt_irrefl r)
  · exact c
  · have := p j i b1 a1 c
    rw [a2, b2] at this
    exact absurd this (List.lt_irrefl r)
end Dn

/-! Den49: a, b = x, y where a name is a cell: the tuple is made. -/
namespace Dn
open PySem PySem.Spec L2
open PyProof.Rows hiding St
theorem stores_cell {x y : Str} {px py : Pos} {vs : List Expr} {k k2 : Nat} {p p2 : Pos} {env : PySem.Env} (h1 : (env.kindOf x == some .local) = false ∨ (env.kindOf y == some .local) = false) : swappedStores [.Tuple [.Name x px, .Name y py] k p] (.Tuple vs k2 p2) env = pure none := by
  unfold swappedStores
  rcases h1 with h | h
  · simp [h]
    intro _ _ _ h2
    exfalso
    have h : env.kindOf x ≠ some .local := by simpa using h
    simp only [List.filterMap_cons, List.filterMap_nil, h, false_and, if_false] at h2
    split at h2 <;> simp at h2
  · simp [h]
    intro _ _ _ h2
    exfalso
    have h : env.kindOf y ≠ some .local := by simpa using h
    simp only [List.filterMap_cons, List.filterMap_nil, h, false_and, if_false] at h2
    split at h2 <;> simp at h2
theorem snd_parC {Γ : Ctx} {i j : Nat} {x y : Str} {a b : Expr} {d : DenOs} {p : Bool} {pos px py pt pt2 : Pos} {kt k2 : Nat} (ht : Tgs Γ.N (locB Γ.sc) [.Name x px, .Name y py] [i, j]) (hi : ([i, j]).all (fun i => decide (Γ.np ≤ i)) = true)
    (h : SndFs Γ [a, b] d p) (he : [a, b].all plainE = true) (hc : ((Γ.sc.names.lookup x == some .local) = false ∨ (Γ.sc.names.lookup y == some .local) = false)) :
    SndS Γ (.Assign [.Tuple [.Name x px, .Name y py] kt pt] (.Tuple [a, b] k2 pt2) pos) (dPar i j d) := by
  intro X Φ B F H ρ σ D W C BO bo hK T R hq
  obtain ⟨hl, hz⟩ := ht.each (env := X.env)
  have kk : ∀ z, X.env.kindOf z = Γ.sc.names.lookup z := fun z => by
    show X.env.scope.names.lookup z = _
    rw [C.sc]
  refine PS.w (ps_asg (pe_tupF (pa_ws he)) (pg_tup C.calm (ht.pgs C (mayPut_body C BO)) hl hz) (sole_of rfl) (stores_cell (by rw [kk, kk]; exact hc)) rfl) ?_
  unfold tAsg tTupF
  dsimp only
  refine h X Φ B F H ρ σ _ W C hK T R (wp_mono (wp_bind (c := d Φ ρ) hq) (fun r q ws F1 H1 R1 e1 _ hws => ?_) ExS.ex)
  obtain ⟨l, ρ1⟩ := r
  have R1 : Rel B F1 H1 ρ1 σ := R1
  match l, hws, q with
  | [u, v], hws, q =>
    obtain ⟨w1, w2, rfl, r1, r2⟩ : ∃ w1 w2, ws = [w1, w2] ∧ Rp B.K F1 u w1 ∧ Rp B.K F1 v w2 := by
      match ws, hws with
      | [w1, w2], .cons r1 (.cons r2 .nil) => exact ⟨w1, w2, rfl, r1, r2⟩
    refine ⟨by show 2 ≤ sizeLine; decide, fun t o ht' ho => ?_⟩
    have G : Grow F1 H1 (upd F1 t (.frz o (.tup [w1, w2]))) (upd H1 t (.frz o (.tup [w1, w2]))) := Grow.new R1.kept.ex ht'
    have R2 := R1.add G
    have r1 := r1.mono G.ff
    have r2 := r2.mono G.ff
    refine ⟨t, _, rfl, .inl (.inr ⟨o, upd_same⟩), rfl, setAll_ok [i, j] [u, v] _ ρ1 _ σ rfl (.cons r1 (.cons r2 .nil)) R2 (fun i hi' => Nat.le_trans bo.vs (of_decide_eq_true (List.all_eq_true.mp hi i hi'))) fun σ' R3 => ?_⟩
    exact q σ' _ _ R3 (e1.trans G.ff)
  | [], _, q => exact q.elim
  | [_], _, q => exact q.elim
  | _ :: _ :: _ :: _, _, q => exact q.elim
end Dn

/-! Den50: rows that turn a turn; rows from behind. -/
namespace Dn
open PySem PySem.Spec L2
open PyProof.Rows hiding St
/-- the order with (b, a) and all that follows -/
def andP (m : Nat) (ps : List (Int × Int)) (a b : Int) : List (Int × Int) := (gridP m).filter fun p => decide (p ∈ ps) || ((decide (p.1 = b) || decide ((p.1, b) ∈ ps)) && (decide (p.2 = a) || decide ((a, p.2) ∈ ps)))
theorem mem_and {m : Nat} {ps : List (Int × Int)} {a b : Int} {p : Int × Int} : p ∈ andP m ps a b ↔ p ∈ gridP m ∧ (p ∈ ps ∨ ((p.1 = b ∨ (p.1, b) ∈ ps) ∧ (p.2 = a ∨ (a, p.2) ∈ ps))) := by
  unfold andP
  rw [List.mem_filter, Bool.or_eq_true, Bool.and_eq_true, Bool.or_eq_true, Bool.or_eq_true, decide_eq_true_eq, decide_eq_true_eq, decide_eq_true_eq, decide_eq_true_eq, decide_eq_true_eq]
theorem apart_iff {ps : List (Int × Int)} {a b : Int} : apartB ps a b = true ↔ a ≠ b ∧ (a, b) ∉ ps ∧ (b, a) ∉ ps := by
  unfold apartB
  rw [Bool.and_eq_true, Bool.and_eq_true, decide_eq_true_eq, decide_eq_true_eq, decide_eq_true_eq]
theorem IsOrd.in_grid {m : Nat} {ps : List (Int × Int)} (o : IsOrd m ps) {p : Int × Int} (h : p ∈ ps) : p ∈ gridP m := mem_grid.mpr ⟨(o.bd p h).1, (o.bd p h).2.1, (o.bd p h).2.2.1, (o.bd p h).2.2.2⟩
theorem and_ord {m : Nat} {ps : List (Int × Int)} (o : IsOrd m ps) {a b : Int} (h : apartB ps a b = true) : IsOrd m (andP m ps a b) := by
  obtain ⟨nab, n1, n2⟩ := apart_iff.mp h
  have T : ∀ {x y z : Int}, (x, y) ∈ ps → (y, z) ∈ ps → (x, z) ∈ ps := fun h1 h2 => o.tr _ h1 _ h2 rfl
  have ir : ∀ {x : Int}, (x, x) ∉ ps := fun h => o.irr _ h rfl
  have s := grid_srt m (fun p => decide (p ∈ ps) || ((decide (p.1 = b) || decide ((p.1, b) ∈ ps)) && (decide (p.2 = a) || decide ((a, p.2) ∈ ps))))
  -- nothing from a on lies at b or ahead of it
  have no : ∀ {x : Int}, (x = b ∨ (x, b) ∈ ps) → (x = a ∨ (a, x) ∈ ps) → False := fun {x} h1 h2 => by
    rcases h1 with rfl | h1
    · rcases h2 with rfl | h2
      · exact nab rfl
      · exact n1 h2
    · rcases h2 with rfl | h2
      · exact n1 h1
      · exact n1 (T h2 h1)
  refine ⟨o.lo, o.hi, fun p hp => ?_, s.1, s.2, fun p hp e => ?_, fun p hp q hq e => ?_⟩
  · have g := mem_grid.mp (mem_and.mp hp).1
    exact ⟨g.1, g.2.1, g.2.2.1, g.2.2.2⟩
  · obtain ⟨x, y⟩ := p
    have e : x = y := e
    subst e
    rcases (mem_and.mp hp).2 with h | ⟨h1, h2⟩
    · exact ir h
    · exact no h1 h2
  · obtain ⟨x, y⟩ := p
    obtain ⟨y', z⟩ := q
    have e : y = y' := e
    subst e
    obtain ⟨g1, h1⟩ := mem_and.mp hp
    obtain ⟨g2, h2⟩ := mem_and.mp hq
    have g1 := mem_grid.mp g1
    have g2 := mem_grid.mp g2
    refine mem_and.mpr ⟨mem_grid.mpr ⟨g1.1, g1.2.1, g2.2.2.1, g2.2.2.2⟩, ?_⟩
    simp only at h1 h2 ⊢
    rcases h1 with h1 | ⟨h1, h1'⟩
    · rcases h2 with h2 | ⟨h2, h2'⟩
      · exact .inl (T h1 h2)
      · exact .inr ⟨.inr (h2.elim (fun e => e ▸ h1) fun h2 => T h1 h2), h2'⟩
    · rcases h2 with h2 | ⟨h2, h2'⟩
      · exact .inr ⟨h1, .inr (h1'.elim (fun e => e ▸ h2) fun h1' => T h1' h2)⟩
      · exact (no h2 h1').elim
theorem ext_mem {m : Nat} {ps : List (Int × Int)} : ∀ (xs R : List Int), (∀ (A B : List Int) (x : Int), xs = A ++ x :: B → x ∈ freeI m ps (R ++ A)) → R ++ xs ∈ ext m ps xs.length R
  | [], R, _ => by
    rw [List.append_nil]
    exact List.mem_singleton.mpr rfl
  | x :: xs, R, h => by
    have h0 := h [] xs x rfl
    rw [List.append_nil] at h0
    refine List.mem_flatMap.mpr ⟨x, h0, ?_⟩
    have := ext_mem xs (R ++ [x]) fun A B y e => by
      have := h (x :: A) B y (by rw [e]; rfl)
      rwa [List.append_assoc]
    rwa [List.append_assoc] at this
theorem row_in {m : Nat} {ps : List (Int × Int)} {r : List Int} (pm : r.Perm (upTo m)) (fa : ps.all (aheadB r) = true) : r ∈ ext m ps m [] := by
  have h := ext_mem (m := m) (ps := ps) r [] fun A B x e => by
    rw [List.nil_append]
    exact free_of_row (B := B) (by rw [← e]; exact pm) (by rw [← e]; exact fa)
  rw [pm.length_eq, upTo_len, List.nil_append] at h
  exact h
theorem in_row {m : Nat} {ps : List (Int × Int)} (o : IsOrd m ps) {r : List Int} (h : r ∈ ext m ps m []) : r.Perm (upTo m) ∧ ps.all (aheadB r) = true := by
  obtain ⟨b, l⟩ := ext_beg (m := m) (ps := ps) m (R := []) .nil r h
  exact b.row o (by simpa using l)
theorem ext_rows {m : Nat} {ps : List (Int × Int)} (o : IsOrd m ps) : RowsI m ps (ext m ps m []) := fun _ h => in_row o h
theorem ext_ne {m : Nat} {ps : List (Int × Int)} (o : IsOrd m ps) : ext m ps m [] ≠ [] := fun z => by
  have h := cnt_pos o m (R := []) .nil (by simp)
  rw [← ext_len, z] at h
  exact absurd h (Nat.lt_irrefl 0)
/-- a row that turns a turn -/
theorem turn_row {m : Nat} {ps : List (Int × Int)} (o : IsOrd m ps) {a b : Int} (h : apartB ps a b = true) (ga : 0 ≤ a ∧ a < m) (gb : 0 ≤ b ∧ b < m) : ∃ r ∈ ext m ps m [], r.idxOf b < r.idxOf a := by
  have o2 := and_ord o h
  obtain ⟨r, hr⟩ := List.exists_mem_of_ne_nil _ (ext_ne o2)
  obtain ⟨pm, fa⟩ := in_row o2 hr
  have fa := List.all_eq_true.mp fa
  refine ⟨r, row_in pm (List.all_eq_true.mpr fun p hp => fa p (mem_and.mpr ⟨o.in_grid hp, .inl hp⟩)), ?_⟩
  exact of_decide_eq_true (fa (b, a) (mem_and.mpr ⟨mem_grid.mpr ⟨gb.1, gb.2, ga.1, ga.2⟩, .inr ⟨.inl rfl, .inl rfl⟩⟩))
/-- turns that none of the rows turns -/
def leftT (m : Nat) (ps : List (Int × Int)) (rs : List (List Int)) : List (Int × Int) := (gridP m).filter fun p => apartB ps p.1 p.2 && rs.all fun r => aheadB r p
theorem mem_leftT {m : Nat} {ps : List (Int × Int)} {rs : List (List Int)} {p : Int × Int} : p ∈ leftT m ps rs ↔ p ∈ gridP m ∧ apartB ps p.1 p.2 = true ∧ ∀ r ∈ rs, r.idxOf p.1 < r.idxOf p.2 := by
  unfold leftT
  rw [List.mem_filter, Bool.and_eq_true, List.all_eq_true]
  refine and_congr Iff.rfl (and_congr Iff.rfl (forall_congr' fun r => forall_congr' fun h => ?_))
  unfold aheadB
  rw [decide_eq_true_eq]
theorem mem_told {m : Nat} {rs : List (List Int)} {p : Int × Int} : p ∈ toldP m rs ↔ p ∈ gridP m ∧ p.1 ≠ p.2 ∧ ∀ r ∈ rs, r.idxOf p.1 < r.idxOf p.2 := by
  unfold toldP tells
  rw [List.mem_filter, Bool.and_eq_true, List.all_eq_true, decide_eq_true_eq]
  refine and_congr Iff.rfl (and_congr Iff.rfl (forall_congr' fun r => forall_congr' fun h => ?_))
  rw [decide_eq_true_eq]
theorem rows_fwd {m : Nat} {ps : List (Int × Int)} {rs : List (List Int)} (hr : RowsI m ps rs) : ∀ p ∈ ps, ∀ r ∈ rs, r.idxOf p.1 < r.idxOf p.2 := fun p hp r h => of_decide_eq_true (List.all_eq_true.mp (hr r h).2 p hp)
theorem sub_told {m : Nat} {ps : List (Int × Int)} (o : IsOrd m ps) {rs : List (List Int)} (hr : RowsI m ps rs) : ∀ p ∈ ps, p ∈ toldP m rs := fun p hp => mem_told.mpr ⟨o.in_grid hp, o.irr p hp, rows_fwd hr p hp⟩
theorem told_left {m : Nat} {ps : List (Int × Int)} (o : IsOrd m ps) {rs : List (List Int)} (ne : rs ≠ []) (hr : RowsI m ps rs) : toldP m rs = ps ↔ leftT m ps rs = [] := by
  have ot : IsOrd m (toldP m rs) := told_ord (by have := o.lo; omega) (by have := o.hi; omega) ne
  constructor
  · intro h
    refine List.eq_nil_iff_forall_not_mem.mpr fun p hp => ?_
    obtain ⟨g, a, w⟩ := mem_leftT.mp hp
    have a := apart_iff.mp a
    exact a.2.1 (h ▸ mem_told.mpr ⟨g, a.1, w⟩)
  · intro h
    refine srt_ext ot.srt o.srt fun p => ⟨fun hp => ?_, sub_told o hr p⟩
    refine Classical.byContradiction fun np => ?_
    obtain ⟨g, n, w⟩ := mem_told.mp hp
    have nq : (p.2, p.1) ∉ ps := fun hq => by
      cases rs with
      | nil => exact ne rfl
      | cons r rs =>
        have h1 := w r List.mem_cons_self
        have h2 := rows_fwd hr _ hq r List.mem_cons_self
        simp only at h2
        omega
    have : p ∈ leftT m ps rs := mem_leftT.mpr ⟨g, apart_iff.mpr ⟨n, np, nq⟩, w⟩
    rw [h] at this
    cases this
theorem all_tell {m : Nat} {ps : List (Int × Int)} (o : IsOrd m ps) : toldP m (ext m ps m []) = ps := (told_left o (ext_ne o) (ext_rows o)).mpr (List.eq_nil_iff_forall_not_mem.mpr fun p hp => by
  obtain ⟨g, a, w⟩ := mem_leftT.mp hp
  have g := mem_grid.mp g
  obtain ⟨r, h1, h2⟩ := turn_row o a ⟨g.1, g.2.1⟩ ⟨g.2.2.1, g.2.2.2⟩
  have := w r h1
  omega)
/-- a row more -/
theorem told_more {m : Nat} {ps : List (Int × Int)} (o : IsOrd m ps) {rs qs : List (List Int)} (ne : rs ≠ []) (hr : RowsI m ps rs) (hq : RowsI m ps qs) (h : toldP m rs = ps) : toldP m (rs ++ qs) = ps := by
  have hl := (told_left o ne hr).mp h
  refine (told_left o (fun z => ne (List.append_eq_nil_iff.mp z).1) (fun r h => (List.mem_append.mp h).elim (hr r) (hq r))).mpr (List.eq_nil_iff_forall_not_mem.mpr fun p hp => ?_)
  obtain ⟨g, a, w⟩ := mem_leftT.mp hp
  have : p ∈ leftT m ps rs := mem_leftT.mpr ⟨g, a, fun r h => w r (List.mem_append_left _ h)⟩
  rw [hl] at this
  cases this
/-! from behind -/
theorem idx_rev {l : List Int} (nd : l.Nodup) {x : Int} (h : x ∈ l) : l.reverse.idxOf x + l.idxOf x + 1 = l.length := by
  induction l with
  | nil => cases h
  | cons y l ih =>
    obtain ⟨ny, nd⟩ := List.nodup_cons.mp nd
    rw [List.reverse_cons, List.idxOf_append, List.idxOf_cons, List.length_cons]
    by_cases e : y = x
    · subst e
      have : y ∉ l.reverse := fun z => ny (List.mem_reverse.mp z)
      rw [if_neg this]
      simp
    · have hx : x ∈ l := (List.mem_cons.mp h).resolve_left fun z => e z.symm
      have z : (y == x) = false := by simpa using e
      rw [if_pos (List.mem_reverse.mpr hx), List.idxOf_cons, z]
      have := ih nd hx
      simp
      omega
theorem rev_ahead {m : Nat} {r : List Int} (pm : r.Perm (upTo m)) {a b : Int} (ga : 0 ≤ a ∧ a < m) (gb : 0 ≤ b ∧ b < m) : r.reverse.idxOf b < r.reverse.idxOf a ↔ r.idxOf a < r.idxOf b := by
  have nd : r.Nodup := pm.nodup_iff.mpr (upTo_nd m)
  have h1 := idx_rev nd (perm_has pm ga.1 ga.2)
  have h2 := idx_rev nd (perm_has pm gb.1 gb.2)
  omega
theorem rows_rev {m : Nat} {ps : List (Int × Int)} (o : IsOrd m ps) {rs : List (List Int)} (hr : RowsI m ps rs) : RowsI m (sortP (ps.map swapP)) (rs.map List.reverse) := fun q hq => by
  obtain ⟨r, h, rfl⟩ := List.mem_map.mp hq
  obtain ⟨pm, fa⟩ := hr r h
  refine ⟨(List.reverse_perm r).trans pm, List.all_eq_true.mpr fun p hp => ?_⟩
  have hp := mem_swap.mp hp
  have b := o.bd _ hp
  unfold aheadB
  rw [decide_eq_true_eq]
  exact (rev_ahead pm ⟨b.1, b.2.1⟩ ⟨b.2.2.1, b.2.2.2⟩).mpr (rows_fwd hr _ hp r h)
theorem left_rev {m : Nat} {ps : List (Int × Int)} (o : IsOrd m ps) {rs : List (List Int)} (hr : RowsI m ps rs) {p : Int × Int} : p ∈ leftT m (sortP (ps.map swapP)) (rs.map List.reverse) ↔ (p.2, p.1) ∈ leftT m ps rs := by
  rw [mem_leftT, mem_leftT, mem_grid, mem_grid, apart_iff, apart_iff, mem_swap, mem_swap]
  simp only [List.mem_map, forall_exists_index, and_imp, forall_apply_eq_imp_iff₂]
  constructor
  · rintro ⟨g, a, w⟩
    exact ⟨⟨g.2.2.1, g.2.2.2, g.1, g.2.1⟩, ⟨Ne.symm a.1, a.2.1, a.2.2⟩, fun r h => (rev_ahead (hr r h).1 ⟨g.2.2.1, g.2.2.2⟩ ⟨g.1, g.2.1⟩).mp (w r h)⟩
  · rintro ⟨g, a, w⟩
    exact ⟨⟨g.2.2.1, g.2.2.2, g.1, g.2.1⟩, ⟨Ne.symm a.1, a.2.1, a.2.2⟩, fun r h => (rev_ahead (hr r h).1 ⟨g.1, g.2.1⟩ ⟨g.2.2.1, g.2.2.2⟩).mpr (w r h)⟩
theorem told_rev {m : Nat} {ps : List (Int × Int)} (o : IsOrd m ps) {rs : List (List Int)} (ne : rs ≠ []) (hr : RowsI m ps rs) : toldP m (rs.map List.reverse) = sortP (ps.map swapP) ↔ toldP m rs = ps := by
  rw [told_left o ne hr, told_left (swap_ord o) (by simpa using ne) (rows_rev o hr)]
  refine ⟨fun h => List.eq_nil_iff_forall_not_mem.mpr fun p hp => ?_, fun h => List.eq_nil_iff_forall_not_mem.mpr fun p hp => ?_⟩
  · have : (p.2, p.1) ∈ leftT m (sortP (ps.map swapP)) (rs.map List.reverse) := (left_rev o hr).mpr hp
    rw [h] at this
    cases this
  · have := (left_rev o hr).mp hp
    rw [h] at this
    cases this
/-- few of them -/
theorem free_len {m : Nat} {ps : List (Int × Int)} {R : List Int} (b : Beg m ps R) : (freeI m ps R).length + R.length ≤ m := by
  have nd : (freeI m ps R ++ R).Nodup := List.nodup_append.mpr ⟨(upTo_nd m).sublist List.filter_sublist, b.nd, fun x h y h' e => by
    subst e
    exact (mem_free.mp h).2.1 h'⟩
  have := nodup_len _ _ nd fun x hx => (List.mem_append.mp hx).elim (fun h => (mem_free.mp h).1) (b.sub x)
  rw [List.length_append, upTo_len] at this
  exact this
def fac : Nat → Nat
  | 0 => 1
  | k + 1 => (k + 1) * fac k
theorem sum_le {l : List Nat} {c : Nat} (h : ∀ x ∈ l, x ≤ c) : l.sum ≤ l.length * c := by
  induction l with
  | nil => simp
  | cons x l ih =>
    have h1 := h x List.mem_cons_self
    have h2 := ih fun y hy => h y (List.mem_cons_of_mem _ hy)
    rw [List.sum_cons, List.length_cons, Nat.add_mul, Nat.one_mul]
    omega
theorem cnt_fac {m : Nat} {ps : List (Int × Int)} : ∀ (k : Nat) {R : List Int}, Beg m ps R → m = R.length + k → cnt m ps k R ≤ fac k
  | 0, _, _, _ => Nat.le_refl 1
  | k + 1, R, b, e => by
    show ((freeI m ps R).map fun x => cnt m ps k (R ++ [x])).sum ≤ (k + 1) * fac k
    have h := sum_le (l := (freeI m ps R).map fun x => cnt m ps k (R ++ [x])) (c := fac k) fun y hy => by
      obtain ⟨x, hx, rfl⟩ := List.mem_map.mp hy
      exact cnt_fac k (b.snoc hx) (by rw [List.length_append, List.length_singleton]; omega)
    rw [List.length_map] at h
    have := free_len b
    exact Nat.le_trans h (Nat.mul_le_mul_right _ (by omega))
theorem fac_mono {a b : Nat} (h : a ≤ b) : fac a ≤ fac b := by
  induction h with
  | refl => exact Nat.le_refl _
  | step _ ih => exact Nat.le_trans ih (by show _ ≤ _ * _; exact Nat.le_mul_of_pos_left _ (Nat.succ_pos _))
theorem cnt_5 {m : Nat} {ps : List (Int × Int)} (h : m ≤ 5) : cnt m ps m [] ≤ 120 := Nat.le_trans (cnt_fac m (R := []) .nil (by simp)) (fac_mono h)
theorem x_lidxR (rs : List (List Int)) (r : List Int) (h : r ∈ rs) : pLIndex [.list (rsD rs), .tuple (nsD r)] = some (.val (.int (rs.idxOf r : Nat))) := by
  have f : ∀ (l : List (List Int)) (k : Nat), r ∈ l → firstAt (.tuple (nsD r)) (rsD l) k = some (k + l.idxOf r) := by
    intro l
    induction l with
    | nil => intro k h; cases h
    | cons a l ih =>
      intro k h
      show (if PyData.eqv (.tuple (nsD a)) (.tuple (nsD r)) = true then some k else firstAt (.tuple (nsD r)) (rsD l) (k + 1)) = _
      have : PyData.eqv (.tuple (nsD a)) (.tuple (nsD r)) = (a == r) := by simp only [PyData.eqv, eqv_ns]
      rw [this]
      by_cases c : a = r
      · subst c
        simp
      · rw [if_neg (by simpa using c), ih (k + 1) ((List.mem_cons.mp h).resolve_left fun z => c z.symm), List.idxOf_cons]
        have : (a == r) = false := by simpa using c
        rw [this]
        simp
        omega
  unfold pLIndex
  simp only [sh_rsL, sh_nsT, Bool.and_self, if_true, f rs 0 h, Option.map_some, Nat.zero_add]
end Dn

set_option maxHeartbeats 0
/-! the text of k14, printed by gen.py -/
namespace Dn.M14
open PySem PySem.Spec L2
open PyProof.Rows hiding St
def topS (i : Nat) : Stmt := PySem.Challenge.pw_rowsorder_k14_whole_rows_tell.main.body.getD i (.Pass ⟨0, 0, 0, 0⟩)
def fns : List (Str × Nat) := [("is_whole", 1), ("is_many", 1), ("is_pair", 2), ("follows", 1), ("is_order", 1), ("need_order", 1), ("need_many", 1), ("are_apart", 3), ("turned", 1), ("is_tuple_of_all", 2), ("stands_ahead", 3), ("is_row_of", 2), ("is_row", 2), ("next_things", 2), ("ways_from", 3), ("rows_many", 1), ("nth_row", 2), ("rank_of", 2), ("told_pairs", 2), ("told_by", 2), ("are_rows", 2), ("tell", 2), ("need_rows", 2), ("first_left", 2), ("_law_cell", 2), ("_law_mix", 2), ("_law_box", 2), ("_law_take", 2), ("_law_mixed_up", 2), ("_law_closed", 1), ("_law_order", 2), ("law", 1)]
def gis : List (Str × Int) := [("MOST_THINGS", 8)]
def gss : List (Str × Str) := []
def bls : List Str := ["abs", "all", "bool", "divmod", "enumerate", "int", "isinstance", "len", "list", "max", "min", "range", "set", "sorted", "sum", "tuple"]
def exs : List (Str × Str) := []
def c_is_whole : Ctx := ⟨["thing"], defScope (topS 9), 1, fns, gis, gss, bls, exs⟩
def b_is_whole : DenS := dRet (dAnd (dP (pIs "int") (osCons (oVar 0) (osNil))) (dNot (dP (pIs "bool") (osCons (oVar 0) (osNil)))))
def c_is_many : Ctx := ⟨["thing"], defScope (topS 10), 1, fns, gis, gss, bls, exs⟩
def b_is_many : DenS := dRet (dAnd (dCall "is_whole" 1 (asVar 0 (asNil))) (dCh (fun i j => decide (i ≤ j)) (fun i j => decide (i ≤ j)) (oOf (dLit (.int 1))) (oVar 0) (oOf (dLit (.int 8)))))
def c_is_pair : Ctx := ⟨["many", "thing", "one"], defScope (topS 11), 2, fns, gis, gss, bls, exs⟩
def b_is_pair : DenS := dSeq (dIfS (dOr (dNot (dP (pIs "tuple") (osCons (oVar 1) (osNil)))) (dP pNe (osCons (oOf (dP pLen (osCons (oVar 1) (osNil)))) (osCons (oOf (dLit (.int 2))) (osNil)))))
  (dRet (dLit (.bool false)))
  (dSkip))
  (dRet (dP pAll (osCons (oOf (dLc (.nm 2) (iSeq (oOf (dVar 1))) (dYes) (dAnd (dCall "is_whole" 1 (asVar 2 (asNil))) (dCh (fun i j => decide (i ≤ j)) (fun i j => decide (i < j)) (oOf (dLit (.int 0))) (oVar 2) (oVar 0))) [2])) (osNil))))
def c_follows : Ctx := ⟨["pairs", "a", "b", "c", "d"], defScope (topS 12), 1, fns, gis, gss, bls, exs⟩
def b_follows : DenS := dSeq (dFor (.tp [1, 2]) (iSeq (oOf (dVar 0)))
  (dSeq (dIfS (dP pEq (osCons (oVar 1) (osCons (oVar 2) (osNil))))
  (dRet (dLit (.bool false)))
  (dSkip))
  (dFor (.tp [3, 4]) (iSeq (oOf (dVar 0)))
  (dIfS (dAnd (dP pEq (osCons (oVar 2) (osCons (oVar 3) (osNil)))) (dP pNin (osCons (oOf (dTup (fsCons (dVar 1) (fsCons (dVar 4) (fsNil))))) (osCons (oVar 0) (osNil)))))
  (dRet (dLit (.bool false)))
  (dSkip)))))
  (dRet (dLit (.bool true)))
def c_is_order : Ctx := ⟨["thing", "many", "pairs", "pair"], defScope (topS 13), 1, fns, gis, gss, bls, exs⟩
def b_is_order : DenS := dSeq (dIfS (dOr (dNot (dP (pIs "tuple") (osCons (oVar 0) (osNil)))) (dOr (dP pNe (osCons (oOf (dP pLen (osCons (oVar 0) (osNil)))) (osCons (oOf (dLit (.int 2))) (osNil)))) (dOr (dNot (dCall "is_many" 1 (asExp (dP pIx (osCons (oVar 0) (osCons (oOf (dLit (.int 0))) (osNil)))) (asNil)))) (dNot (dP (pIs "tuple") (osCons (oOf (dP pIx (osCons (oVar 0) (osCons (oOf (dLit (.int 1))) (osNil))))) (osNil)))))))
  (dRet (dLit (.bool false)))
  (dSkip))
  (dSeq (dUnp [1, 2] (dVar 0))
  (dSeq (dIfS (dNot (dP pAll (osCons (oOf (dLc (.nm 3) (iSeq (oOf (dVar 2))) (dYes) (dCall "is_pair" 2 (asVar 1 (asVar 3 (asNil)))) [3])) (osNil))))
  (dRet (dLit (.bool false)))
  (dSkip))
  (dRet (dAnd (dP pEq (osCons (oOf (dP pListOf (osCons (oVar 2) (osNil)))) (osCons (oOf (dSS (oVar 2))) (osNil)))) (dCall "follows" 1 (asVar 2 (asNil)))))))
def c_need_order : Ctx := ⟨["order"], defScope (topS 14), 1, fns, gis, gss, bls, exs⟩
def b_need_order : DenS := dIfS (dNot (dCall "is_order" 1 (asVar 0 (asNil))))
  (dStop)
  (dSkip)
def c_need_many : Ctx := ⟨["many"], defScope (topS 15), 1, fns, gis, gss, bls, exs⟩
def b_need_many : DenS := dIfS (dNot (dCall "is_many" 1 (asVar 0 (asNil))))
  (dStop)
  (dSkip)
def c_are_apart : Ctx := ⟨["order", "a", "b"], defScope (topS 16), 3, fns, gis, gss, bls, exs⟩
def b_are_apart : DenS := dRet (dAnd (dP pNe (osCons (oVar 1) (osCons (oVar 2) (osNil)))) (dAnd (dP pNin (osCons (oOf (dTup (fsCons (dVar 1) (fsCons (dVar 2) (fsNil))))) (osCons (oOf (dP pIx (osCons (oVar 0) (osCons (oOf (dLit (.int 1))) (osNil))))) (osNil)))) (dP pNin (osCons (oOf (dTup (fsCons (dVar 2) (fsCons (dVar 1) (fsNil))))) (osCons (oOf (dP pIx (osCons (oVar 0) (osCons (oOf (dLit (.int 1))) (osNil))))) (osNil))))))
def c_turned : Ctx := ⟨["order", "a", "b"], defScope (topS 17), 1, fns, gis, gss, bls, exs⟩
def b_turned : DenS := dSeq (dDo (dCall "need_order" 1 (asVar 0 (asNil))))
  (dRet (dTup (fsCons (dP pIx (osCons (oVar 0) (osCons (oOf (dLit (.int 0))) (osNil)))) (fsCons (dP pTupOf (osCons (oOf (dP pSortS (osCons (oOf (dLc (.tp [1, 2]) (iSeq (oOf (dP pIx (osCons (oVar 0) (osCons (oOf (dLit (.int 1))) (osNil)))))) (dYes) (dTup (fsCons (dVar 2) (fsCons (dVar 1) (fsNil)))) [1, 2])) (osNil)))) (osNil))) (fsNil)))))
def c_is_tuple_of_all : Ctx := ⟨["many", "thing", "one"], defScope (topS 19), 2, fns, gis, gss, bls, exs⟩
def b_is_tuple_of_all : DenS := dSeq (dIfS (dOr (dNot (dP (pIs "tuple") (osCons (oVar 1) (osNil)))) (dOr (dP pNe (osCons (oOf (dP pLen (osCons (oVar 1) (osNil)))) (osCons (oVar 0) (osNil)))) (dNot (dP pAll (osCons (oOf (dLc (.nm 2) (iSeq (oOf (dVar 1))) (dYes) (dCall "is_whole" 1 (asVar 2 (asNil))) [2])) (osNil))))))
  (dRet (dLit (.bool false)))
  (dSkip))
  (dRet (dP pEq (osCons (oOf (dP pSortS (osCons (oVar 1) (osNil)))) (osCons (oOf (dListR (iR1 (oVar 0)))) (osNil)))))
def c_stands_ahead : Ctx := ⟨["row", "a", "b"], defScope (topS 20), 3, fns, gis, gss, bls, exs⟩
def b_stands_ahead : DenS := dRet (dP pLt (osCons (oOf (dM "tuple" pTIndex (oVar 0) (osCons (oVar 1) (osNil)))) (osCons (oOf (dM "tuple" pTIndex (oVar 0) (osCons (oVar 2) (osNil)))) (osNil))))
def c_is_row_of : Ctx := ⟨["thing", "order", "a", "b"], defScope (topS 21), 2, fns, gis, gss, bls, exs⟩
def b_is_row_of : DenS := dRet (dAnd (dCall "is_tuple_of_all" 2 (asExp (dP pIx (osCons (oVar 1) (osCons (oOf (dLit (.int 0))) (osNil)))) (asVar 0 (asNil)))) (dP pAll (osCons (oOf (dLc (.tp [2, 3]) (iSeq (oOf (dP pIx (osCons (oVar 1) (osCons (oOf (dLit (.int 1))) (osNil)))))) (dYes) (dCall "stands_ahead" 3 (asVar 0 (asVar 2 (asVar 3 (asNil))))) [2, 3])) (osNil))))
def c_is_row : Ctx := ⟨["thing", "order"], defScope (topS 22), 2, fns, gis, gss, bls, exs⟩
def b_is_row : DenS := dSeq (dDo (dCall "need_order" 1 (asVar 1 (asNil))))
  (dRet (dCall "is_row_of" 2 (asVar 0 (asVar 1 (asNil)))))
def c_next_things : Ctx := ⟨["order", "gone", "free", "thing", "a", "b"], defScope (topS 23), 2, fns, gis, gss, bls, exs⟩
def b_next_things : DenS := dSeq (dSet 2 (dLst (fsNil)))
  (dSeq (dFor (.nm 3) (iR1 (oOf (dP pIx (osCons (oVar 0) (osCons (oOf (dLit (.int 0))) (osNil))))))
  (dIfS (dAnd (dP pNin (osCons (oVar 3) (osCons (oVar 1) (osNil)))) (dP pAll (osCons (oOf (dLc (.tp [4, 5]) (iSeq (oOf (dP pIx (osCons (oVar 0) (osCons (oOf (dLit (.int 1))) (osNil)))))) (dP pEq (osCons (oVar 5) (osCons (oVar 3) (osNil)))) (dP pIn (osCons (oVar 4) (osCons (oVar 1) (osNil)))) [4, 5])) (osNil))))
  (dDo (dMut 2 mAppend (fsCons (dVar 3) (fsNil))))
  (dSkip)))
  (dRetV 2))
def c_ways_from : Ctx := ⟨["order", "gone", "known", "key", "thing"], defScope (topS 24), 3, fns, gis, gss, bls, exs⟩
def b_ways_from : DenS := dSeq (dSet 3 (dP pTupOf (osCons (oOf (dP pSortS (osCons (oVar 1) (osNil)))) (osNil))))
  (dSeq (dIfS (dP pEq (osCons (oOf (dP pLen (osCons (oVar 3) (osNil)))) (osCons (oOf (dP pIx (osCons (oVar 0) (osCons (oOf (dLit (.int 0))) (osNil))))) (osNil))))
  (dRet (dLit (.int 1)))
  (dSkip))
  (dSeq (dIfS (dTIn true 2 (oVar 3))
  (dTPut 2 (oVar 3) (dP pSum (osCons (oOf (dLc (.nm 4) (iSeq (oOf (dCall "next_things" 2 (asVar 0 (asVar 1 (asNil)))))) (dYes) (dCall "ways_from" 3 (asVar 0 (asExp (dP pAdd (osCons (oVar 1) (osCons (oOf (dLst (fsCons (dVar 4) (fsNil)))) (osNil)))) (asVar 2 (asNil))))) [4])) (osNil))))
  (dSkip))
  (dRet (dTGet 2 (oVar 3)))))
def c_rows_many : Ctx := ⟨["order"], defScope (topS 25), 1, fns, gis, gss, bls, exs⟩
def b_rows_many : DenS := dSeq (dDo (dCall "need_order" 1 (asVar 0 (asNil))))
  (dRet (dCall "ways_from" 3 (asVar 0 (asExp (dLst (fsNil)) (asExp (dNewD true) (asNil))))))
def c_nth_row : Ctx := ⟨["order", "number", "known", "left", "row", "thing", "many"], defScope (topS 26), 2, fns, gis, gss, bls, exs⟩
def b_nth_row : DenS := dSeq (dDo (dCall "need_order" 1 (asVar 0 (asNil))))
  (dSeq (dSet 2 (dNewD true))
  (dSeq (dIfS (dOr (dNot (dCall "is_whole" 1 (asVar 1 (asNil)))) (dNot (dCh (fun i j => decide (i ≤ j)) (fun i j => decide (i < j)) (oOf (dLit (.int 0))) (oVar 1) (oOf (dCall "ways_from" 3 (asVar 0 (asExp (dLst (fsNil)) (asVar 2 (asNil)))))))))
  (dStop)
  (dSkip))
  (dSeq (dSet 3 (dVar 1))
  (dSeq (dSet 4 (dLst (fsNil)))
  (dSeq (dWhile (dP pLt (osCons (oOf (dP pLen (osCons (oVar 4) (osNil)))) (osCons (oOf (dP pIx (osCons (oVar 0) (osCons (oOf (dLit (.int 0))) (osNil))))) (osNil))))
  (dFor (.nm 5) (iSeq (oOf (dCall "next_things" 2 (asVar 0 (asVar 4 (asNil))))))
  (dSeq (dSet 6 (dCall "ways_from" 3 (asVar 0 (asExp (dP pAdd (osCons (oVar 4) (osCons (oOf (dLst (fsCons (dVar 5) (fsNil)))) (osNil)))) (asVar 2 (asNil))))))
  (dSeq (dIfS (dP pLt (osCons (oVar 3) (osCons (oVar 6) (osNil))))
  (dSeq (dSet 4 (dP pAdd (osCons (oVar 4) (osCons (oOf (dLst (fsCons (dVar 5) (fsNil)))) (osNil)))))
  (dBrk))
  (dSkip))
  (dSet 3 (dP pSub (osCons (oVar 3) (osCons (oVar 6) (osNil)))))))))
  (dRet (dP pTupOf (osCons (oVar 4) (osNil)))))))))
def c_rank_of : Ctx := ⟨["order", "row", "known", "found", "place", "here", "gone", "lesser", "thing"], defScope (topS 27), 2, fns, gis, gss, bls, exs⟩
def b_rank_of : DenS := dSeq (dDo (dCall "need_order" 1 (asVar 0 (asNil))))
  (dSeq (dIfS (dNot (dCall "is_row_of" 2 (asVar 1 (asVar 0 (asNil)))))
  (dStop)
  (dSkip))
  (dSeq (dSet 2 (dNewD true))
  (dSeq (dSet 3 (dLit (.int 0)))
  (dSeq (dFor (.tp [4, 5]) (iEnumA (dVar 1))
  (dSeq (dSet 6 (dP pListOf (osCons (oOf (dSl pSlc (oVar 1) (none) (some (oVar 4)))) (osNil))))
  (dSeq (dSet 7 (dLc (.nm 8) (iSeq (oOf (dCall "next_things" 2 (asVar 0 (asVar 6 (asNil)))))) (dP pLt (osCons (oVar 8) (osCons (oVar 5) (osNil)))) (dVar 8) [8]))
  (dSet 3 (dP pAdd (osCons (oOf (dVar 3)) (osCons (oOf (dP pSum (osCons (oOf (dLc (.nm 8) (iSeq (oOf (dVar 7))) (dYes) (dCall "ways_from" 3 (asVar 0 (asExp (dP pAdd (osCons (oVar 6) (osCons (oOf (dLst (fsCons (dVar 8) (fsNil)))) (osNil)))) (asVar 2 (asNil))))) [8])) (osNil)))) (osNil))))))))
  (dRetV 3)))))
def c_told_pairs : Ctx := ⟨["many", "rows", "found", "a", "b", "row"], defScope (topS 28), 2, fns, gis, gss, bls, exs⟩
def b_told_pairs : DenS := dSeq (dSet 2 (dLst (fsNil)))
  (dSeq (dFor (.nm 3) (iR1 (oVar 0))
  (dFor (.nm 4) (iR1 (oVar 0))
  (dIfS (dAnd (dP pNe (osCons (oVar 3) (osCons (oVar 4) (osNil)))) (dP pAll (osCons (oOf (dLc (.nm 5) (iSeq (oOf (dVar 1))) (dYes) (dCall "stands_ahead" 3 (asVar 5 (asVar 3 (asVar 4 (asNil))))) [5])) (osNil))))
  (dDo (dMut 2 mAppend (fsCons (dTup (fsCons (dVar 3) (fsCons (dVar 4) (fsNil)))) (fsNil))))
  (dSkip))))
  (dRet (dP pTupOf (osCons (oVar 2) (osNil)))))
def c_told_by : Ctx := ⟨["many", "rows", "row"], defScope (topS 29), 2, fns, gis, gss, bls, exs⟩
def b_told_by : DenS := dSeq (dDo (dCall "need_many" 1 (asVar 0 (asNil))))
  (dSeq (dIfS (dOr (dNot (dP (pIs "list") (osCons (oVar 1) (osNil)))) (dOr (dP pEq (osCons (oVar 1) (osCons (oOf (dLst (fsNil))) (osNil)))) (dNot (dP pAll (osCons (oOf (dLc (.nm 2) (iSeq (oOf (dVar 1))) (dYes) (dCall "is_tuple_of_all" 2 (asVar 0 (asVar 2 (asNil)))) [2])) (osNil))))))
  (dStop)
  (dSkip))
  (dRet (dTup (fsCons (dVar 0) (fsCons (dCall "told_pairs" 2 (asVar 0 (asVar 1 (asNil)))) (fsNil))))))
def c_are_rows : Ctx := ⟨["thing", "order", "row"], defScope (topS 30), 2, fns, gis, gss, bls, exs⟩
def b_are_rows : DenS := dRet (dAnd (dP (pIs "list") (osCons (oVar 0) (osNil))) (dAnd (dP pNe (osCons (oVar 0) (osCons (oOf (dLst (fsNil))) (osNil)))) (dP pAll (osCons (oOf (dLc (.nm 2) (iSeq (oOf (dVar 0))) (dYes) (dCall "is_row_of" 2 (asVar 2 (asVar 1 (asNil)))) [2])) (osNil)))))
def c_tell : Ctx := ⟨["thing", "order"], defScope (topS 31), 2, fns, gis, gss, bls, exs⟩
def b_tell : DenS := dSeq (dDo (dCall "need_order" 1 (asVar 1 (asNil))))
  (dRet (dAnd (dCall "are_rows" 2 (asVar 0 (asVar 1 (asNil)))) (dP pEq (osCons (oOf (dCall "told_pairs" 2 (asExp (dP pIx (osCons (oVar 1) (osCons (oOf (dLit (.int 0))) (osNil)))) (asVar 0 (asNil))))) (osCons (oOf (dP pIx (osCons (oVar 1) (osCons (oOf (dLit (.int 1))) (osNil))))) (osNil))))))
def c_need_rows : Ctx := ⟨["order", "rows"], defScope (topS 32), 2, fns, gis, gss, bls, exs⟩
def b_need_rows : DenS := dSeq (dDo (dCall "need_order" 1 (asVar 0 (asNil))))
  (dIfS (dNot (dCall "are_rows" 2 (asVar 1 (asVar 0 (asNil)))))
  (dStop)
  (dSkip))
def c_first_left : Ctx := ⟨["order", "rows", "a", "b", "row"], defScope (topS 33), 2, fns, gis, gss, bls, exs⟩
def b_first_left : DenS := dSeq (dDo (dCall "need_rows" 2 (asVar 0 (asVar 1 (asNil)))))
  (dSeq (dFor (.nm 2) (iR1 (oOf (dP pIx (osCons (oVar 0) (osCons (oOf (dLit (.int 0))) (osNil))))))
  (dFor (.nm 3) (iR1 (oOf (dP pIx (osCons (oVar 0) (osCons (oOf (dLit (.int 0))) (osNil))))))
  (dIfS (dAnd (dCall "are_apart" 3 (asVar 0 (asVar 2 (asVar 3 (asNil))))) (dP pAll (osCons (oOf (dLc (.nm 4) (iSeq (oOf (dVar 1))) (dYes) (dCall "stands_ahead" 3 (asVar 4 (asVar 2 (asVar 3 (asNil))))) [4])) (osNil))))
  (dRet (dTup (fsCons (dVar 2) (fsCons (dVar 3) (fsNil)))))
  (dSkip))))
  (dRet (dLit .none)))
def c__law_cell : Ctx := ⟨["script", "k"], defScope (topS 35), 2, fns, gis, gss, bls, exs⟩
def b__law_cell : DenS := dSeq (dIfS (dP pLt (osCons (oVar 1) (osCons (oOf (dScrLen 0)) (osNil))))
  (dRet (dScrAt 0 (oVar 1)))
  (dSkip))
  (dRet (dLit (.int 0)))
def c__law_mix : Ctx := ⟨["cell", "k", "some", "stir"], defScope (topS 36), 2, fns, gis, gss, bls, exs⟩
def b__law_mix : DenS := dSeq (dSet 2 (dConst (.list [(.int 48271), (.int 69621), (.int 16807), (.int 39373), (.int 30269), (.int 40014), (.int 40692), (.int 50021), (.int 61687), (.int 71993), (.int 83869), (.int 95561), (.int 30307)])))
  (dSeq (dSet 3 (dP pAdd (osCons (oOf (dP pAdd (osCons (oOf (dP pMul (osCons (oOf (dP pAdd (osCons (oOf (dP pMod (osCons (oVar 0) (osCons (oOf (dLit (.int 2147483647))) (osNil))))) (osCons (oOf (dLit (.int 12345))) (osNil))))) (osCons (oOf (dP pIx (osCons (oVar 2) (osCons (oOf (dP pMod (osCons (oVar 1) (osCons (oOf (dLit (.int 13))) (osNil))))) (osNil))))) (osNil))))) (osCons (oOf (dP pMul (osCons (oOf (dLit (.int 977))) (osCons (oVar 1) (osNil))))) (osNil))))) (osCons (oOf (dP pMul (osCons (oOf (dLit (.int 7919))) (osCons (oOf (dP pDiv (osCons (oVar 1) (osCons (oOf (dLit (.int 13))) (osNil))))) (osNil))))) (osNil)))))
  (dSeq (dSet 3 (dP pMod (osCons (oVar 3) (osCons (oOf (dLit (.int 1000000007))) (osNil)))))
  (dRet (dP pDiv (osCons (oOf (dP pMod (osCons (oOf (dP pAdd (osCons (oOf (dP pMul (osCons (oVar 3) (osCons (oVar 3) (osNil))))) (osCons (oOf (dP pMul (osCons (oOf (dLit (.int 48271))) (osCons (oVar 1) (osNil))))) (osNil))))) (osCons (oOf (dLit (.int 1000000007))) (osNil))))) (osCons (oOf (dLit (.int 7))) (osNil)))))))
def c__law_box : Ctx := ⟨["script", "k", "cell", "number", "j"], defScope (topS 37), 2, fns, gis, gss, bls, exs⟩
def b__law_box : DenS := dSeq (dSet 2 (dCall "_law_cell" 2 (asVar 0 (asVar 1 (asNil)))))
  (dSeq (dIfS (dP pEq (osCons (oOf (dP pMod (osCons (oVar 2) (osCons (oOf (dLit (.int 2))) (osNil))))) (osCons (oOf (dLit (.int 0))) (osNil))))
  (dRet (dLst (fsCons (dP pDiv (osCons (oOf (dP pAbs (osCons (oVar 2) (osNil)))) (osCons (oOf (dLit (.int 2))) (osNil)))) (fsNil))))
  (dSkip))
  (dSeq (dSet 3 (dLit (.int 0)))
  (dSeq (dFor (.nm 4) (iR1 (oOf (dLit (.int 40))))
  (dSet 3 (dP pAdd (osCons (oOf (dP pMul (osCons (oVar 3) (osCons (oOf (dLit (.int 142857143))) (osNil))))) (osCons (oOf (dCall "_law_mix" 2 (asVar 2 (asVar 4 (asNil))))) (osNil))))))
  (dRet (dLst (fsCons (dVar 3) (fsNil)))))))
def c__law_take : Ctx := ⟨["box", "many", "left", "digit"], defScope (topS 38), 2, fns, gis, gss, bls, exs⟩
def b__law_take : DenS := dSeq (dUnp [2, 3] (dP pDvm (osCons (oOf (dP pIx (osCons (oVar 0) (osCons (oOf (dLit (.int 0))) (osNil))))) (osCons (oVar 1) (osNil)))))
  (dSeq (dSetIx 0 (oOf (dLit (.int 0))) (dVar 2))
  (dRetV 3))
def c__law_mixed_up : Ctx := ⟨["box", "some", "left", "found"], defScope (topS 39), 2, fns, gis, gss, bls, exs⟩
def b__law_mixed_up : DenS := dSeq (dSet 2 (dP pListOf (osCons (oVar 1) (osNil))))
  (dSeq (dSet 3 (dLst (fsNil)))
  (dSeq (dWhile (dP pNe (osCons (oVar 2) (osCons (oOf (dLst (fsNil))) (osNil))))
  (dDo (dMut 3 mAppend (fsCons (dMut 2 mPopAt (fsCons (dCall "_law_take" 2 (asVar 0 (asExp (dP pLen (osCons (oVar 2) (osNil))) (asNil)))) (fsNil))) (fsNil)))))
  (dRetV 3)))
def c__law_closed : Ctx := ⟨["pairs", "found", "size", "more", "a", "b", "c", "d"], defScope (topS 40), 1, fns, gis, gss, bls, exs⟩
def b__law_closed : DenS := dSeq (dSet 1 (dSS (oVar 0)))
  (dSeq (dSet 2 (dP pNeg (osCons (oOf (dLit (.int 1))) (osNil))))
  (dSeq (dWhile (dP pNe (osCons (oVar 2) (osCons (oOf (dP pLen (osCons (oVar 1) (osNil)))) (osNil))))
  (dSeq (dSet 2 (dP pLen (osCons (oVar 1) (osNil))))
  (dSeq (dSet 3 (dLst (fsNil)))
  (dSeq (dFor (.tp [4, 5]) (iSeq (oOf (dVar 1)))
  (dSet 3 (dP pAdd (osCons (oVar 3) (osCons (oOf (dLc (.tp [6, 7]) (iSeq (oOf (dVar 1))) (dP pEq (osCons (oVar 6) (osCons (oVar 5) (osNil)))) (dTup (fsCons (dVar 4) (fsCons (dVar 7) (fsNil)))) [6, 7])) (osNil))))))
  (dSet 1 (dSS (oOf (dP pAdd (osCons (oVar 1) (osCons (oVar 3) (osNil)))))))))))
  (dRet (dP pTupOf (osCons (oVar 1) (osNil))))))
def c__law_order : Ctx := ⟨["box", "most", "many", "names", "thin", "pairs", "i", "j"], defScope (topS 41), 2, fns, gis, gss, bls, exs⟩
def b__law_order : DenS := dSeq (dSet 2 (dP pAdd (osCons (oOf (dLit (.int 1))) (osCons (oOf (dCall "_law_take" 2 (asVar 0 (asVar 1 (asNil))))) (osNil)))))
  (dSeq (dSet 3 (dCall "_law_mixed_up" 2 (asVar 0 (asExp (dListR (iR1 (oVar 2))) (asNil)))))
  (dSeq (dSet 4 (dP pIx (osCons (oOf (dLst (fsCons (dLit (.int 2)) (fsCons (dLit (.int 3)) (fsCons (dLit (.int 4)) (fsCons (dLit (.int 7)) (fsNil))))))) (osCons (oOf (dCall "_law_take" 2 (asVar 0 (asExp (dLit (.int 4)) (asNil))))) (osNil)))))
  (dSeq (dSet 5 (dLst (fsNil)))
  (dSeq (dFor (.nm 6) (iR1 (oVar 2))
  (dFor (.nm 7) (iR2 (oOf (dP pAdd (osCons (oVar 6) (osCons (oOf (dLit (.int 1))) (osNil))))) (oVar 2))
  (dIfS (dP pEq (osCons (oOf (dCall "_law_take" 2 (asVar 0 (asVar 4 (asNil))))) (osCons (oOf (dLit (.int 0))) (osNil))))
  (dDo (dMut 5 mAppend (fsCons (dTup (fsCons (dP pIx (osCons (oVar 3) (osCons (oVar 6) (osNil)))) (fsCons (dP pIx (osCons (oVar 3) (osCons (oVar 7) (osNil)))) (fsNil)))) (fsNil))))
  (dSkip))))
  (dRet (dTup (fsCons (dVar 2) (fsCons (dCall "_law_closed" 1 (asVar 5 (asNil))) (fsNil)))))))))
def c_law : Ctx := ⟨["script", "k", "box", "order", "all_rows", "turn", "many", "rows", "left", "other", "about", "a", "b", "number", "some", "row", "pair"], defScope (topS 42), 1, fns, gis, gss, bls, exs⟩
def b_law : DenS := dSeq (dFor (.nm 1) (iR1 (oOf (dP pMax (osCons (oOf (dLit (.int 1))) (osCons (oOf (dP pMin (osCons (oOf (dScrLen 0)) (osCons (oOf (dLit (.int 2))) (osNil))))) (osNil))))))
  (dSeq (dSet 2 (dCall "_law_box" 2 (asVar 0 (asVar 1 (asNil)))))
  (dSeq (dSet 3 (dCall "_law_order" 2 (asVar 2 (asExp (dLit (.int 5)) (asNil)))))
  (dSeq (dSet 4 (dLc (.nm 13) (iR1 (oOf (dCall "rows_many" 1 (asVar 3 (asNil))))) (dYes) (dCall "nth_row" 2 (asVar 3 (asVar 13 (asNil)))) [13]))
  (dSeq (dIfS (dOr (dP pIsNB (osCons (oOf (dCall "tell" 2 (asVar 4 (asVar 3 (asNil))))) (osCons (oOf (dLit (.bool true))) (osNil)))) (dP pNe (osCons (oVar 4) (osCons (oOf (dP pSortS (osCons (oVar 4) (osNil)))) (osNil)))))
  (dRet (dLit (.bool false)))
  (dSkip))
  (dFor (.nm 5) (iR1 (oOf (dLit (.int 3))))
  (dSeq (dSet 6 (dP pAdd (osCons (oOf (dLit (.int 1))) (osCons (oOf (dCall "_law_take" 2 (asVar 2 (asExp (dLit (.int 3)) (asNil))))) (osNil)))))
  (dSeq (dSet 7 (dLc (.nm 14) (iR1 (oVar 6)) (dYes) (dP pIx (osCons (oOf (dVar 4)) (osCons (oOf (dCall "_law_take" 2 (asVar 2 (asExp (dP pLen (osCons (oVar 4) (osNil))) (asNil))))) (osNil)))) [14]))
  (dSeq (dSet 8 (dCall "first_left" 2 (asVar 3 (asVar 7 (asNil)))))
  (dSeq (dSet 9 (dCall "told_by" 2 (asExp (dP pIx (osCons (oVar 3) (osCons (oOf (dLit (.int 0))) (osNil)))) (asVar 7 (asNil)))))
  (dSeq (dIfS (dOr (dP pNe (osCons (oOf (dP pIsN (osCons (oVar 8) (osCons (oOf (dLit .none)) (osNil))))) (osCons (oOf (dP pEq (osCons (oVar 9) (osCons (oVar 3) (osNil))))) (osNil)))) (dP pNe (osCons (oOf (dCall "tell" 2 (asVar 7 (asVar 3 (asNil))))) (osCons (oOf (dP pIsN (osCons (oVar 8) (osCons (oOf (dLit .none)) (osNil))))) (osNil)))))
  (dRet (dLit (.bool false)))
  (dSkip))
  (dSeq (dIfS (dP pNe (osCons (oOf (dLc (.nm 16) (iSeq (oOf (dP pIx (osCons (oVar 3) (osCons (oOf (dLit (.int 1))) (osNil)))))) (dP pNin (osCons (oVar 16) (osCons (oOf (dP pIx (osCons (oVar 9) (osCons (oOf (dLit (.int 1))) (osNil))))) (osNil)))) (dVar 16) [16])) (osCons (oOf (dLst (fsNil))) (osNil))))
  (dRet (dLit (.bool false)))
  (dSkip))
  (dSeq (dIfS (dAnd (dP pIsN (osCons (oVar 8) (osCons (oOf (dLit .none)) (osNil)))) (dNot (dCall "tell" 2 (asExp (dP pAdd (osCons (oVar 7) (osCons (oOf (dSl pSlc (oVar 4) (none) (some (oOf (dLit (.int 1)))))) (osNil)))) (asVar 3 (asNil))))))
  (dRet (dLit (.bool false)))
  (dSkip))
  (dSeq (dIfS (dP pIsNN (osCons (oVar 8) (osCons (oOf (dLit .none)) (osNil))))
  (dSeq (dUnp [11, 12] (dVar 8))
  (dIfS (dP pEq (osCons (oOf (dLc (.nm 15) (iSeq (oOf (dVar 4))) (dP pLt (osCons (oOf (dM "tuple" pTIndex (oVar 15) (osCons (oVar 12) (osNil)))) (osCons (oOf (dM "tuple" pTIndex (oVar 15) (osCons (oVar 11) (osNil)))) (osNil)))) (dVar 15) [15])) (osCons (oOf (dLst (fsNil))) (osNil))))
  (dRet (dLit (.bool false)))
  (dSkip)))
  (dSkip))
  (dSeq (dSet 10 (dLc (.nm 15) (iSeq (oOf (dVar 7))) (dYes) (dRevS (oVar 15)) [15]))
  (dSeq (dIfS (dOr (dP pNe (osCons (oOf (dCall "tell" 2 (asVar 10 (asExp (dCall "turned" 1 (asVar 3 (asNil))) (asNil))))) (osCons (oOf (dP pIsN (osCons (oVar 8) (osCons (oOf (dLit .none)) (osNil))))) (osNil)))) (dNot (dP pAll (osCons (oOf (dLc (.nm 15) (iSeq (oOf (dVar 10))) (dYes) (dCall "is_row" 2 (asVar 15 (asExp (dCall "turned" 1 (asVar 3 (asNil))) (asNil)))) [15])) (osNil)))))
  (dRet (dLit (.bool false)))
  (dSkip))
  (dIfS (dP pNe (osCons (oOf (dCall "rank_of" 2 (asVar 3 (asExp (dP pIx (osCons (oVar 7) (osCons (oOf (dLit (.int 0))) (osNil)))) (asNil))))) (osCons (oOf (dM "list" pLIndex (oVar 4) (osCons (oOf (dP pIx (osCons (oVar 7) (osCons (oOf (dLit (.int 0))) (osNil))))) (osNil)))) (osNil))))
  (dRet (dLit (.bool false)))
  (dSkip))))))))))))))))))
  (dRet (dLit (.bool true)))
theorem s_is_whole : SndSs c_is_whole (defBody (topS 9)) b_is_whole := @snd_one' _ _ _ (@snd_ret _ _ _ _ _ (@snd_and _ _ _ _ _ _ _ _ _ (@snd_isi _ _ _ _ _ _ _ _ _ (by decide +kernel) boot_int' (@snd_osCons _ _ _ _ _ _ _ _ (@snd_oVar _ _ _ _ rfl (by decide +kernel) (by decide +kernel)) (@snd_osNil _) rfl) rfl (by decide +kernel) (by decide +kernel) (by decide +kernel) (by decide +kernel) (by decide +kernel)) (@snd_one _ _ _ _ _ _ (@snd_not _ _ _ _ _ (@snd_isi _ _ _ _ _ _ _ _ _ (by decide +kernel) boot_bool' (@snd_osCons _ _ _ _ _ _ _ _ (@snd_oVar _ _ _ _ rfl (by decide +kernel) (by decide +kernel)) (@snd_osNil _) rfl) rfl (by decide +kernel) (by decide +kernel) (by decide +kernel) (by decide +kernel) (by decide +kernel))))))
theorem s_is_many : SndSs c_is_many (defBody (topS 10)) b_is_many := @snd_one' _ _ _ (@snd_ret _ _ _ _ _ (@snd_and _ _ _ _ _ _ _ _ _ (@snd_call _ _ _ _ _ _ _ _ (by decide +kernel) (@snd_asVar _ _ _ _ _ _ rfl (by decide +kernel) (by decide +kernel) (@snd_asNil _)) rfl (by decide +kernel) (by decide +kernel)) (@snd_one _ _ _ _ _ _ (@snd_chain _ _ _ _ _ _ _ _ _ _ _ _ _ _ _ _ _ _ ic_le ic_le (@snd_oOf _ _ _ _ (@snd_lit _ _ _ _ _ rfl)) (@snd_oVar _ _ _ _ rfl (by decide +kernel) (by decide +kernel)) (@snd_oOf _ _ _ _ (@snd_gint _ _ _ _ (by decide +kernel) (by decide +kernel) (by decide +kernel))) rfl))))
theorem s_is_pair : SndSs c_is_pair (defBody (topS 11)) b_is_pair := @snd_cons _ _ _ _ _ (@snd_if _ _ _ _ _ _ _ _ _ (@snd_orT _ _ _ _ _ _ _ _ _ (@snd_notT _ _ _ _ _ (@snd_plainT _ _ _ _ (@snd_isi _ _ _ _ _ _ _ _ _ (by decide +kernel) boot_tuple' (@snd_osCons _ _ _ _ _ _ _ _ (@snd_oVar _ _ _ _ rfl (by decide +kernel) (by decide +kernel)) (@snd_osNil _) rfl) rfl (by decide +kernel) (by decide +kernel) (by decide +kernel) (by decide +kernel) (by decide +kernel)) rfl)) (@snd_oneT _ _ _ _ _ _ (@t_ne _ _ _ _ _ _ (@snd_osCons _ _ _ _ _ _ _ _ (@snd_oOf _ _ _ _ (@e_len _ _ _ _ _ _ _ (@snd_osCons _ _ _ _ _ _ _ _ (@snd_oVar _ _ _ _ rfl (by decide +kernel) (by decide +kernel)) (@snd_osNil _) rfl) rfl (by decide +kernel) (by decide +kernel))) (@snd_osCons _ _ _ _ _ _ _ _ (@snd_oOf _ _ _ _ (@snd_lit _ _ _ _ _ rfl)) (@snd_osNil _) rfl) rfl) rfl)))
  (@snd_one' _ _ _ (@snd_ret _ _ _ _ _ (@snd_lit _ _ _ _ _ rfl)))
  (@snd_nil _))
  (@snd_one' _ _ _ (@snd_ret _ _ _ _ _ (@e_all _ _ _ _ _ _ _ (@snd_osCons _ _ _ _ _ _ _ _ (@snd_oOf _ _ _ _ (@snd_lc _ _ _ _ _ _ [("one", 2)] _ _ _ _ _ _ _ _ (@snd_iSeq _ _ _ _ _ _ (@snd_oOf _ _ _ _ (@snd_var _ _ _ _ rfl (by decide +kernel) (by decide +kernel)))) (.nm rfl (by decide +kernel)) rfl (by decide +kernel) (.no) (@snd_and _ _ _ _ _ _ _ _ _ (@snd_call _ _ _ _ _ _ _ _ (by decide +kernel) (@snd_asVar _ _ _ _ _ _ rfl (by decide +kernel) (by decide +kernel) (@snd_asNil _)) rfl (by decide +kernel) (by decide +kernel)) (@snd_one _ _ _ _ _ _ (@snd_chain _ _ _ _ _ _ _ _ _ _ _ _ _ _ _ _ _ _ ic_le ic_lt (@snd_oOf _ _ _ _ (@snd_lit _ _ _ _ _ rfl)) (@snd_oVar _ _ _ _ rfl (by decide +kernel) (by decide +kernel)) (@snd_oVar _ _ _ _ rfl (by decide +kernel) (by decide +kernel)) rfl))) rfl)) (@snd_osNil _) rfl) rfl (by decide +kernel) (by decide +kernel))))
theorem s_follows : SndSs c_follows (defBody (topS 12)) b_follows := @snd_cons _ _ _ _ _ (@snd_for _ _ _ _ _ _ _ _ _ (@snd_iSeq _ _ _ _ _ _ (@snd_oOf _ _ _ _ (@snd_var _ _ _ _ rfl (by decide +kernel) (by decide +kernel)))) (.tp (.cons rfl (by decide +kernel) (.cons rfl (by decide +kernel) (.nil)))) (by decide +kernel)
  (@snd_cons _ _ _ _ _ (@snd_if _ _ _ _ _ _ _ _ _ (@t_eq _ _ _ _ _ _ (@snd_osCons _ _ _ _ _ _ _ _ (@snd_oVar _ _ _ _ rfl (by decide +kernel) (by decide +kernel)) (@snd_osCons _ _ _ _ _ _ _ _ (@snd_oVar _ _ _ _ rfl (by decide +kernel) (by decide +kernel)) (@snd_osNil _) rfl) rfl) rfl)
  (@snd_one' _ _ _ (@snd_ret _ _ _ _ _ (@snd_lit _ _ _ _ _ rfl)))
  (@snd_nil _))
  (@snd_one' _ _ _ (@snd_for _ _ _ _ _ _ _ _ _ (@snd_iSeq _ _ _ _ _ _ (@snd_oOf _ _ _ _ (@snd_var _ _ _ _ rfl (by decide +kernel) (by decide +kernel)))) (.tp (.cons rfl (by decide +kernel) (.cons rfl (by decide +kernel) (.nil)))) (by decide +kernel)
  (@snd_one' _ _ _ (@snd_if _ _ _ _ _ _ _ _ _ (@snd_andT _ _ _ _ _ _ _ _ _ (@t_eq _ _ _ _ _ _ (@snd_osCons _ _ _ _ _ _ _ _ (@snd_oVar _ _ _ _ rfl (by decide +kernel) (by decide +kernel)) (@snd_osCons _ _ _ _ _ _ _ _ (@snd_oVar _ _ _ _ rfl (by decide +kernel) (by decide +kernel)) (@snd_osNil _) rfl) rfl) rfl) (@snd_oneT _ _ _ _ _ _ (@t_nin _ _ _ _ _ _ (@snd_osCons _ _ _ _ _ _ _ _ (@snd_oOf _ _ _ _ (@snd_tup _ _ _ _ _ _ (@snd_fsCons _ _ _ _ _ _ _ (@snd_var _ _ _ _ rfl (by decide +kernel) (by decide +kernel)) (@snd_fsCons _ _ _ _ _ _ _ (@snd_var _ _ _ _ rfl (by decide +kernel) (by decide +kernel)) (@snd_fsNil _))) rfl)) (@snd_osCons _ _ _ _ _ _ _ _ (@snd_oVar _ _ _ _ rfl (by decide +kernel) (by decide +kernel)) (@snd_osNil _) rfl) rfl) rfl)))
  (@snd_one' _ _ _ (@snd_ret _ _ _ _ _ (@snd_lit _ _ _ _ _ rfl)))
  (@snd_nil _))) rfl))) rfl)
  (@snd_one' _ _ _ (@snd_ret _ _ _ _ _ (@snd_lit _ _ _ _ _ rfl)))
theorem s_is_order : SndSs c_is_order (defBody (topS 13)) b_is_order := @snd_cons _ _ _ _ _ (@snd_if _ _ _ _ _ _ _ _ _ (@snd_orT _ _ _ _ _ _ _ _ _ (@snd_notT _ _ _ _ _ (@snd_plainT _ _ _ _ (@snd_isi _ _ _ _ _ _ _ _ _ (by decide +kernel) boot_tuple' (@snd_osCons _ _ _ _ _ _ _ _ (@snd_oVar _ _ _ _ rfl (by decide +kernel) (by decide +kernel)) (@snd_osNil _) rfl) rfl (by decide +kernel) (by decide +kernel) (by decide +kernel) (by decide +kernel) (by decide +kernel)) rfl)) (@snd_orT _ _ _ _ _ _ _ _ _ (@t_ne _ _ _ _ _ _ (@snd_osCons _ _ _ _ _ _ _ _ (@snd_oOf _ _ _ _ (@e_len _ _ _ _ _ _ _ (@snd_osCons _ _ _ _ _ _ _ _ (@snd_oVar _ _ _ _ rfl (by decide +kernel) (by decide +kernel)) (@snd_osNil _) rfl) rfl (by decide +kernel) (by decide +kernel))) (@snd_osCons _ _ _ _ _ _ _ _ (@snd_oOf _ _ _ _ (@snd_lit _ _ _ _ _ rfl)) (@snd_osNil _) rfl) rfl) rfl) (@snd_orT _ _ _ _ _ _ _ _ _ (@snd_notT _ _ _ _ _ (@snd_plainT _ _ _ _ (@snd_call _ _ _ _ _ _ _ _ (by decide +kernel) (@snd_asExp _ _ _ _ _ _ (@e_ix _ _ _ _ _ _ (@snd_osCons _ _ _ _ _ _ _ _ (@snd_oVar _ _ _ _ rfl (by decide +kernel) (by decide +kernel)) (@snd_osCons _ _ _ _ _ _ _ _ (@snd_oOf _ _ _ _ (@snd_lit _ _ _ _ _ rfl)) (@snd_osNil _) rfl) rfl) rfl) (@snd_asNil _)) rfl (by decide +kernel) (by decide +kernel)) rfl)) (@snd_oneT _ _ _ _ _ _ (@snd_notT _ _ _ _ _ (@snd_plainT _ _ _ _ (@snd_isi _ _ _ _ _ _ _ _ _ (by decide +kernel) boot_tuple' (@snd_osCons _ _ _ _ _ _ _ _ (@snd_oOf _ _ _ _ (@e_ix _ _ _ _ _ _ (@snd_osCons _ _ _ _ _ _ _ _ (@snd_oVar _ _ _ _ rfl (by decide +kernel) (by decide +kernel)) (@snd_osCons _ _ _ _ _ _ _ _ (@snd_oOf _ _ _ _ (@snd_lit _ _ _ _ _ rfl)) (@snd_osNil _) rfl) rfl) rfl)) (@snd_osNil _) rfl) rfl (by decide +kernel) (by decide +kernel) (by decide +kernel) (by decide +kernel) (by decide +kernel)) rfl))))))
  (@snd_one' _ _ _ (@snd_ret _ _ _ _ _ (@snd_lit _ _ _ _ _ rfl)))
  (@snd_nil _))
  (@snd_cons _ _ _ _ _ (@snd_unp _ _ _ _ _ _ _ _ _ (.cons rfl (by decide +kernel) (.cons rfl (by decide +kernel) (.nil))) (by decide +kernel) (@snd_var _ _ _ _ rfl (by decide +kernel) (by decide +kernel)) rfl rfl)
  (@snd_cons _ _ _ _ _ (@snd_if _ _ _ _ _ _ _ _ _ (@snd_notT _ _ _ _ _ (@snd_plainT _ _ _ _ (@e_all _ _ _ _ _ _ _ (@snd_osCons _ _ _ _ _ _ _ _ (@snd_oOf _ _ _ _ (@snd_lc _ _ _ _ _ _ [("pair", 3)] _ _ _ _ _ _ _ _ (@snd_iSeq _ _ _ _ _ _ (@snd_oOf _ _ _ _ (@snd_var _ _ _ _ rfl (by decide +kernel) (by decide +kernel)))) (.nm rfl (by decide +kernel)) rfl (by decide +kernel) (.no) (@snd_call _ _ _ _ _ _ _ _ (by decide +kernel) (@snd_asVar _ _ _ _ _ _ rfl (by decide +kernel) (by decide +kernel) (@snd_asVar _ _ _ _ _ _ rfl (by decide +kernel) (by decide +kernel) (@snd_asNil _))) rfl (by decide +kernel) (by decide +kernel)) rfl)) (@snd_osNil _) rfl) rfl (by decide +kernel) (by decide +kernel)) rfl))
  (@snd_one' _ _ _ (@snd_ret _ _ _ _ _ (@snd_lit _ _ _ _ _ rfl)))
  (@snd_nil _))
  (@snd_one' _ _ _ (@snd_ret _ _ _ _ _ (@snd_and _ _ _ _ _ _ _ _ _ (@e_eq _ _ _ _ _ _ (@snd_osCons _ _ _ _ _ _ _ _ (@snd_oOf _ _ _ _ (@e_listOf _ _ _ _ _ _ _ (@snd_osCons _ _ _ _ _ _ _ _ (@snd_oVar _ _ _ _ rfl (by decide +kernel) (by decide +kernel)) (@snd_osNil _) rfl) rfl (by decide +kernel) (by decide +kernel))) (@snd_osCons _ _ _ _ _ _ _ _ (@snd_oOf _ _ _ _ (@snd_sortSet _ _ _ _ _ _ _ _ _ (@snd_oVar _ _ _ _ rfl (by decide +kernel) (by decide +kernel)) rfl (by decide +kernel) (by decide +kernel) (by decide +kernel) (by decide +kernel))) (@snd_osNil _) rfl) rfl) rfl) (@snd_one _ _ _ _ _ _ (@snd_call _ _ _ _ _ _ _ _ (by decide +kernel) (@snd_asVar _ _ _ _ _ _ rfl (by decide +kernel) (by decide +kernel) (@snd_asNil _)) rfl (by decide +kernel) (by decide +kernel))))))))
theorem s_need_order : SndSs c_need_order (defBody (topS 14)) b_need_order := @snd_one' _ _ _ (@snd_if _ _ _ _ _ _ _ _ _ (@snd_notT _ _ _ _ _ (@snd_plainT _ _ _ _ (@snd_call _ _ _ _ _ _ _ _ (by decide +kernel) (@snd_asVar _ _ _ _ _ _ rfl (by decide +kernel) (by decide +kernel) (@snd_asNil _)) rfl (by decide +kernel) (by decide +kernel)) rfl))
  (@snd_one' _ _ _ (@snd_stop _ _))
  (@snd_nil _))
theorem s_need_many : SndSs c_need_many (defBody (topS 15)) b_need_many := @snd_one' _ _ _ (@snd_if _ _ _ _ _ _ _ _ _ (@snd_notT _ _ _ _ _ (@snd_plainT _ _ _ _ (@snd_call _ _ _ _ _ _ _ _ (by decide +kernel) (@snd_asVar _ _ _ _ _ _ rfl (by decide +kernel) (by decide +kernel) (@snd_asNil _)) rfl (by decide +kernel) (by decide +kernel)) rfl))
  (@snd_one' _ _ _ (@snd_stop _ _))
  (@snd_nil _))
theorem s_are_apart : SndSs c_are_apart (defBody (topS 16)) b_are_apart := @snd_one' _ _ _ (@snd_ret _ _ _ _ _ (@snd_and _ _ _ _ _ _ _ _ _ (@e_ne _ _ _ _ _ _ (@snd_osCons _ _ _ _ _ _ _ _ (@snd_oVar _ _ _ _ rfl (by decide +kernel) (by decide +kernel)) (@snd_osCons _ _ _ _ _ _ _ _ (@snd_oVar _ _ _ _ rfl (by decide +kernel) (by decide +kernel)) (@snd_osNil _) rfl) rfl) rfl) (@snd_and _ _ _ _ _ _ _ _ _ (@e_nin _ _ _ _ _ _ (@snd_osCons _ _ _ _ _ _ _ _ (@snd_oOf _ _ _ _ (@snd_tup _ _ _ _ _ _ (@snd_fsCons _ _ _ _ _ _ _ (@snd_var _ _ _ _ rfl (by decide +kernel) (by decide +kernel)) (@snd_fsCons _ _ _ _ _ _ _ (@snd_var _ _ _ _ rfl (by decide +kernel) (by decide +kernel)) (@snd_fsNil _))) rfl)) (@snd_osCons _ _ _ _ _ _ _ _ (@snd_oOf _ _ _ _ (@e_ix _ _ _ _ _ _ (@snd_osCons _ _ _ _ _ _ _ _ (@snd_oVar _ _ _ _ rfl (by decide +kernel) (by decide +kernel)) (@snd_osCons _ _ _ _ _ _ _ _ (@snd_oOf _ _ _ _ (@snd_lit _ _ _ _ _ rfl)) (@snd_osNil _) rfl) rfl) rfl)) (@snd_osNil _) rfl) rfl) rfl) (@snd_one _ _ _ _ _ _ (@e_nin _ _ _ _ _ _ (@snd_osCons _ _ _ _ _ _ _ _ (@snd_oOf _ _ _ _ (@snd_tup _ _ _ _ _ _ (@snd_fsCons _ _ _ _ _ _ _ (@snd_var _ _ _ _ rfl (by decide +kernel) (by decide +kernel)) (@snd_fsCons _ _ _ _ _ _ _ (@snd_var _ _ _ _ rfl (by decide +kernel) (by decide +kernel)) (@snd_fsNil _))) rfl)) (@snd_osCons _ _ _ _ _ _ _ _ (@snd_oOf _ _ _ _ (@e_ix _ _ _ _ _ _ (@snd_osCons _ _ _ _ _ _ _ _ (@snd_oVar _ _ _ _ rfl (by decide +kernel) (by decide +kernel)) (@snd_osCons _ _ _ _ _ _ _ _ (@snd_oOf _ _ _ _ (@snd_lit _ _ _ _ _ rfl)) (@snd_osNil _) rfl) rfl) rfl)) (@snd_osNil _) rfl) rfl) rfl)))))
theorem s_turned : SndSs c_turned (defBody (topS 17)) b_turned := @snd_cons _ _ _ _ _ (@snd_do _ _ _ _ _ (@snd_call _ _ _ _ _ _ _ _ (by decide +kernel) (@snd_asVar _ _ _ _ _ _ rfl (by decide +kernel) (by decide +kernel) (@snd_asNil _)) rfl (by decide +kernel) (by decide +kernel)) rfl)
  (@snd_one' _ _ _ (@snd_ret _ _ _ _ _ (@snd_tup _ _ _ _ _ _ (@snd_fsCons _ _ _ _ _ _ _ (@e_ix _ _ _ _ _ _ (@snd_osCons _ _ _ _ _ _ _ _ (@snd_oVar _ _ _ _ rfl (by decide +kernel) (by decide +kernel)) (@snd_osCons _ _ _ _ _ _ _ _ (@snd_oOf _ _ _ _ (@snd_lit _ _ _ _ _ rfl)) (@snd_osNil _) rfl) rfl) rfl) (@snd_fsCons _ _ _ _ _ _ _ (@e_tupOf _ _ _ _ _ _ _ (@snd_osCons _ _ _ _ _ _ _ _ (@snd_oOf _ _ _ _ (@e_sortS _ _ _ _ _ _ _ (@snd_osCons _ _ _ _ _ _ _ _ (@snd_oOf _ _ _ _ (@snd_lc _ _ _ _ _ _ [("a", 1), ("b", 2)] _ _ _ _ _ _ _ _ (@snd_iSeq _ _ _ _ _ _ (@snd_oOf _ _ _ _ (@e_ix _ _ _ _ _ _ (@snd_osCons _ _ _ _ _ _ _ _ (@snd_oVar _ _ _ _ rfl (by decide +kernel) (by decide +kernel)) (@snd_osCons _ _ _ _ _ _ _ _ (@snd_oOf _ _ _ _ (@snd_lit _ _ _ _ _ rfl)) (@snd_osNil _) rfl) rfl) rfl))) (.tp (.cons rfl (by decide +kernel) (.cons rfl (by decide +kernel) (.nil)))) rfl (by decide +kernel) (.no) (@snd_tup _ _ _ _ _ _ (@snd_fsCons _ _ _ _ _ _ _ (@snd_var _ _ _ _ rfl (by decide +kernel) (by decide +kernel)) (@snd_fsCons _ _ _ _ _ _ _ (@snd_var _ _ _ _ rfl (by decide +kernel) (by decide +kernel)) (@snd_fsNil _))) rfl) rfl)) (@snd_osNil _) rfl) rfl (by decide +kernel) (by decide +kernel))) (@snd_osNil _) rfl) rfl (by decide +kernel) (by decide +kernel)) (@snd_fsNil _))) rfl)))
theorem s_is_tuple_of_all : SndSs c_is_tuple_of_all (defBody (topS 19)) b_is_tuple_of_all := @snd_cons _ _ _ _ _ (@snd_if _ _ _ _ _ _ _ _ _ (@snd_orT _ _ _ _ _ _ _ _ _ (@snd_notT _ _ _ _ _ (@snd_plainT _ _ _ _ (@snd_isi _ _ _ _ _ _ _ _ _ (by decide +kernel) boot_tuple' (@snd_osCons _ _ _ _ _ _ _ _ (@snd_oVar _ _ _ _ rfl (by decide +kernel) (by decide +kernel)) (@snd_osNil _) rfl) rfl (by decide +kernel) (by decide +kernel) (by decide +kernel) (by decide +kernel) (by decide +kernel)) rfl)) (@snd_orT _ _ _ _ _ _ _ _ _ (@t_ne _ _ _ _ _ _ (@snd_osCons _ _ _ _ _ _ _ _ (@snd_oOf _ _ _ _ (@e_len _ _ _ _ _ _ _ (@snd_osCons _ _ _ _ _ _ _ _ (@snd_oVar _ _ _ _ rfl (by decide +kernel) (by decide +kernel)) (@snd_osNil _) rfl) rfl (by decide +kernel) (by decide +kernel))) (@snd_osCons _ _ _ _ _ _ _ _ (@snd_oVar _ _ _ _ rfl (by decide +kernel) (by decide +kernel)) (@snd_osNil _) rfl) rfl) rfl) (@snd_oneT _ _ _ _ _ _ (@snd_notT _ _ _ _ _ (@snd_plainT _ _ _ _ (@e_all _ _ _ _ _ _ _ (@snd_osCons _ _ _ _ _ _ _ _ (@snd_oOf _ _ _ _ (@snd_lc _ _ _ _ _ _ [("one", 2)] _ _ _ _ _ _ _ _ (@snd_iSeq _ _ _ _ _ _ (@snd_oOf _ _ _ _ (@snd_var _ _ _ _ rfl (by decide +kernel) (by decide +kernel)))) (.nm rfl (by decide +kernel)) rfl (by decide +kernel) (.no) (@snd_call _ _ _ _ _ _ _ _ (by decide +kernel) (@snd_asVar _ _ _ _ _ _ rfl (by decide +kernel) (by decide +kernel) (@snd_asNil _)) rfl (by decide +kernel) (by decide +kernel)) rfl)) (@snd_osNil _) rfl) rfl (by decide +kernel) (by decide +kernel)) rfl)))))
  (@snd_one' _ _ _ (@snd_ret _ _ _ _ _ (@snd_lit _ _ _ _ _ rfl)))
  (@snd_nil _))
  (@snd_one' _ _ _ (@snd_ret _ _ _ _ _ (@e_eq _ _ _ _ _ _ (@snd_osCons _ _ _ _ _ _ _ _ (@snd_oOf _ _ _ _ (@e_sortS _ _ _ _ _ _ _ (@snd_osCons _ _ _ _ _ _ _ _ (@snd_oVar _ _ _ _ rfl (by decide +kernel) (by decide +kernel)) (@snd_osNil _) rfl) rfl (by decide +kernel) (by decide +kernel))) (@snd_osCons _ _ _ _ _ _ _ _ (@snd_oOf _ _ _ _ (@snd_listR1 _ _ _ _ _ _ _ _ _ (@snd_oVar _ _ _ _ rfl (by decide +kernel) (by decide +kernel)) rfl (by decide +kernel) (by decide +kernel) (by decide +kernel) (by decide +kernel))) (@snd_osNil _) rfl) rfl) rfl)))
theorem s_stands_ahead : SndSs c_stands_ahead (defBody (topS 20)) b_stands_ahead := @snd_one' _ _ _ (@snd_ret _ _ _ _ _ (@e_lt _ _ _ _ _ _ (@snd_osCons _ _ _ _ _ _ _ _ (@snd_oOf _ _ _ _ (@e_tindex _ _ _ _ _ _ _ _ _ _ _ (@snd_oVar _ _ _ _ rfl (by decide +kernel) (by decide +kernel)) (@snd_osCons _ _ _ _ _ _ _ _ (@snd_oVar _ _ _ _ rfl (by decide +kernel) (by decide +kernel)) (@snd_osNil _) rfl) rfl rfl (by decide +kernel) rfl rfl)) (@snd_osCons _ _ _ _ _ _ _ _ (@snd_oOf _ _ _ _ (@e_tindex _ _ _ _ _ _ _ _ _ _ _ (@snd_oVar _ _ _ _ rfl (by decide +kernel) (by decide +kernel)) (@snd_osCons _ _ _ _ _ _ _ _ (@snd_oVar _ _ _ _ rfl (by decide +kernel) (by decide +kernel)) (@snd_osNil _) rfl) rfl rfl (by decide +kernel) rfl rfl)) (@snd_osNil _) rfl) rfl) rfl))
theorem s_is_row_of : SndSs c_is_row_of (defBody (topS 21)) b_is_row_of := @snd_one' _ _ _ (@snd_ret _ _ _ _ _ (@snd_and _ _ _ _ _ _ _ _ _ (@snd_call _ _ _ _ _ _ _ _ (by decide +kernel) (@snd_asExp _ _ _ _ _ _ (@e_ix _ _ _ _ _ _ (@snd_osCons _ _ _ _ _ _ _ _ (@snd_oVar _ _ _ _ rfl (by decide +kernel) (by decide +kernel)) (@snd_osCons _ _ _ _ _ _ _ _ (@snd_oOf _ _ _ _ (@snd_lit _ _ _ _ _ rfl)) (@snd_osNil _) rfl) rfl) rfl) (@snd_asVar _ _ _ _ _ _ rfl (by decide +kernel) (by decide +kernel) (@snd_asNil _))) rfl (by decide +kernel) (by decide +kernel)) (@snd_one _ _ _ _ _ _ (@e_all _ _ _ _ _ _ _ (@snd_osCons _ _ _ _ _ _ _ _ (@snd_oOf _ _ _ _ (@snd_lc _ _ _ _ _ _ [("a", 2), ("b", 3)] _ _ _ _ _ _ _ _ (@snd_iSeq _ _ _ _ _ _ (@snd_oOf _ _ _ _ (@e_ix _ _ _ _ _ _ (@snd_osCons _ _ _ _ _ _ _ _ (@snd_oVar _ _ _ _ rfl (by decide +kernel) (by decide +kernel)) (@snd_osCons _ _ _ _ _ _ _ _ (@snd_oOf _ _ _ _ (@snd_lit _ _ _ _ _ rfl)) (@snd_osNil _) rfl) rfl) rfl))) (.tp (.cons rfl (by decide +kernel) (.cons rfl (by decide +kernel) (.nil)))) rfl (by decide +kernel) (.no) (@snd_call _ _ _ _ _ _ _ _ (by decide +kernel) (@snd_asVar _ _ _ _ _ _ rfl (by decide +kernel) (by decide +kernel) (@snd_asVar _ _ _ _ _ _ rfl (by decide +kernel) (by decide +kernel) (@snd_asVar _ _ _ _ _ _ rfl (by decide +kernel) (by decide +kernel) (@snd_asNil _)))) rfl (by decide +kernel) (by decide +kernel)) rfl)) (@snd_osNil _) rfl) rfl (by decide +kernel) (by decide +kernel)))))
theorem s_is_row : SndSs c_is_row (defBody (topS 22)) b_is_row := @snd_cons _ _ _ _ _ (@snd_do _ _ _ _ _ (@snd_call _ _ _ _ _ _ _ _ (by decide +kernel) (@snd_asVar _ _ _ _ _ _ rfl (by decide +kernel) (by decide +kernel) (@snd_asNil _)) rfl (by decide +kernel) (by decide +kernel)) rfl)
  (@snd_one' _ _ _ (@snd_ret _ _ _ _ _ (@snd_call _ _ _ _ _ _ _ _ (by decide +kernel) (@snd_asVar _ _ _ _ _ _ rfl (by decide +kernel) (by decide +kernel) (@snd_asVar _ _ _ _ _ _ rfl (by decide +kernel) (by decide +kernel) (@snd_asNil _))) rfl (by decide +kernel) (by decide +kernel))))
theorem s_next_things : SndSs c_next_things (defBody (topS 23)) b_next_things := @snd_cons _ _ _ _ _ (@snd_set _ _ _ _ _ _ _ _ rfl (by decide +kernel) (by decide +kernel) (@snd_lst _ _ _ _ _ (@snd_fsNil _) rfl) rfl)
  (@snd_cons _ _ _ _ _ (@snd_for _ _ _ _ _ _ _ _ _ (@snd_iR1 _ _ _ _ _ _ _ _ (@snd_oOf _ _ _ _ (@e_ix _ _ _ _ _ _ (@snd_osCons _ _ _ _ _ _ _ _ (@snd_oVar _ _ _ _ rfl (by decide +kernel) (by decide +kernel)) (@snd_osCons _ _ _ _ _ _ _ _ (@snd_oOf _ _ _ _ (@snd_lit _ _ _ _ _ rfl)) (@snd_osNil _) rfl) rfl) rfl)) rfl (by decide +kernel) (by decide +kernel)) (.nm rfl (by decide +kernel)) (by decide +kernel)
  (@snd_one' _ _ _ (@snd_if _ _ _ _ _ _ _ _ _ (@snd_andT _ _ _ _ _ _ _ _ _ (@t_nin _ _ _ _ _ _ (@snd_osCons _ _ _ _ _ _ _ _ (@snd_oVar _ _ _ _ rfl (by decide +kernel) (by decide +kernel)) (@snd_osCons _ _ _ _ _ _ _ _ (@snd_oVar _ _ _ _ rfl (by decide +kernel) (by decide +kernel)) (@snd_osNil _) rfl) rfl) rfl) (@snd_oneT _ _ _ _ _ _ (@snd_plainT _ _ _ _ (@e_all _ _ _ _ _ _ _ (@snd_osCons _ _ _ _ _ _ _ _ (@snd_oOf _ _ _ _ (@snd_lc _ _ _ _ _ _ [("a", 4), ("b", 5)] _ _ _ _ _ _ _ _ (@snd_iSeq _ _ _ _ _ _ (@snd_oOf _ _ _ _ (@e_ix _ _ _ _ _ _ (@snd_osCons _ _ _ _ _ _ _ _ (@snd_oVar _ _ _ _ rfl (by decide +kernel) (by decide +kernel)) (@snd_osCons _ _ _ _ _ _ _ _ (@snd_oOf _ _ _ _ (@snd_lit _ _ _ _ _ rfl)) (@snd_osNil _) rfl) rfl) rfl))) (.tp (.cons rfl (by decide +kernel) (.cons rfl (by decide +kernel) (.nil)))) rfl (by decide +kernel) (.one (@t_eq _ _ _ _ _ _ (@snd_osCons _ _ _ _ _ _ _ _ (@snd_oVar _ _ _ _ rfl (by decide +kernel) (by decide +kernel)) (@snd_osCons _ _ _ _ _ _ _ _ (@snd_oVar _ _ _ _ rfl (by decide +kernel) (by decide +kernel)) (@snd_osNil _) rfl) rfl) rfl)) (@e_in _ _ _ _ _ _ (@snd_osCons _ _ _ _ _ _ _ _ (@snd_oVar _ _ _ _ rfl (by decide +kernel) (by decide +kernel)) (@snd_osCons _ _ _ _ _ _ _ _ (@snd_oVar _ _ _ _ rfl (by decide +kernel) (by decide +kernel)) (@snd_osNil _) rfl) rfl) rfl) rfl)) (@snd_osNil _) rfl) rfl (by decide +kernel) (by decide +kernel)) rfl)))
  (@snd_one' _ _ _ (@snd_do _ _ _ _ _ (@u_append _ _ _ _ _ _ _ _ _ rfl (by decide +kernel) (by decide +kernel) (@snd_fsCons _ _ _ _ _ _ _ (@snd_var _ _ _ _ rfl (by decide +kernel) (by decide +kernel)) (@snd_fsNil _)) rfl rfl) rfl))
  (@snd_nil _))) rfl)
  (@snd_one' _ _ _ (@snd_retV _ _ _ _ _ rfl (by decide +kernel) (by decide +kernel) (by decide +kernel))))
theorem s_ways_from : SndSs c_ways_from (defBody (topS 24)) b_ways_from := @snd_cons _ _ _ _ _ (@snd_set _ _ _ _ _ _ _ _ rfl (by decide +kernel) (by decide +kernel) (@e_tupOf _ _ _ _ _ _ _ (@snd_osCons _ _ _ _ _ _ _ _ (@snd_oOf _ _ _ _ (@e_sortS _ _ _ _ _ _ _ (@snd_osCons _ _ _ _ _ _ _ _ (@snd_oVar _ _ _ _ rfl (by decide +kernel) (by decide +kernel)) (@snd_osNil _) rfl) rfl (by decide +kernel) (by decide +kernel))) (@snd_osNil _) rfl) rfl (by decide +kernel) (by decide +kernel)) rfl)
  (@snd_cons _ _ _ _ _ (@snd_if _ _ _ _ _ _ _ _ _ (@t_eq _ _ _ _ _ _ (@snd_osCons _ _ _ _ _ _ _ _ (@snd_oOf _ _ _ _ (@e_len _ _ _ _ _ _ _ (@snd_osCons _ _ _ _ _ _ _ _ (@snd_oVar _ _ _ _ rfl (by decide +kernel) (by decide +kernel)) (@snd_osNil _) rfl) rfl (by decide +kernel) (by decide +kernel))) (@snd_osCons _ _ _ _ _ _ _ _ (@snd_oOf _ _ _ _ (@e_ix _ _ _ _ _ _ (@snd_osCons _ _ _ _ _ _ _ _ (@snd_oVar _ _ _ _ rfl (by decide +kernel) (by decide +kernel)) (@snd_osCons _ _ _ _ _ _ _ _ (@snd_oOf _ _ _ _ (@snd_lit _ _ _ _ _ rfl)) (@snd_osNil _) rfl) rfl) rfl)) (@snd_osNil _) rfl) rfl) rfl)
  (@snd_one' _ _ _ (@snd_ret _ _ _ _ _ (@snd_lit _ _ _ _ _ rfl)))
  (@snd_nil _))
  (@snd_cons _ _ _ _ _ (@snd_if _ _ _ _ _ _ _ _ _ (@snd_tninT _ _ _ _ _ _ _ _ _ rfl (by decide +kernel) (by decide +kernel) (@snd_oVar _ _ _ _ rfl (by decide +kernel) (by decide +kernel)))
  (@snd_one' _ _ _ (@snd_tput _ _ _ _ _ _ _ _ _ _ _ _ _ rfl (by decide +kernel) (by decide +kernel) (e_sum (@snd_osCons _ _ _ _ _ _ _ _ (@snd_oOf _ _ _ _ (@snd_lc _ _ _ _ _ _ [("thing", 4)] _ _ _ _ _ _ _ _ (@snd_iSeq _ _ _ _ _ _ (@snd_oOf _ _ _ _ (@snd_call _ _ _ _ _ _ _ _ (by decide +kernel) (@snd_asVar _ _ _ _ _ _ rfl (by decide +kernel) (by decide +kernel) (@snd_asVar _ _ _ _ _ _ rfl (by decide +kernel) (by decide +kernel) (@snd_asNil _))) rfl (by decide +kernel) (by decide +kernel)))) (.nm rfl (by decide +kernel)) rfl (by decide +kernel) (.no) (@snd_call _ _ _ _ _ _ _ _ (by decide +kernel) (@snd_asVar _ _ _ _ _ _ rfl (by decide +kernel) (by decide +kernel) (@snd_asExp _ _ _ _ _ _ (@e_add _ _ _ _ _ _ (@snd_osCons _ _ _ _ _ _ _ _ (@snd_oVar _ _ _ _ rfl (by decide +kernel) (by decide +kernel)) (@snd_osCons _ _ _ _ _ _ _ _ (@snd_oOf _ _ _ _ (@snd_lst _ _ _ _ _ (@snd_fsCons _ _ _ _ _ _ _ (@snd_var _ _ _ _ rfl (by decide +kernel) (by decide +kernel)) (@snd_fsNil _)) rfl)) (@snd_osNil _) rfl) rfl)) (@snd_asVar _ _ _ _ _ _ rfl (by decide +kernel) (by decide +kernel) (@snd_asNil _)))) rfl (by decide +kernel) (by decide +kernel)) rfl)) (@snd_osNil _) rfl) rfl (by decide +kernel) (by decide +kernel)) (@snd_oVar _ _ _ _ rfl (by decide +kernel) (by decide +kernel)) rfl rfl))
  (@snd_nil _))
  (@snd_one' _ _ _ (@snd_ret _ _ _ _ _ (@snd_tget _ _ _ _ _ _ _ _ _ rfl (by decide +kernel) (by decide +kernel) (@snd_oVar _ _ _ _ rfl (by decide +kernel) (by decide +kernel)) rfl)))))
theorem s_rows_many : SndSs c_rows_many (defBody (topS 25)) b_rows_many := @snd_cons _ _ _ _ _ (@snd_do _ _ _ _ _ (@snd_call _ _ _ _ _ _ _ _ (by decide +kernel) (@snd_asVar _ _ _ _ _ _ rfl (by decide +kernel) (by decide +kernel) (@snd_asNil _)) rfl (by decide +kernel) (by decide +kernel)) rfl)
  (@snd_one' _ _ _ (@snd_ret _ _ _ _ _ (@snd_call _ _ _ _ _ _ _ _ (by decide +kernel) (@snd_asVar _ _ _ _ _ _ rfl (by decide +kernel) (by decide +kernel) (@snd_asExp _ _ _ _ _ _ (@snd_lst _ _ _ _ _ (@snd_fsNil _) rfl) (@snd_asExp _ _ _ _ _ _ (@snd_newD _ _ true) (@snd_asNil _)))) rfl (by decide +kernel) (by decide +kernel))))
theorem s_nth_row : SndSs c_nth_row (defBody (topS 26)) b_nth_row := @snd_cons _ _ _ _ _ (@snd_do _ _ _ _ _ (@snd_call _ _ _ _ _ _ _ _ (by decide +kernel) (@snd_asVar _ _ _ _ _ _ rfl (by decide +kernel) (by decide +kernel) (@snd_asNil _)) rfl (by decide +kernel) (by decide +kernel)) rfl)
  (@snd_cons _ _ _ _ _ (@snd_set _ _ _ _ _ _ _ _ rfl (by decide +kernel) (by decide +kernel) (@snd_newD _ _ true) rfl)
  (@snd_cons _ _ _ _ _ (@snd_if _ _ _ _ _ _ _ _ _ (@snd_orT _ _ _ _ _ _ _ _ _ (@snd_notT _ _ _ _ _ (@snd_plainT _ _ _ _ (@snd_call _ _ _ _ _ _ _ _ (by decide +kernel) (@snd_asVar _ _ _ _ _ _ rfl (by decide +kernel) (by decide +kernel) (@snd_asNil _)) rfl (by decide +kernel) (by decide +kernel)) rfl)) (@snd_oneT _ _ _ _ _ _ (@snd_notT _ _ _ _ _ (@snd_chainT _ _ _ _ _ _ _ _ _ _ _ _ _ _ _ _ _ _ ic_le ic_lt (@snd_oOf _ _ _ _ (@snd_lit _ _ _ _ _ rfl)) (@snd_oVar _ _ _ _ rfl (by decide +kernel) (by decide +kernel)) (@snd_oOf _ _ _ _ (@snd_call _ _ _ _ _ _ _ _ (by decide +kernel) (@snd_asVar _ _ _ _ _ _ rfl (by decide +kernel) (by decide +kernel) (@snd_asExp _ _ _ _ _ _ (@snd_lst _ _ _ _ _ (@snd_fsNil _) rfl) (@snd_asVar _ _ _ _ _ _ rfl (by decide +kernel) (by decide +kernel) (@snd_asNil _)))) rfl (by decide +kernel) (by decide +kernel))) rfl))))
  (@snd_one' _ _ _ (@snd_stop _ _))
  (@snd_nil _))
  (@snd_cons _ _ _ _ _ (@snd_set _ _ _ _ _ _ _ _ rfl (by decide +kernel) (by decide +kernel) (@snd_var _ _ _ _ rfl (by decide +kernel) (by decide +kernel)) rfl)
  (@snd_cons _ _ _ _ _ (@snd_set _ _ _ _ _ _ _ _ rfl (by decide +kernel) (by decide +kernel) (@snd_lst _ _ _ _ _ (@snd_fsNil _) rfl) rfl)
  (@snd_cons _ _ _ _ _ (@snd_while _ _ _ _ _ _ _ (@t_lt _ _ _ _ _ _ (@snd_osCons _ _ _ _ _ _ _ _ (@snd_oOf _ _ _ _ (@e_len _ _ _ _ _ _ _ (@snd_osCons _ _ _ _ _ _ _ _ (@snd_oVar _ _ _ _ rfl (by decide +kernel) (by decide +kernel)) (@snd_osNil _) rfl) rfl (by decide +kernel) (by decide +kernel))) (@snd_osCons _ _ _ _ _ _ _ _ (@snd_oOf _ _ _ _ (@e_ix _ _ _ _ _ _ (@snd_osCons _ _ _ _ _ _ _ _ (@snd_oVar _ _ _ _ rfl (by decide +kernel) (by decide +kernel)) (@snd_osCons _ _ _ _ _ _ _ _ (@snd_oOf _ _ _ _ (@snd_lit _ _ _ _ _ rfl)) (@snd_osNil _) rfl) rfl) rfl)) (@snd_osNil _) rfl) rfl) rfl)
  (@snd_one' _ _ _ (@snd_for _ _ _ _ _ _ _ _ _ (@snd_iSeq _ _ _ _ _ _ (@snd_oOf _ _ _ _ (@snd_call _ _ _ _ _ _ _ _ (by decide +kernel) (@snd_asVar _ _ _ _ _ _ rfl (by decide +kernel) (by decide +kernel) (@snd_asVar _ _ _ _ _ _ rfl (by decide +kernel) (by decide +kernel) (@snd_asNil _))) rfl (by decide +kernel) (by decide +kernel)))) (.nm rfl (by decide +kernel)) (by decide +kernel)
  (@snd_cons _ _ _ _ _ (@snd_set _ _ _ _ _ _ _ _ rfl (by decide +kernel) (by decide +kernel) (@snd_call _ _ _ _ _ _ _ _ (by decide +kernel) (@snd_asVar _ _ _ _ _ _ rfl (by decide +kernel) (by decide +kernel) (@snd_asExp _ _ _ _ _ _ (@e_add _ _ _ _ _ _ (@snd_osCons _ _ _ _ _ _ _ _ (@snd_oVar _ _ _ _ rfl (by decide +kernel) (by decide +kernel)) (@snd_osCons _ _ _ _ _ _ _ _ (@snd_oOf _ _ _ _ (@snd_lst _ _ _ _ _ (@snd_fsCons _ _ _ _ _ _ _ (@snd_var _ _ _ _ rfl (by decide +kernel) (by decide +kernel)) (@snd_fsNil _)) rfl)) (@snd_osNil _) rfl) rfl)) (@snd_asVar _ _ _ _ _ _ rfl (by decide +kernel) (by decide +kernel) (@snd_asNil _)))) rfl (by decide +kernel) (by decide +kernel)) rfl)
  (@snd_cons _ _ _ _ _ (@snd_if _ _ _ _ _ _ _ _ _ (@t_lt _ _ _ _ _ _ (@snd_osCons _ _ _ _ _ _ _ _ (@snd_oVar _ _ _ _ rfl (by decide +kernel) (by decide +kernel)) (@snd_osCons _ _ _ _ _ _ _ _ (@snd_oVar _ _ _ _ rfl (by decide +kernel) (by decide +kernel)) (@snd_osNil _) rfl) rfl) rfl)
  (@snd_cons _ _ _ _ _ (@snd_set _ _ _ _ _ _ _ _ rfl (by decide +kernel) (by decide +kernel) (@e_add _ _ _ _ _ _ (@snd_osCons _ _ _ _ _ _ _ _ (@snd_oVar _ _ _ _ rfl (by decide +kernel) (by decide +kernel)) (@snd_osCons _ _ _ _ _ _ _ _ (@snd_oOf _ _ _ _ (@snd_lst _ _ _ _ _ (@snd_fsCons _ _ _ _ _ _ _ (@snd_var _ _ _ _ rfl (by decide +kernel) (by decide +kernel)) (@snd_fsNil _)) rfl)) (@snd_osNil _) rfl) rfl)) rfl)
  (@snd_one' _ _ _ (snd_brk)))
  (@snd_nil _))
  (@snd_one' _ _ _ (@snd_set _ _ _ _ _ _ _ _ rfl (by decide +kernel) (by decide +kernel) (@e_sub _ _ _ _ _ _ (@snd_osCons _ _ _ _ _ _ _ _ (@snd_oVar _ _ _ _ rfl (by decide +kernel) (by decide +kernel)) (@snd_osCons _ _ _ _ _ _ _ _ (@snd_oVar _ _ _ _ rfl (by decide +kernel) (by decide +kernel)) (@snd_osNil _) rfl) rfl)) rfl)))) rfl)))
  (@snd_one' _ _ _ (@snd_ret _ _ _ _ _ (@e_tupOf _ _ _ _ _ _ _ (@snd_osCons _ _ _ _ _ _ _ _ (@snd_oVar _ _ _ _ rfl (by decide +kernel) (by decide +kernel)) (@snd_osNil _) rfl) rfl (by decide +kernel) (by decide +kernel)))))))))
theorem s_rank_of : SndSs c_rank_of (defBody (topS 27)) b_rank_of := @snd_cons _ _ _ _ _ (@snd_do _ _ _ _ _ (@snd_call _ _ _ _ _ _ _ _ (by decide +kernel) (@snd_asVar _ _ _ _ _ _ rfl (by decide +kernel) (by decide +kernel) (@snd_asNil _)) rfl (by decide +kernel) (by decide +kernel)) rfl)
  (@snd_cons _ _ _ _ _ (@snd_if _ _ _ _ _ _ _ _ _ (@snd_notT _ _ _ _ _ (@snd_plainT _ _ _ _ (@snd_call _ _ _ _ _ _ _ _ (by decide +kernel) (@snd_asVar _ _ _ _ _ _ rfl (by decide +kernel) (by decide +kernel) (@snd_asVar _ _ _ _ _ _ rfl (by decide +kernel) (by decide +kernel) (@snd_asNil _))) rfl (by decide +kernel) (by decide +kernel)) rfl))
  (@snd_one' _ _ _ (@snd_stop _ _))
  (@snd_nil _))
  (@snd_cons _ _ _ _ _ (@snd_set _ _ _ _ _ _ _ _ rfl (by decide +kernel) (by decide +kernel) (@snd_newD _ _ true) rfl)
  (@snd_cons _ _ _ _ _ (@snd_set _ _ _ _ _ _ _ _ rfl (by decide +kernel) (by decide +kernel) (@snd_lit _ _ _ _ _ rfl) rfl)
  (@snd_cons _ _ _ _ _ (@snd_for _ _ _ _ _ _ _ _ _ (@snd_iEnumA _ _ _ _ _ _ _ _ _ (@snd_var _ _ _ _ rfl (by decide +kernel) (by decide +kernel)) rfl (by decide +kernel) (by decide +kernel)) (.tp (.cons rfl (by decide +kernel) (.cons rfl (by decide +kernel) (.nil)))) (by decide +kernel)
  (@snd_cons _ _ _ _ _ (@snd_set _ _ _ _ _ _ _ _ rfl (by decide +kernel) (by decide +kernel) (@e_listOf _ _ _ _ _ _ _ (@snd_osCons _ _ _ _ _ _ _ _ (@snd_oOf _ _ _ _ (@e_slc _ _ _ _ _ _ _ _ _ _ _ _ _ (@snd_oVar _ _ _ _ rfl (by decide +kernel) (by decide +kernel)) (snd_part0) (@snd_part1 _ _ _ _ _ (@snd_oVar _ _ _ _ rfl (by decide +kernel) (by decide +kernel))) rfl)) (@snd_osNil _) rfl) rfl (by decide +kernel) (by decide +kernel)) rfl)
  (@snd_cons _ _ _ _ _ (@snd_setLc _ _ _ _ _ _ [("thing", 8)] _ _ _ _ _ _ _ _ _ _ _ _ rfl (by decide +kernel) (by decide +kernel) (by decide +kernel) (by decide +kernel) (@snd_iSeq _ _ _ _ _ _ (@snd_oOf _ _ _ _ (@snd_call _ _ _ _ _ _ _ _ (by decide +kernel) (@snd_asVar _ _ _ _ _ _ rfl (by decide +kernel) (by decide +kernel) (@snd_asVar _ _ _ _ _ _ rfl (by decide +kernel) (by decide +kernel) (@snd_asNil _))) rfl (by decide +kernel) (by decide +kernel)))) (.nm rfl (by decide +kernel)) rfl (by decide +kernel) (.one (@t_lt _ _ _ _ _ _ (@snd_osCons _ _ _ _ _ _ _ _ (@snd_oVar _ _ _ _ rfl (by decide +kernel) (by decide +kernel)) (@snd_osCons _ _ _ _ _ _ _ _ (@snd_oVar _ _ _ _ rfl (by decide +kernel) (by decide +kernel)) (@snd_osNil _) rfl) rfl) rfl)) (@snd_var _ _ _ _ rfl (by decide +kernel) (by decide +kernel)) rfl)
  (@snd_one' _ _ _ (@snd_set _ _ _ _ _ _ _ _ rfl (by decide +kernel) (by decide +kernel) (@e_add _ _ _ _ _ _ (@snd_osCons _ _ _ _ _ _ _ _ (@snd_oOf _ _ _ _ (@snd_var _ _ _ _ rfl (by decide +kernel) (by decide +kernel))) (@snd_osCons _ _ _ _ _ _ _ _ (@snd_oOf _ _ _ _ (e_sum (@snd_osCons _ _ _ _ _ _ _ _ (@snd_oOf _ _ _ _ (@snd_lc _ _ _ _ _ _ [("thing", 8)] _ _ _ _ _ _ _ _ (@snd_iSeq _ _ _ _ _ _ (@snd_oOf _ _ _ _ (@snd_var _ _ _ _ rfl (by decide +kernel) (by decide +kernel)))) (.nm rfl (by decide +kernel)) rfl (by decide +kernel) (.no) (@snd_call _ _ _ _ _ _ _ _ (by decide +kernel) (@snd_asVar _ _ _ _ _ _ rfl (by decide +kernel) (by decide +kernel) (@snd_asExp _ _ _ _ _ _ (@e_add _ _ _ _ _ _ (@snd_osCons _ _ _ _ _ _ _ _ (@snd_oVar _ _ _ _ rfl (by decide +kernel) (by decide +kernel)) (@snd_osCons _ _ _ _ _ _ _ _ (@snd_oOf _ _ _ _ (@snd_lst _ _ _ _ _ (@snd_fsCons _ _ _ _ _ _ _ (@snd_var _ _ _ _ rfl (by decide +kernel) (by decide +kernel)) (@snd_fsNil _)) rfl)) (@snd_osNil _) rfl) rfl)) (@snd_asVar _ _ _ _ _ _ rfl (by decide +kernel) (by decide +kernel) (@snd_asNil _)))) rfl (by decide +kernel) (by decide +kernel)) rfl)) (@snd_osNil _) rfl) rfl (by decide +kernel) (by decide +kernel))) (@snd_osNil _) rfl) rfl)) rfl)))) rfl)
  (@snd_one' _ _ _ (@snd_retV _ _ _ _ _ rfl (by decide +kernel) (by decide +kernel) (by decide +kernel)))))))
theorem s_told_pairs : SndSs c_told_pairs (defBody (topS 28)) b_told_pairs := @snd_cons _ _ _ _ _ (@snd_set _ _ _ _ _ _ _ _ rfl (by decide +kernel) (by decide +kernel) (@snd_lst _ _ _ _ _ (@snd_fsNil _) rfl) rfl)
  (@snd_cons _ _ _ _ _ (@snd_for _ _ _ _ _ _ _ _ _ (@snd_iR1 _ _ _ _ _ _ _ _ (@snd_oVar _ _ _ _ rfl (by decide +kernel) (by decide +kernel)) rfl (by decide +kernel) (by decide +kernel)) (.nm rfl (by decide +kernel)) (by decide +kernel)
  (@snd_one' _ _ _ (@snd_for _ _ _ _ _ _ _ _ _ (@snd_iR1 _ _ _ _ _ _ _ _ (@snd_oVar _ _ _ _ rfl (by decide +kernel) (by decide +kernel)) rfl (by decide +kernel) (by decide +kernel)) (.nm rfl (by decide +kernel)) (by decide +kernel)
  (@snd_one' _ _ _ (@snd_if _ _ _ _ _ _ _ _ _ (@snd_andT _ _ _ _ _ _ _ _ _ (@t_ne _ _ _ _ _ _ (@snd_osCons _ _ _ _ _ _ _ _ (@snd_oVar _ _ _ _ rfl (by decide +kernel) (by decide +kernel)) (@snd_osCons _ _ _ _ _ _ _ _ (@snd_oVar _ _ _ _ rfl (by decide +kernel) (by decide +kernel)) (@snd_osNil _) rfl) rfl) rfl) (@snd_oneT _ _ _ _ _ _ (@snd_plainT _ _ _ _ (@e_all _ _ _ _ _ _ _ (@snd_osCons _ _ _ _ _ _ _ _ (@snd_oOf _ _ _ _ (@snd_lc _ _ _ _ _ _ [("row", 5)] _ _ _ _ _ _ _ _ (@snd_iSeq _ _ _ _ _ _ (@snd_oOf _ _ _ _ (@snd_var _ _ _ _ rfl (by decide +kernel) (by decide +kernel)))) (.nm rfl (by decide +kernel)) rfl (by decide +kernel) (.no) (@snd_call _ _ _ _ _ _ _ _ (by decide +kernel) (@snd_asVar _ _ _ _ _ _ rfl (by decide +kernel) (by decide +kernel) (@snd_asVar _ _ _ _ _ _ rfl (by decide +kernel) (by decide +kernel) (@snd_asVar _ _ _ _ _ _ rfl (by decide +kernel) (by decide +kernel) (@snd_asNil _)))) rfl (by decide +kernel) (by decide +kernel)) rfl)) (@snd_osNil _) rfl) rfl (by decide +kernel) (by decide +kernel)) rfl)))
  (@snd_one' _ _ _ (@snd_do _ _ _ _ _ (@u_append _ _ _ _ _ _ _ _ _ rfl (by decide +kernel) (by decide +kernel) (@snd_fsCons _ _ _ _ _ _ _ (@snd_tup _ _ _ _ _ _ (@snd_fsCons _ _ _ _ _ _ _ (@snd_var _ _ _ _ rfl (by decide +kernel) (by decide +kernel)) (@snd_fsCons _ _ _ _ _ _ _ (@snd_var _ _ _ _ rfl (by decide +kernel) (by decide +kernel)) (@snd_fsNil _))) rfl) (@snd_fsNil _)) rfl rfl) rfl))
  (@snd_nil _))) rfl)) rfl)
  (@snd_one' _ _ _ (@snd_ret _ _ _ _ _ (@e_tupOf _ _ _ _ _ _ _ (@snd_osCons _ _ _ _ _ _ _ _ (@snd_oVar _ _ _ _ rfl (by decide +kernel) (by decide +kernel)) (@snd_osNil _) rfl) rfl (by decide +kernel) (by decide +kernel)))))
theorem s_told_by : SndSs c_told_by (defBody (topS 29)) b_told_by := @snd_cons _ _ _ _ _ (@snd_do _ _ _ _ _ (@snd_call _ _ _ _ _ _ _ _ (by decide +kernel) (@snd_asVar _ _ _ _ _ _ rfl (by decide +kernel) (by decide +kernel) (@snd_asNil _)) rfl (by decide +kernel) (by decide +kernel)) rfl)
  (@snd_cons _ _ _ _ _ (@snd_if _ _ _ _ _ _ _ _ _ (@snd_orT _ _ _ _ _ _ _ _ _ (@snd_notT _ _ _ _ _ (@snd_plainT _ _ _ _ (@snd_isi _ _ _ _ _ _ _ _ _ (by decide +kernel) boot_list' (@snd_osCons _ _ _ _ _ _ _ _ (@snd_oVar _ _ _ _ rfl (by decide +kernel) (by decide +kernel)) (@snd_osNil _) rfl) rfl (by decide +kernel) (by decide +kernel) (by decide +kernel) (by decide +kernel) (by decide +kernel)) rfl)) (@snd_orT _ _ _ _ _ _ _ _ _ (@t_eq _ _ _ _ _ _ (@snd_osCons _ _ _ _ _ _ _ _ (@snd_oVar _ _ _ _ rfl (by decide +kernel) (by decide +kernel)) (@snd_osCons _ _ _ _ _ _ _ _ (@snd_oOf _ _ _ _ (@snd_lst _ _ _ _ _ (@snd_fsNil _) rfl)) (@snd_osNil _) rfl) rfl) rfl) (@snd_oneT _ _ _ _ _ _ (@snd_notT _ _ _ _ _ (@snd_plainT _ _ _ _ (@e_all _ _ _ _ _ _ _ (@snd_osCons _ _ _ _ _ _ _ _ (@snd_oOf _ _ _ _ (@snd_lc _ _ _ _ _ _ [("row", 2)] _ _ _ _ _ _ _ _ (@snd_iSeq _ _ _ _ _ _ (@snd_oOf _ _ _ _ (@snd_var _ _ _ _ rfl (by decide +kernel) (by decide +kernel)))) (.nm rfl (by decide +kernel)) rfl (by decide +kernel) (.no) (@snd_call _ _ _ _ _ _ _ _ (by decide +kernel) (@snd_asVar _ _ _ _ _ _ rfl (by decide +kernel) (by decide +kernel) (@snd_asVar _ _ _ _ _ _ rfl (by decide +kernel) (by decide +kernel) (@snd_asNil _))) rfl (by decide +kernel) (by decide +kernel)) rfl)) (@snd_osNil _) rfl) rfl (by decide +kernel) (by decide +kernel)) rfl)))))
  (@snd_one' _ _ _ (@snd_stop _ _))
  (@snd_nil _))
  (@snd_one' _ _ _ (@snd_ret _ _ _ _ _ (@snd_tup _ _ _ _ _ _ (@snd_fsCons _ _ _ _ _ _ _ (@snd_var _ _ _ _ rfl (by decide +kernel) (by decide +kernel)) (@snd_fsCons _ _ _ _ _ _ _ (@snd_call _ _ _ _ _ _ _ _ (by decide +kernel) (@snd_asVar _ _ _ _ _ _ rfl (by decide +kernel) (by decide +kernel) (@snd_asVar _ _ _ _ _ _ rfl (by decide +kernel) (by decide +kernel) (@snd_asNil _))) rfl (by decide +kernel) (by decide +kernel)) (@snd_fsNil _))) rfl))))
theorem s_are_rows : SndSs c_are_rows (defBody (topS 30)) b_are_rows := @snd_one' _ _ _ (@snd_ret _ _ _ _ _ (@snd_and _ _ _ _ _ _ _ _ _ (@snd_isi _ _ _ _ _ _ _ _ _ (by decide +kernel) boot_list' (@snd_osCons _ _ _ _ _ _ _ _ (@snd_oVar _ _ _ _ rfl (by decide +kernel) (by decide +kernel)) (@snd_osNil _) rfl) rfl (by decide +kernel) (by decide +kernel) (by decide +kernel) (by decide +kernel) (by decide +kernel)) (@snd_and _ _ _ _ _ _ _ _ _ (@e_ne _ _ _ _ _ _ (@snd_osCons _ _ _ _ _ _ _ _ (@snd_oVar _ _ _ _ rfl (by decide +kernel) (by decide +kernel)) (@snd_osCons _ _ _ _ _ _ _ _ (@snd_oOf _ _ _ _ (@snd_lst _ _ _ _ _ (@snd_fsNil _) rfl)) (@snd_osNil _) rfl) rfl) rfl) (@snd_one _ _ _ _ _ _ (@e_all _ _ _ _ _ _ _ (@snd_osCons _ _ _ _ _ _ _ _ (@snd_oOf _ _ _ _ (@snd_lc _ _ _ _ _ _ [("row", 2)] _ _ _ _ _ _ _ _ (@snd_iSeq _ _ _ _ _ _ (@snd_oOf _ _ _ _ (@snd_var _ _ _ _ rfl (by decide +kernel) (by decide +kernel)))) (.nm rfl (by decide +kernel)) rfl (by decide +kernel) (.no) (@snd_call _ _ _ _ _ _ _ _ (by decide +kernel) (@snd_asVar _ _ _ _ _ _ rfl (by decide +kernel) (by decide +kernel) (@snd_asVar _ _ _ _ _ _ rfl (by decide +kernel) (by decide +kernel) (@snd_asNil _))) rfl (by decide +kernel) (by decide +kernel)) rfl)) (@snd_osNil _) rfl) rfl (by decide +kernel) (by decide +kernel))))))
theorem s_tell : SndSs c_tell (defBody (topS 31)) b_tell := @snd_cons _ _ _ _ _ (@snd_do _ _ _ _ _ (@snd_call _ _ _ _ _ _ _ _ (by decide +kernel) (@snd_asVar _ _ _ _ _ _ rfl (by decide +kernel) (by decide +kernel) (@snd_asNil _)) rfl (by decide +kernel) (by decide +kernel)) rfl)
  (@snd_one' _ _ _ (@snd_ret _ _ _ _ _ (@snd_and _ _ _ _ _ _ _ _ _ (@snd_call _ _ _ _ _ _ _ _ (by decide +kernel) (@snd_asVar _ _ _ _ _ _ rfl (by decide +kernel) (by decide +kernel) (@snd_asVar _ _ _ _ _ _ rfl (by decide +kernel) (by decide +kernel) (@snd_asNil _))) rfl (by decide +kernel) (by decide +kernel)) (@snd_one _ _ _ _ _ _ (@e_eq _ _ _ _ _ _ (@snd_osCons _ _ _ _ _ _ _ _ (@snd_oOf _ _ _ _ (@snd_call _ _ _ _ _ _ _ _ (by decide +kernel) (@snd_asExp _ _ _ _ _ _ (@e_ix _ _ _ _ _ _ (@snd_osCons _ _ _ _ _ _ _ _ (@snd_oVar _ _ _ _ rfl (by decide +kernel) (by decide +kernel)) (@snd_osCons _ _ _ _ _ _ _ _ (@snd_oOf _ _ _ _ (@snd_lit _ _ _ _ _ rfl)) (@snd_osNil _) rfl) rfl) rfl) (@snd_asVar _ _ _ _ _ _ rfl (by decide +kernel) (by decide +kernel) (@snd_asNil _))) rfl (by decide +kernel) (by decide +kernel))) (@snd_osCons _ _ _ _ _ _ _ _ (@snd_oOf _ _ _ _ (@e_ix _ _ _ _ _ _ (@snd_osCons _ _ _ _ _ _ _ _ (@snd_oVar _ _ _ _ rfl (by decide +kernel) (by decide +kernel)) (@snd_osCons _ _ _ _ _ _ _ _ (@snd_oOf _ _ _ _ (@snd_lit _ _ _ _ _ rfl)) (@snd_osNil _) rfl) rfl) rfl)) (@snd_osNil _) rfl) rfl) rfl)))))
theorem s_need_rows : SndSs c_need_rows (defBody (topS 32)) b_need_rows := @snd_cons _ _ _ _ _ (@snd_do _ _ _ _ _ (@snd_call _ _ _ _ _ _ _ _ (by decide +kernel) (@snd_asVar _ _ _ _ _ _ rfl (by decide +kernel) (by decide +kernel) (@snd_asNil _)) rfl (by decide +kernel) (by decide +kernel)) rfl)
  (@snd_one' _ _ _ (@snd_if _ _ _ _ _ _ _ _ _ (@snd_notT _ _ _ _ _ (@snd_plainT _ _ _ _ (@snd_call _ _ _ _ _ _ _ _ (by decide +kernel) (@snd_asVar _ _ _ _ _ _ rfl (by decide +kernel) (by decide +kernel) (@snd_asVar _ _ _ _ _ _ rfl (by decide +kernel) (by decide +kernel) (@snd_asNil _))) rfl (by decide +kernel) (by decide +kernel)) rfl))
  (@snd_one' _ _ _ (@snd_stop _ _))
  (@snd_nil _)))
theorem s_first_left : SndSs c_first_left (defBody (topS 33)) b_first_left := @snd_cons _ _ _ _ _ (@snd_do _ _ _ _ _ (@snd_call _ _ _ _ _ _ _ _ (by decide +kernel) (@snd_asVar _ _ _ _ _ _ rfl (by decide +kernel) (by decide +kernel) (@snd_asVar _ _ _ _ _ _ rfl (by decide +kernel) (by decide +kernel) (@snd_asNil _))) rfl (by decide +kernel) (by decide +kernel)) rfl)
  (@snd_cons _ _ _ _ _ (@snd_for _ _ _ _ _ _ _ _ _ (@snd_iR1 _ _ _ _ _ _ _ _ (@snd_oOf _ _ _ _ (@e_ix _ _ _ _ _ _ (@snd_osCons _ _ _ _ _ _ _ _ (@snd_oVar _ _ _ _ rfl (by decide +kernel) (by decide +kernel)) (@snd_osCons _ _ _ _ _ _ _ _ (@snd_oOf _ _ _ _ (@snd_lit _ _ _ _ _ rfl)) (@snd_osNil _) rfl) rfl) rfl)) rfl (by decide +kernel) (by decide +kernel)) (.nm rfl (by decide +kernel)) (by decide +kernel)
  (@snd_one' _ _ _ (@snd_for _ _ _ _ _ _ _ _ _ (@snd_iR1 _ _ _ _ _ _ _ _ (@snd_oOf _ _ _ _ (@e_ix _ _ _ _ _ _ (@snd_osCons _ _ _ _ _ _ _ _ (@snd_oVar _ _ _ _ rfl (by decide +kernel) (by decide +kernel)) (@snd_osCons _ _ _ _ _ _ _ _ (@snd_oOf _ _ _ _ (@snd_lit _ _ _ _ _ rfl)) (@snd_osNil _) rfl) rfl) rfl)) rfl (by decide +kernel) (by decide +kernel)) (.nm rfl (by decide +kernel)) (by decide +kernel)
  (@snd_one' _ _ _ (@snd_if _ _ _ _ _ _ _ _ _ (@snd_andT _ _ _ _ _ _ _ _ _ (@snd_plainT _ _ _ _ (@snd_call _ _ _ _ _ _ _ _ (by decide +kernel) (@snd_asVar _ _ _ _ _ _ rfl (by decide +kernel) (by decide +kernel) (@snd_asVar _ _ _ _ _ _ rfl (by decide +kernel) (by decide +kernel) (@snd_asVar _ _ _ _ _ _ rfl (by decide +kernel) (by decide +kernel) (@snd_asNil _)))) rfl (by decide +kernel) (by decide +kernel)) rfl) (@snd_oneT _ _ _ _ _ _ (@snd_plainT _ _ _ _ (@e_all _ _ _ _ _ _ _ (@snd_osCons _ _ _ _ _ _ _ _ (@snd_oOf _ _ _ _ (@snd_lc _ _ _ _ _ _ [("row", 4)] _ _ _ _ _ _ _ _ (@snd_iSeq _ _ _ _ _ _ (@snd_oOf _ _ _ _ (@snd_var _ _ _ _ rfl (by decide +kernel) (by decide +kernel)))) (.nm rfl (by decide +kernel)) rfl (by decide +kernel) (.no) (@snd_call _ _ _ _ _ _ _ _ (by decide +kernel) (@snd_asVar _ _ _ _ _ _ rfl (by decide +kernel) (by decide +kernel) (@snd_asVar _ _ _ _ _ _ rfl (by decide +kernel) (by decide +kernel) (@snd_asVar _ _ _ _ _ _ rfl (by decide +kernel) (by decide +kernel) (@snd_asNil _)))) rfl (by decide +kernel) (by decide +kernel)) rfl)) (@snd_osNil _) rfl) rfl (by decide +kernel) (by decide +kernel)) rfl)))
  (@snd_one' _ _ _ (@snd_ret _ _ _ _ _ (@snd_tup _ _ _ _ _ _ (@snd_fsCons _ _ _ _ _ _ _ (@snd_var _ _ _ _ rfl (by decide +kernel) (by decide +kernel)) (@snd_fsCons _ _ _ _ _ _ _ (@snd_var _ _ _ _ rfl (by decide +kernel) (by decide +kernel)) (@snd_fsNil _))) rfl)))
  (@snd_nil _))) rfl)) rfl)
  (@snd_one' _ _ _ (@snd_ret _ _ _ _ _ (@snd_lit _ _ _ _ _ rfl))))
theorem s__law_cell : SndSs c__law_cell (defBody (topS 35)) b__law_cell := @snd_cons _ _ _ _ _ (@snd_if _ _ _ _ _ _ _ _ _ (@t_lt _ _ _ _ _ _ (@snd_osCons _ _ _ _ _ _ _ _ (@snd_oVar _ _ _ _ rfl (by decide +kernel) (by decide +kernel)) (@snd_osCons _ _ _ _ _ _ _ _ (@snd_oOf _ _ _ _ (@snd_scrLen _ _ _ _ _ _ rfl (by decide +kernel) (by decide +kernel) (by decide +kernel) (by decide +kernel))) (@snd_osNil _) rfl) rfl) rfl)
  (@snd_one' _ _ _ (@snd_ret _ _ _ _ _ (@snd_scrAt _ _ _ _ _ _ _ _ _ rfl (by decide +kernel) (by decide +kernel) (@snd_oVar _ _ _ _ rfl (by decide +kernel) (by decide +kernel)) rfl)))
  (@snd_nil _))
  (@snd_one' _ _ _ (@snd_ret _ _ _ _ _ (@snd_lit _ _ _ _ _ rfl)))
theorem s__law_mix : SndSs c__law_mix (defBody (topS 36)) b__law_mix := @snd_cons _ _ _ _ _ (@snd_set _ _ _ _ _ _ _ _ rfl (by decide +kernel) (by decide +kernel) (@snd_const _ 12 _ _ (by decide +kernel)) rfl)
  (@snd_cons _ _ _ _ _ (@snd_set _ _ _ _ _ _ _ _ rfl (by decide +kernel) (by decide +kernel) (@e_add _ _ _ _ _ _ (@snd_osCons _ _ _ _ _ _ _ _ (@snd_oOf _ _ _ _ (@e_add _ _ _ _ _ _ (@snd_osCons _ _ _ _ _ _ _ _ (@snd_oOf _ _ _ _ (@e_mul _ _ _ _ _ _ (@snd_osCons _ _ _ _ _ _ _ _ (@snd_oOf _ _ _ _ (@e_add _ _ _ _ _ _ (@snd_osCons _ _ _ _ _ _ _ _ (@snd_oOf _ _ _ _ (@e_mod _ _ _ _ _ _ (@snd_osCons _ _ _ _ _ _ _ _ (@snd_oVar _ _ _ _ rfl (by decide +kernel) (by decide +kernel)) (@snd_osCons _ _ _ _ _ _ _ _ (@snd_oOf _ _ _ _ (@snd_lit _ _ _ _ _ rfl)) (@snd_osNil _) rfl) rfl))) (@snd_osCons _ _ _ _ _ _ _ _ (@snd_oOf _ _ _ _ (@snd_lit _ _ _ _ _ rfl)) (@snd_osNil _) rfl) rfl))) (@snd_osCons _ _ _ _ _ _ _ _ (@snd_oOf _ _ _ _ (@e_ix _ _ _ _ _ _ (@snd_osCons _ _ _ _ _ _ _ _ (@snd_oVar _ _ _ _ rfl (by decide +kernel) (by decide +kernel)) (@snd_osCons _ _ _ _ _ _ _ _ (@snd_oOf _ _ _ _ (@e_mod _ _ _ _ _ _ (@snd_osCons _ _ _ _ _ _ _ _ (@snd_oVar _ _ _ _ rfl (by decide +kernel) (by decide +kernel)) (@snd_osCons _ _ _ _ _ _ _ _ (@snd_oOf _ _ _ _ (@snd_lit _ _ _ _ _ rfl)) (@snd_osNil _) rfl) rfl))) (@snd_osNil _) rfl) rfl) rfl)) (@snd_osNil _) rfl) rfl))) (@snd_osCons _ _ _ _ _ _ _ _ (@snd_oOf _ _ _ _ (@e_mul _ _ _ _ _ _ (@snd_osCons _ _ _ _ _ _ _ _ (@snd_oOf _ _ _ _ (@snd_lit _ _ _ _ _ rfl)) (@snd_osCons _ _ _ _ _ _ _ _ (@snd_oVar _ _ _ _ rfl (by decide +kernel) (by decide +kernel)) (@snd_osNil _) rfl) rfl))) (@snd_osNil _) rfl) rfl))) (@snd_osCons _ _ _ _ _ _ _ _ (@snd_oOf _ _ _ _ (@e_mul _ _ _ _ _ _ (@snd_osCons _ _ _ _ _ _ _ _ (@snd_oOf _ _ _ _ (@snd_lit _ _ _ _ _ rfl)) (@snd_osCons _ _ _ _ _ _ _ _ (@snd_oOf _ _ _ _ (@e_div _ _ _ _ _ _ (@snd_osCons _ _ _ _ _ _ _ _ (@snd_oVar _ _ _ _ rfl (by decide +kernel) (by decide +kernel)) (@snd_osCons _ _ _ _ _ _ _ _ (@snd_oOf _ _ _ _ (@snd_lit _ _ _ _ _ rfl)) (@snd_osNil _) rfl) rfl))) (@snd_osNil _) rfl) rfl))) (@snd_osNil _) rfl) rfl)) rfl)
  (@snd_cons _ _ _ _ _ (@snd_set _ _ _ _ _ _ _ _ rfl (by decide +kernel) (by decide +kernel) (@e_mod _ _ _ _ _ _ (@snd_osCons _ _ _ _ _ _ _ _ (@snd_oVar _ _ _ _ rfl (by decide +kernel) (by decide +kernel)) (@snd_osCons _ _ _ _ _ _ _ _ (@snd_oOf _ _ _ _ (@snd_lit _ _ _ _ _ rfl)) (@snd_osNil _) rfl) rfl)) rfl)
  (@snd_one' _ _ _ (@snd_ret _ _ _ _ _ (@e_div _ _ _ _ _ _ (@snd_osCons _ _ _ _ _ _ _ _ (@snd_oOf _ _ _ _ (@e_mod _ _ _ _ _ _ (@snd_osCons _ _ _ _ _ _ _ _ (@snd_oOf _ _ _ _ (@e_add _ _ _ _ _ _ (@snd_osCons _ _ _ _ _ _ _ _ (@snd_oOf _ _ _ _ (@e_mul _ _ _ _ _ _ (@snd_osCons _ _ _ _ _ _ _ _ (@snd_oVar _ _ _ _ rfl (by decide +kernel) (by decide +kernel)) (@snd_osCons _ _ _ _ _ _ _ _ (@snd_oVar _ _ _ _ rfl (by decide +kernel) (by decide +kernel)) (@snd_osNil _) rfl) rfl))) (@snd_osCons _ _ _ _ _ _ _ _ (@snd_oOf _ _ _ _ (@e_mul _ _ _ _ _ _ (@snd_osCons _ _ _ _ _ _ _ _ (@snd_oOf _ _ _ _ (@snd_lit _ _ _ _ _ rfl)) (@snd_osCons _ _ _ _ _ _ _ _ (@snd_oVar _ _ _ _ rfl (by decide +kernel) (by decide +kernel)) (@snd_osNil _) rfl) rfl))) (@snd_osNil _) rfl) rfl))) (@snd_osCons _ _ _ _ _ _ _ _ (@snd_oOf _ _ _ _ (@snd_lit _ _ _ _ _ rfl)) (@snd_osNil _) rfl) rfl))) (@snd_osCons _ _ _ _ _ _ _ _ (@snd_oOf _ _ _ _ (@snd_lit _ _ _ _ _ rfl)) (@snd_osNil _) rfl) rfl))))))
theorem s__law_box : SndSs c__law_box (defBody (topS 37)) b__law_box := @snd_cons _ _ _ _ _ (@snd_set _ _ _ _ _ _ _ _ rfl (by decide +kernel) (by decide +kernel) (@snd_call _ _ _ _ _ _ _ _ (by decide +kernel) (@snd_asVar _ _ _ _ _ _ rfl (by decide +kernel) (by decide +kernel) (@snd_asVar _ _ _ _ _ _ rfl (by decide +kernel) (by decide +kernel) (@snd_asNil _))) rfl (by decide +kernel) (by decide +kernel)) rfl)
  (@snd_cons _ _ _ _ _ (@snd_if _ _ _ _ _ _ _ _ _ (@t_eq _ _ _ _ _ _ (@snd_osCons _ _ _ _ _ _ _ _ (@snd_oOf _ _ _ _ (@e_mod _ _ _ _ _ _ (@snd_osCons _ _ _ _ _ _ _ _ (@snd_oVar _ _ _ _ rfl (by decide +kernel) (by decide +kernel)) (@snd_osCons _ _ _ _ _ _ _ _ (@snd_oOf _ _ _ _ (@snd_lit _ _ _ _ _ rfl)) (@snd_osNil _) rfl) rfl))) (@snd_osCons _ _ _ _ _ _ _ _ (@snd_oOf _ _ _ _ (@snd_lit _ _ _ _ _ rfl)) (@snd_osNil _) rfl) rfl) rfl)
  (@snd_one' _ _ _ (@snd_ret _ _ _ _ _ (@snd_lst _ _ _ _ _ (@snd_fsCons _ _ _ _ _ _ _ (@e_div _ _ _ _ _ _ (@snd_osCons _ _ _ _ _ _ _ _ (@snd_oOf _ _ _ _ (@e_abs _ _ _ _ _ _ _ (@snd_osCons _ _ _ _ _ _ _ _ (@snd_oVar _ _ _ _ rfl (by decide +kernel) (by decide +kernel)) (@snd_osNil _) rfl) rfl (by decide +kernel) (by decide +kernel))) (@snd_osCons _ _ _ _ _ _ _ _ (@snd_oOf _ _ _ _ (@snd_lit _ _ _ _ _ rfl)) (@snd_osNil _) rfl) rfl)) (@snd_fsNil _)) rfl)))
  (@snd_nil _))
  (@snd_cons _ _ _ _ _ (@snd_set _ _ _ _ _ _ _ _ rfl (by decide +kernel) (by decide +kernel) (@snd_lit _ _ _ _ _ rfl) rfl)
  (@snd_cons _ _ _ _ _ (@snd_for _ _ _ _ _ _ _ _ _ (@snd_iR1 _ _ _ _ _ _ _ _ (@snd_oOf _ _ _ _ (@snd_lit _ _ _ _ _ rfl)) rfl (by decide +kernel) (by decide +kernel)) (.nm rfl (by decide +kernel)) (by decide +kernel)
  (@snd_one' _ _ _ (@snd_set _ _ _ _ _ _ _ _ rfl (by decide +kernel) (by decide +kernel) (@e_add _ _ _ _ _ _ (@snd_osCons _ _ _ _ _ _ _ _ (@snd_oOf _ _ _ _ (@e_mul _ _ _ _ _ _ (@snd_osCons _ _ _ _ _ _ _ _ (@snd_oVar _ _ _ _ rfl (by decide +kernel) (by decide +kernel)) (@snd_osCons _ _ _ _ _ _ _ _ (@snd_oOf _ _ _ _ (@snd_lit _ _ _ _ _ rfl)) (@snd_osNil _) rfl) rfl))) (@snd_osCons _ _ _ _ _ _ _ _ (@snd_oOf _ _ _ _ (@snd_call _ _ _ _ _ _ _ _ (by decide +kernel) (@snd_asVar _ _ _ _ _ _ rfl (by decide +kernel) (by decide +kernel) (@snd_asVar _ _ _ _ _ _ rfl (by decide +kernel) (by decide +kernel) (@snd_asNil _))) rfl (by decide +kernel) (by decide +kernel))) (@snd_osNil _) rfl) rfl)) rfl)) rfl)
  (@snd_one' _ _ _ (@snd_ret _ _ _ _ _ (@snd_lst _ _ _ _ _ (@snd_fsCons _ _ _ _ _ _ _ (@snd_var _ _ _ _ rfl (by decide +kernel) (by decide +kernel)) (@snd_fsNil _)) rfl))))))
theorem s__law_take : SndSs c__law_take (defBody (topS 38)) b__law_take := @snd_cons _ _ _ _ _ (@snd_unp _ _ _ _ _ _ _ _ _ (.cons rfl (by decide +kernel) (.cons rfl (by decide +kernel) (.nil))) (by decide +kernel) (@e_dvm _ _ _ _ _ _ _ (@snd_osCons _ _ _ _ _ _ _ _ (@snd_oOf _ _ _ _ (@e_ix _ _ _ _ _ _ (@snd_osCons _ _ _ _ _ _ _ _ (@snd_oVar _ _ _ _ rfl (by decide +kernel) (by decide +kernel)) (@snd_osCons _ _ _ _ _ _ _ _ (@snd_oOf _ _ _ _ (@snd_lit _ _ _ _ _ rfl)) (@snd_osNil _) rfl) rfl) rfl)) (@snd_osCons _ _ _ _ _ _ _ _ (@snd_oVar _ _ _ _ rfl (by decide +kernel) (by decide +kernel)) (@snd_osNil _) rfl) rfl) rfl (by decide +kernel) (by decide +kernel)) rfl rfl)
  (@snd_cons _ _ _ _ _ (@snd_setIx _ _ _ _ _ _ _ _ _ _ _ _ _ rfl (by decide +kernel) (by decide +kernel) (@snd_var _ _ _ _ rfl (by decide +kernel) (by decide +kernel)) (@snd_oOf _ _ _ _ (@snd_lit _ _ _ _ _ rfl)) rfl rfl)
  (@snd_one' _ _ _ (@snd_retV _ _ _ _ _ rfl (by decide +kernel) (by decide +kernel) (by decide +kernel))))
theorem s__law_mixed_up : SndSs c__law_mixed_up (defBody (topS 39)) b__law_mixed_up := @snd_cons _ _ _ _ _ (@snd_set _ _ _ _ _ _ _ _ rfl (by decide +kernel) (by decide +kernel) (@e_listOf _ _ _ _ _ _ _ (@snd_osCons _ _ _ _ _ _ _ _ (@snd_oVar _ _ _ _ rfl (by decide +kernel) (by decide +kernel)) (@snd_osNil _) rfl) rfl (by decide +kernel) (by decide +kernel)) rfl)
  (@snd_cons _ _ _ _ _ (@snd_set _ _ _ _ _ _ _ _ rfl (by decide +kernel) (by decide +kernel) (@snd_lst _ _ _ _ _ (@snd_fsNil _) rfl) rfl)
  (@snd_cons _ _ _ _ _ (@snd_while _ _ _ _ _ _ _ (@t_ne _ _ _ _ _ _ (@snd_osCons _ _ _ _ _ _ _ _ (@snd_oVar _ _ _ _ rfl (by decide +kernel) (by decide +kernel)) (@snd_osCons _ _ _ _ _ _ _ _ (@snd_oOf _ _ _ _ (@snd_lst _ _ _ _ _ (@snd_fsNil _) rfl)) (@snd_osNil _) rfl) rfl) rfl)
  (@snd_one' _ _ _ (@snd_do _ _ _ _ _ (@u_append _ _ _ _ _ _ _ _ _ rfl (by decide +kernel) (by decide +kernel) (@snd_fsCons _ _ _ _ _ _ _ (@u_popAt _ _ _ _ _ _ _ _ _ rfl (by decide +kernel) (by decide +kernel) (@snd_fsCons _ _ _ _ _ _ _ (@snd_call _ _ _ _ _ _ _ _ (by decide +kernel) (@snd_asVar _ _ _ _ _ _ rfl (by decide +kernel) (by decide +kernel) (@snd_asExp _ _ _ _ _ _ (@e_len _ _ _ _ _ _ _ (@snd_osCons _ _ _ _ _ _ _ _ (@snd_oVar _ _ _ _ rfl (by decide +kernel) (by decide +kernel)) (@snd_osNil _) rfl) rfl (by decide +kernel) (by decide +kernel)) (@snd_asNil _))) rfl (by decide +kernel) (by decide +kernel)) (@snd_fsNil _)) rfl rfl) (@snd_fsNil _)) rfl rfl) rfl)))
  (@snd_one' _ _ _ (@snd_retV _ _ _ _ _ rfl (by decide +kernel) (by decide +kernel) (by decide +kernel)))))
theorem s__law_closed : SndSs c__law_closed (defBody (topS 40)) b__law_closed := @snd_cons _ _ _ _ _ (@snd_set _ _ _ _ _ _ _ _ rfl (by decide +kernel) (by decide +kernel) (@snd_sortSet _ _ _ _ _ _ _ _ _ (@snd_oVar _ _ _ _ rfl (by decide +kernel) (by decide +kernel)) rfl (by decide +kernel) (by decide +kernel) (by decide +kernel) (by decide +kernel)) rfl)
  (@snd_cons _ _ _ _ _ (@snd_set _ _ _ _ _ _ _ _ rfl (by decide +kernel) (by decide +kernel) (@e_neg _ _ _ _ _ (@snd_osCons _ _ _ _ _ _ _ _ (@snd_oOf _ _ _ _ (@snd_lit _ _ _ _ _ rfl)) (@snd_osNil _) rfl)) rfl)
  (@snd_cons _ _ _ _ _ (@snd_while _ _ _ _ _ _ _ (@t_ne _ _ _ _ _ _ (@snd_osCons _ _ _ _ _ _ _ _ (@snd_oVar _ _ _ _ rfl (by decide +kernel) (by decide +kernel)) (@snd_osCons _ _ _ _ _ _ _ _ (@snd_oOf _ _ _ _ (@e_len _ _ _ _ _ _ _ (@snd_osCons _ _ _ _ _ _ _ _ (@snd_oVar _ _ _ _ rfl (by decide +kernel) (by decide +kernel)) (@snd_osNil _) rfl) rfl (by decide +kernel) (by decide +kernel))) (@snd_osNil _) rfl) rfl) rfl)
  (@snd_cons _ _ _ _ _ (@snd_set _ _ _ _ _ _ _ _ rfl (by decide +kernel) (by decide +kernel) (@e_len _ _ _ _ _ _ _ (@snd_osCons _ _ _ _ _ _ _ _ (@snd_oVar _ _ _ _ rfl (by decide +kernel) (by decide +kernel)) (@snd_osNil _) rfl) rfl (by decide +kernel) (by decide +kernel)) rfl)
  (@snd_cons _ _ _ _ _ (@snd_set _ _ _ _ _ _ _ _ rfl (by decide +kernel) (by decide +kernel) (@snd_lst _ _ _ _ _ (@snd_fsNil _) rfl) rfl)
  (@snd_cons _ _ _ _ _ (@snd_for _ _ _ _ _ _ _ _ _ (@snd_iSeq _ _ _ _ _ _ (@snd_oOf _ _ _ _ (@snd_var _ _ _ _ rfl (by decide +kernel) (by decide +kernel)))) (.tp (.cons rfl (by decide +kernel) (.cons rfl (by decide +kernel) (.nil)))) (by decide +kernel)
  (@snd_one' _ _ _ (@snd_set _ _ _ _ _ _ _ _ rfl (by decide +kernel) (by decide +kernel) (@e_add _ _ _ _ _ _ (@snd_osCons _ _ _ _ _ _ _ _ (@snd_oVar _ _ _ _ rfl (by decide +kernel) (by decide +kernel)) (@snd_osCons _ _ _ _ _ _ _ _ (@snd_oOf _ _ _ _ (@snd_lc _ _ _ _ _ _ [("c", 6), ("d", 7)] _ _ _ _ _ _ _ _ (@snd_iSeq _ _ _ _ _ _ (@snd_oOf _ _ _ _ (@snd_var _ _ _ _ rfl (by decide +kernel) (by decide +kernel)))) (.tp (.cons rfl (by decide +kernel) (.cons rfl (by decide +kernel) (.nil)))) rfl (by decide +kernel) (.one (@t_eq _ _ _ _ _ _ (@snd_osCons _ _ _ _ _ _ _ _ (@snd_oVar _ _ _ _ rfl (by decide +kernel) (by decide +kernel)) (@snd_osCons _ _ _ _ _ _ _ _ (@snd_oVar _ _ _ _ rfl (by decide +kernel) (by decide +kernel)) (@snd_osNil _) rfl) rfl) rfl)) (@snd_tup _ _ _ _ _ _ (@snd_fsCons _ _ _ _ _ _ _ (@snd_var _ _ _ _ rfl (by decide +kernel) (by decide +kernel)) (@snd_fsCons _ _ _ _ _ _ _ (@snd_var _ _ _ _ rfl (by decide +kernel) (by decide +kernel)) (@snd_fsNil _))) rfl) rfl)) (@snd_osNil _) rfl) rfl)) rfl)) rfl)
  (@snd_one' _ _ _ (@snd_set _ _ _ _ _ _ _ _ rfl (by decide +kernel) (by decide +kernel) (@snd_sortSet _ _ _ _ _ _ _ _ _ (@snd_oOf _ _ _ _ (@e_add _ _ _ _ _ _ (@snd_osCons _ _ _ _ _ _ _ _ (@snd_oVar _ _ _ _ rfl (by decide +kernel) (by decide +kernel)) (@snd_osCons _ _ _ _ _ _ _ _ (@snd_oVar _ _ _ _ rfl (by decide +kernel) (by decide +kernel)) (@snd_osNil _) rfl) rfl))) rfl (by decide +kernel) (by decide +kernel) (by decide +kernel) (by decide +kernel)) rfl))))))
  (@snd_one' _ _ _ (@snd_ret _ _ _ _ _ (@e_tupOf _ _ _ _ _ _ _ (@snd_osCons _ _ _ _ _ _ _ _ (@snd_oVar _ _ _ _ rfl (by decide +kernel) (by decide +kernel)) (@snd_osNil _) rfl) rfl (by decide +kernel) (by decide +kernel))))))
theorem s__law_order : SndSs c__law_order (defBody (topS 41)) b__law_order := @snd_cons _ _ _ _ _ (@snd_set _ _ _ _ _ _ _ _ rfl (by decide +kernel) (by decide +kernel) (@e_add _ _ _ _ _ _ (@snd_osCons _ _ _ _ _ _ _ _ (@snd_oOf _ _ _ _ (@snd_lit _ _ _ _ _ rfl)) (@snd_osCons _ _ _ _ _ _ _ _ (@snd_oOf _ _ _ _ (@snd_call _ _ _ _ _ _ _ _ (by decide +kernel) (@snd_asVar _ _ _ _ _ _ rfl (by decide +kernel) (by decide +kernel) (@snd_asVar _ _ _ _ _ _ rfl (by decide +kernel) (by decide +kernel) (@snd_asNil _))) rfl (by decide +kernel) (by decide +kernel))) (@snd_osNil _) rfl) rfl)) rfl)
  (@snd_cons _ _ _ _ _ (@snd_set _ _ _ _ _ _ _ _ rfl (by decide +kernel) (by decide +kernel) (@snd_call _ _ _ _ _ _ _ _ (by decide +kernel) (@snd_asVar _ _ _ _ _ _ rfl (by decide +kernel) (by decide +kernel) (@snd_asExp _ _ _ _ _ _ (@snd_listR1 _ _ _ _ _ _ _ _ _ (@snd_oVar _ _ _ _ rfl (by decide +kernel) (by decide +kernel)) rfl (by decide +kernel) (by decide +kernel) (by decide +kernel) (by decide +kernel)) (@snd_asNil _))) rfl (by decide +kernel) (by decide +kernel)) rfl)
  (@snd_cons _ _ _ _ _ (@snd_set _ _ _ _ _ _ _ _ rfl (by decide +kernel) (by decide +kernel) (@e_ix _ _ _ _ _ _ (@snd_osCons _ _ _ _ _ _ _ _ (@snd_oOf _ _ _ _ (@snd_lst _ _ _ _ _ (@snd_fsCons _ _ _ _ _ _ _ (@snd_lit _ _ _ _ _ rfl) (@snd_fsCons _ _ _ _ _ _ _ (@snd_lit _ _ _ _ _ rfl) (@snd_fsCons _ _ _ _ _ _ _ (@snd_lit _ _ _ _ _ rfl) (@snd_fsCons _ _ _ _ _ _ _ (@snd_lit _ _ _ _ _ rfl) (@snd_fsNil _))))) rfl)) (@snd_osCons _ _ _ _ _ _ _ _ (@snd_oOf _ _ _ _ (@snd_call _ _ _ _ _ _ _ _ (by decide +kernel) (@snd_asVar _ _ _ _ _ _ rfl (by decide +kernel) (by decide +kernel) (@snd_asExp _ _ _ _ _ _ (@snd_lit _ _ _ _ _ rfl) (@snd_asNil _))) rfl (by decide +kernel) (by decide +kernel))) (@snd_osNil _) rfl) rfl) rfl) rfl)
  (@snd_cons _ _ _ _ _ (@snd_set _ _ _ _ _ _ _ _ rfl (by decide +kernel) (by decide +kernel) (@snd_lst _ _ _ _ _ (@snd_fsNil _) rfl) rfl)
  (@snd_cons _ _ _ _ _ (@snd_for _ _ _ _ _ _ _ _ _ (@snd_iR1 _ _ _ _ _ _ _ _ (@snd_oVar _ _ _ _ rfl (by decide +kernel) (by decide +kernel)) rfl (by decide +kernel) (by decide +kernel)) (.nm rfl (by decide +kernel)) (by decide +kernel)
  (@snd_one' _ _ _ (@snd_for _ _ _ _ _ _ _ _ _ (@snd_iR2 _ _ _ _ _ _ _ _ _ _ _ _ (@snd_oOf _ _ _ _ (@e_add _ _ _ _ _ _ (@snd_osCons _ _ _ _ _ _ _ _ (@snd_oVar _ _ _ _ rfl (by decide +kernel) (by decide +kernel)) (@snd_osCons _ _ _ _ _ _ _ _ (@snd_oOf _ _ _ _ (@snd_lit _ _ _ _ _ rfl)) (@snd_osNil _) rfl) rfl))) (@snd_oVar _ _ _ _ rfl (by decide +kernel) (by decide +kernel)) rfl rfl (by decide +kernel) (by decide +kernel)) (.nm rfl (by decide +kernel)) (by decide +kernel)
  (@snd_one' _ _ _ (@snd_if _ _ _ _ _ _ _ _ _ (@t_eq _ _ _ _ _ _ (@snd_osCons _ _ _ _ _ _ _ _ (@snd_oOf _ _ _ _ (@snd_call _ _ _ _ _ _ _ _ (by decide +kernel) (@snd_asVar _ _ _ _ _ _ rfl (by decide +kernel) (by decide +kernel) (@snd_asVar _ _ _ _ _ _ rfl (by decide +kernel) (by decide +kernel) (@snd_asNil _))) rfl (by decide +kernel) (by decide +kernel))) (@snd_osCons _ _ _ _ _ _ _ _ (@snd_oOf _ _ _ _ (@snd_lit _ _ _ _ _ rfl)) (@snd_osNil _) rfl) rfl) rfl)
  (@snd_one' _ _ _ (@snd_do _ _ _ _ _ (@u_append _ _ _ _ _ _ _ _ _ rfl (by decide +kernel) (by decide +kernel) (@snd_fsCons _ _ _ _ _ _ _ (@snd_tup _ _ _ _ _ _ (@snd_fsCons _ _ _ _ _ _ _ (@e_ix _ _ _ _ _ _ (@snd_osCons _ _ _ _ _ _ _ _ (@snd_oVar _ _ _ _ rfl (by decide +kernel) (by decide +kernel)) (@snd_osCons _ _ _ _ _ _ _ _ (@snd_oVar _ _ _ _ rfl (by decide +kernel) (by decide +kernel)) (@snd_osNil _) rfl) rfl) rfl) (@snd_fsCons _ _ _ _ _ _ _ (@e_ix _ _ _ _ _ _ (@snd_osCons _ _ _ _ _ _ _ _ (@snd_oVar _ _ _ _ rfl (by decide +kernel) (by decide +kernel)) (@snd_osCons _ _ _ _ _ _ _ _ (@snd_oVar _ _ _ _ rfl (by decide +kernel) (by decide +kernel)) (@snd_osNil _) rfl) rfl) rfl) (@snd_fsNil _))) rfl) (@snd_fsNil _)) rfl rfl) rfl))
  (@snd_nil _))) rfl)) rfl)
  (@snd_one' _ _ _ (@snd_ret _ _ _ _ _ (@snd_tup _ _ _ _ _ _ (@snd_fsCons _ _ _ _ _ _ _ (@snd_var _ _ _ _ rfl (by decide +kernel) (by decide +kernel)) (@snd_fsCons _ _ _ _ _ _ _ (@snd_call _ _ _ _ _ _ _ _ (by decide +kernel) (@snd_asVar _ _ _ _ _ _ rfl (by decide +kernel) (by decide +kernel) (@snd_asNil _)) rfl (by decide +kernel) (by decide +kernel)) (@snd_fsNil _))) rfl)))))))
theorem s_law : SndSs c_law (defBody (topS 42)) b_law := @snd_cons _ _ _ _ _ (@snd_for _ _ _ _ _ _ _ _ _ (@snd_iR1 _ _ _ _ _ _ _ _ (@snd_oOf _ _ _ _ (@e_max _ _ _ _ _ _ _ (@snd_osCons _ _ _ _ _ _ _ _ (@snd_oOf _ _ _ _ (@snd_lit _ _ _ _ _ rfl)) (@snd_osCons _ _ _ _ _ _ _ _ (@snd_oOf _ _ _ _ (@e_min _ _ _ _ _ _ _ (@snd_osCons _ _ _ _ _ _ _ _ (@snd_oOf _ _ _ _ (@snd_scrLen _ _ _ _ _ _ rfl (by decide +kernel) (by decide +kernel) (by decide +kernel) (by decide +kernel))) (@snd_osCons _ _ _ _ _ _ _ _ (@snd_oOf _ _ _ _ (@snd_lit _ _ _ _ _ rfl)) (@snd_osNil _) rfl) rfl) rfl (by decide +kernel) (by decide +kernel))) (@snd_osNil _) rfl) rfl) rfl (by decide +kernel) (by decide +kernel))) rfl (by decide +kernel) (by decide +kernel)) (.nm rfl (by decide +kernel)) (by decide +kernel)
  (@snd_cons _ _ _ _ _ (@snd_set _ _ _ _ _ _ _ _ rfl (by decide +kernel) (by decide +kernel) (@snd_call _ _ _ _ _ _ _ _ (by decide +kernel) (@snd_asVar _ _ _ _ _ _ rfl (by decide +kernel) (by decide +kernel) (@snd_asVar _ _ _ _ _ _ rfl (by decide +kernel) (by decide +kernel) (@snd_asNil _))) rfl (by decide +kernel) (by decide +kernel)) rfl)
  (@snd_cons _ _ _ _ _ (@snd_set _ _ _ _ _ _ _ _ rfl (by decide +kernel) (by decide +kernel) (@snd_call _ _ _ _ _ _ _ _ (by decide +kernel) (@snd_asVar _ _ _ _ _ _ rfl (by decide +kernel) (by decide +kernel) (@snd_asExp _ _ _ _ _ _ (@snd_lit _ _ _ _ _ rfl) (@snd_asNil _))) rfl (by decide +kernel) (by decide +kernel)) rfl)
  (@snd_cons _ _ _ _ _ (@snd_setC _ _ _ _ _ _ _ _ _ _ _ rfl (by decide +kernel) (by decide +kernel) (@snd_lc _ _ _ _ _ _ [("number", 13)] _ _ _ _ _ _ _ _ (@snd_iR1 _ _ _ _ _ _ _ _ (@snd_oOf _ _ _ _ (@snd_call _ _ _ _ _ _ _ _ (by decide +kernel) (@snd_asVar _ _ _ _ _ _ rfl (by decide +kernel) (by decide +kernel) (@snd_asNil _)) rfl (by decide +kernel) (by decide +kernel))) rfl (by decide +kernel) (by decide +kernel)) (.nm rfl (by decide +kernel)) rfl (by decide +kernel) (.no) (@snd_call _ _ _ _ _ _ _ _ (by decide +kernel) (@snd_asVar _ _ _ _ _ _ rfl (by decide +kernel) (by decide +kernel) (@snd_asVar _ _ _ _ _ _ rfl (by decide +kernel) (by decide +kernel) (@snd_asNil _))) rfl (by decide +kernel) (by decide +kernel)) rfl))
  (@snd_cons _ _ _ _ _ (@snd_if _ _ _ _ _ _ _ _ _ (@snd_orT _ _ _ _ _ _ _ _ _ (@t_isNB _ _ _ _ _ _ (@snd_osCons _ _ _ _ _ _ _ _ (@snd_oOf _ _ _ _ (@snd_call _ _ _ _ _ _ _ _ (by decide +kernel) (@snd_asVar _ _ _ _ _ _ rfl (by decide +kernel) (by decide +kernel) (@snd_asVar _ _ _ _ _ _ rfl (by decide +kernel) (by decide +kernel) (@snd_asNil _))) rfl (by decide +kernel) (by decide +kernel))) (@snd_osCons _ _ _ _ _ _ _ _ (@snd_oOf _ _ _ _ (@snd_lit _ _ _ _ _ rfl)) (@snd_osNil _) rfl) rfl) rfl) (@snd_oneT _ _ _ _ _ _ (@t_ne _ _ _ _ _ _ (@snd_osCons _ _ _ _ _ _ _ _ (@snd_oVar _ _ _ _ rfl (by decide +kernel) (by decide +kernel)) (@snd_osCons _ _ _ _ _ _ _ _ (@snd_oOf _ _ _ _ (@e_sortS _ _ _ _ _ _ _ (@snd_osCons _ _ _ _ _ _ _ _ (@snd_oVar _ _ _ _ rfl (by decide +kernel) (by decide +kernel)) (@snd_osNil _) rfl) rfl (by decide +kernel) (by decide +kernel))) (@snd_osNil _) rfl) rfl) rfl)))
  (@snd_one' _ _ _ (@snd_ret _ _ _ _ _ (@snd_lit _ _ _ _ _ rfl)))
  (@snd_nil _))
  (@snd_one' _ _ _ (@snd_for _ _ _ _ _ _ _ _ _ (@snd_iR1 _ _ _ _ _ _ _ _ (@snd_oOf _ _ _ _ (@snd_lit _ _ _ _ _ rfl)) rfl (by decide +kernel) (by decide +kernel)) (.nm rfl (by decide +kernel)) (by decide +kernel)
  (@snd_cons _ _ _ _ _ (@snd_set _ _ _ _ _ _ _ _ rfl (by decide +kernel) (by decide +kernel) (@e_add _ _ _ _ _ _ (@snd_osCons _ _ _ _ _ _ _ _ (@snd_oOf _ _ _ _ (@snd_lit _ _ _ _ _ rfl)) (@snd_osCons _ _ _ _ _ _ _ _ (@snd_oOf _ _ _ _ (@snd_call _ _ _ _ _ _ _ _ (by decide +kernel) (@snd_asVar _ _ _ _ _ _ rfl (by decide +kernel) (by decide +kernel) (@snd_asExp _ _ _ _ _ _ (@snd_lit _ _ _ _ _ rfl) (@snd_asNil _))) rfl (by decide +kernel) (by decide +kernel))) (@snd_osNil _) rfl) rfl)) rfl)
  (@snd_cons _ _ _ _ _ (@snd_setLc _ _ _ _ _ _ [("some", 14)] _ _ _ _ _ _ _ _ _ _ _ _ rfl (by decide +kernel) (by decide +kernel) (by decide +kernel) (by decide +kernel) (@snd_iR1 _ _ _ _ _ _ _ _ (@snd_oVar _ _ _ _ rfl (by decide +kernel) (by decide +kernel)) rfl (by decide +kernel) (by decide +kernel)) (.nm rfl (by decide +kernel)) rfl (by decide +kernel) (.no) (@e_ix _ _ _ _ _ _ (@snd_osCons _ _ _ _ _ _ _ _ (@snd_oOf _ _ _ _ (@snd_var _ _ _ _ rfl (by decide +kernel) (by decide +kernel))) (@snd_osCons _ _ _ _ _ _ _ _ (@snd_oOf _ _ _ _ (@snd_call _ _ _ _ _ _ _ _ (by decide +kernel) (@snd_asVar _ _ _ _ _ _ rfl (by decide +kernel) (by decide +kernel) (@snd_asExp _ _ _ _ _ _ (@e_len _ _ _ _ _ _ _ (@snd_osCons _ _ _ _ _ _ _ _ (@snd_oVar _ _ _ _ rfl (by decide +kernel) (by decide +kernel)) (@snd_osNil _) rfl) rfl (by decide +kernel) (by decide +kernel)) (@snd_asNil _))) rfl (by decide +kernel) (by decide +kernel))) (@snd_osNil _) rfl) rfl) rfl) rfl)
  (@snd_cons _ _ _ _ _ (@snd_set _ _ _ _ _ _ _ _ rfl (by decide +kernel) (by decide +kernel) (@snd_call _ _ _ _ _ _ _ _ (by decide +kernel) (@snd_asVar _ _ _ _ _ _ rfl (by decide +kernel) (by decide +kernel) (@snd_asVar _ _ _ _ _ _ rfl (by decide +kernel) (by decide +kernel) (@snd_asNil _))) rfl (by decide +kernel) (by decide +kernel)) rfl)
  (@snd_cons _ _ _ _ _ (@snd_set _ _ _ _ _ _ _ _ rfl (by decide +kernel) (by decide +kernel) (@snd_call _ _ _ _ _ _ _ _ (by decide +kernel) (@snd_asExp _ _ _ _ _ _ (@e_ix _ _ _ _ _ _ (@snd_osCons _ _ _ _ _ _ _ _ (@snd_oVar _ _ _ _ rfl (by decide +kernel) (by decide +kernel)) (@snd_osCons _ _ _ _ _ _ _ _ (@snd_oOf _ _ _ _ (@snd_lit _ _ _ _ _ rfl)) (@snd_osNil _) rfl) rfl) rfl) (@snd_asVar _ _ _ _ _ _ rfl (by decide +kernel) (by decide +kernel) (@snd_asNil _))) rfl (by decide +kernel) (by decide +kernel)) rfl)
  (@snd_cons _ _ _ _ _ (@snd_if _ _ _ _ _ _ _ _ _ (@snd_orT _ _ _ _ _ _ _ _ _ (@t_ne _ _ _ _ _ _ (@snd_osCons _ _ _ _ _ _ _ _ (@snd_oOf _ _ _ _ (@e_is _ _ _ _ _ _ (@snd_osCons _ _ _ _ _ _ _ _ (@snd_oVar _ _ _ _ rfl (by decide +kernel) (by decide +kernel)) (@snd_osCons _ _ _ _ _ _ _ _ (@snd_oOf _ _ _ _ (@snd_lit _ _ _ _ _ rfl)) (@snd_osNil _) rfl) rfl) rfl)) (@snd_osCons _ _ _ _ _ _ _ _ (@snd_oOf _ _ _ _ (@e_eq _ _ _ _ _ _ (@snd_osCons _ _ _ _ _ _ _ _ (@snd_oVar _ _ _ _ rfl (by decide +kernel) (by decide +kernel)) (@snd_osCons _ _ _ _ _ _ _ _ (@snd_oVar _ _ _ _ rfl (by decide +kernel) (by decide +kernel)) (@snd_osNil _) rfl) rfl) rfl)) (@snd_osNil _) rfl) rfl) rfl) (@snd_oneT _ _ _ _ _ _ (@t_ne _ _ _ _ _ _ (@snd_osCons _ _ _ _ _ _ _ _ (@snd_oOf _ _ _ _ (@snd_call _ _ _ _ _ _ _ _ (by decide +kernel) (@snd_asVar _ _ _ _ _ _ rfl (by decide +kernel) (by decide +kernel) (@snd_asVar _ _ _ _ _ _ rfl (by decide +kernel) (by decide +kernel) (@snd_asNil _))) rfl (by decide +kernel) (by decide +kernel))) (@snd_osCons _ _ _ _ _ _ _ _ (@snd_oOf _ _ _ _ (@e_is _ _ _ _ _ _ (@snd_osCons _ _ _ _ _ _ _ _ (@snd_oVar _ _ _ _ rfl (by decide +kernel) (by decide +kernel)) (@snd_osCons _ _ _ _ _ _ _ _ (@snd_oOf _ _ _ _ (@snd_lit _ _ _ _ _ rfl)) (@snd_osNil _) rfl) rfl) rfl)) (@snd_osNil _) rfl) rfl) rfl)))
  (@snd_one' _ _ _ (@snd_ret _ _ _ _ _ (@snd_lit _ _ _ _ _ rfl)))
  (@snd_nil _))
  (@snd_cons _ _ _ _ _ (@snd_if _ _ _ _ _ _ _ _ _ (@t_ne _ _ _ _ _ _ (@snd_osCons _ _ _ _ _ _ _ _ (@snd_oOf _ _ _ _ (@snd_lc _ _ _ _ _ _ [("pair", 16)] _ _ _ _ _ _ _ _ (@snd_iSeq _ _ _ _ _ _ (@snd_oOf _ _ _ _ (@e_ix _ _ _ _ _ _ (@snd_osCons _ _ _ _ _ _ _ _ (@snd_oVar _ _ _ _ rfl (by decide +kernel) (by decide +kernel)) (@snd_osCons _ _ _ _ _ _ _ _ (@snd_oOf _ _ _ _ (@snd_lit _ _ _ _ _ rfl)) (@snd_osNil _) rfl) rfl) rfl))) (.nm rfl (by decide +kernel)) rfl (by decide +kernel) (.one (@t_nin _ _ _ _ _ _ (@snd_osCons _ _ _ _ _ _ _ _ (@snd_oVar _ _ _ _ rfl (by decide +kernel) (by decide +kernel)) (@snd_osCons _ _ _ _ _ _ _ _ (@snd_oOf _ _ _ _ (@e_ix _ _ _ _ _ _ (@snd_osCons _ _ _ _ _ _ _ _ (@snd_oVar _ _ _ _ rfl (by decide +kernel) (by decide +kernel)) (@snd_osCons _ _ _ _ _ _ _ _ (@snd_oOf _ _ _ _ (@snd_lit _ _ _ _ _ rfl)) (@snd_osNil _) rfl) rfl) rfl)) (@snd_osNil _) rfl) rfl) rfl)) (@snd_var _ _ _ _ rfl (by decide +kernel) (by decide +kernel)) rfl)) (@snd_osCons _ _ _ _ _ _ _ _ (@snd_oOf _ _ _ _ (@snd_lst _ _ _ _ _ (@snd_fsNil _) rfl)) (@snd_osNil _) rfl) rfl) rfl)
  (@snd_one' _ _ _ (@snd_ret _ _ _ _ _ (@snd_lit _ _ _ _ _ rfl)))
  (@snd_nil _))
  (@snd_cons _ _ _ _ _ (@snd_if _ _ _ _ _ _ _ _ _ (@snd_andT _ _ _ _ _ _ _ _ _ (@t_is _ _ _ _ _ _ (@snd_osCons _ _ _ _ _ _ _ _ (@snd_oVar _ _ _ _ rfl (by decide +kernel) (by decide +kernel)) (@snd_osCons _ _ _ _ _ _ _ _ (@snd_oOf _ _ _ _ (@snd_lit _ _ _ _ _ rfl)) (@snd_osNil _) rfl) rfl) rfl) (@snd_oneT _ _ _ _ _ _ (@snd_notT _ _ _ _ _ (@snd_plainT _ _ _ _ (@snd_call _ _ _ _ _ _ _ _ (by decide +kernel) (@snd_asExp _ _ _ _ _ _ (@e_add _ _ _ _ _ _ (@snd_osCons _ _ _ _ _ _ _ _ (@snd_oVar _ _ _ _ rfl (by decide +kernel) (by decide +kernel)) (@snd_osCons _ _ _ _ _ _ _ _ (@snd_oOf _ _ _ _ (@e_slc _ _ _ _ _ _ _ _ _ _ _ _ _ (@snd_oVar _ _ _ _ rfl (by decide +kernel) (by decide +kernel)) (snd_part0) (@snd_part1 _ _ _ _ _ (@snd_oOf _ _ _ _ (@snd_lit _ _ _ _ _ rfl))) rfl)) (@snd_osNil _) rfl) rfl)) (@snd_asVar _ _ _ _ _ _ rfl (by decide +kernel) (by decide +kernel) (@snd_asNil _))) rfl (by decide +kernel) (by decide +kernel)) rfl))))
  (@snd_one' _ _ _ (@snd_ret _ _ _ _ _ (@snd_lit _ _ _ _ _ rfl)))
  (@snd_nil _))
  (@snd_cons _ _ _ _ _ (@snd_if _ _ _ _ _ _ _ _ _ (@t_isnot _ _ _ _ _ _ (@snd_osCons _ _ _ _ _ _ _ _ (@snd_oVar _ _ _ _ rfl (by decide +kernel) (by decide +kernel)) (@snd_osCons _ _ _ _ _ _ _ _ (@snd_oOf _ _ _ _ (@snd_lit _ _ _ _ _ rfl)) (@snd_osNil _) rfl) rfl) rfl)
  (@snd_cons _ _ _ _ _ (@snd_unp _ _ _ _ _ _ _ _ _ (.cons rfl (by decide +kernel) (.cons rfl (by decide +kernel) (.nil))) (by decide +kernel) (@snd_var _ _ _ _ rfl (by decide +kernel) (by decide +kernel)) rfl rfl)
  (@snd_one' _ _ _ (@snd_if _ _ _ _ _ _ _ _ _ (@t_eq _ _ _ _ _ _ (@snd_osCons _ _ _ _ _ _ _ _ (@snd_oOf _ _ _ _ (@snd_lc _ _ _ _ _ _ [("row", 15)] _ _ _ _ _ _ _ _ (@snd_iSeq _ _ _ _ _ _ (@snd_oOf _ _ _ _ (@snd_var _ _ _ _ rfl (by decide +kernel) (by decide +kernel)))) (.nm rfl (by decide +kernel)) rfl (by decide +kernel) (.one (@t_lt _ _ _ _ _ _ (@snd_osCons _ _ _ _ _ _ _ _ (@snd_oOf _ _ _ _ (@e_tindex _ _ _ _ _ _ _ _ _ _ _ (@snd_oVar _ _ _ _ rfl (by decide +kernel) (by decide +kernel)) (@snd_osCons _ _ _ _ _ _ _ _ (@snd_oVar _ _ _ _ rfl (by decide +kernel) (by decide +kernel)) (@snd_osNil _) rfl) rfl rfl (by decide +kernel) rfl rfl)) (@snd_osCons _ _ _ _ _ _ _ _ (@snd_oOf _ _ _ _ (@e_tindex _ _ _ _ _ _ _ _ _ _ _ (@snd_oVar _ _ _ _ rfl (by decide +kernel) (by decide +kernel)) (@snd_osCons _ _ _ _ _ _ _ _ (@snd_oVar _ _ _ _ rfl (by decide +kernel) (by decide +kernel)) (@snd_osNil _) rfl) rfl rfl (by decide +kernel) rfl rfl)) (@snd_osNil _) rfl) rfl) rfl)) (@snd_var _ _ _ _ rfl (by decide +kernel) (by decide +kernel)) rfl)) (@snd_osCons _ _ _ _ _ _ _ _ (@snd_oOf _ _ _ _ (@snd_lst _ _ _ _ _ (@snd_fsNil _) rfl)) (@snd_osNil _) rfl) rfl) rfl)
  (@snd_one' _ _ _ (@snd_ret _ _ _ _ _ (@snd_lit _ _ _ _ _ rfl)))
  (@snd_nil _))))
  (@snd_nil _))
  (@snd_cons _ _ _ _ _ (@snd_setLc _ _ _ _ _ _ [("row", 15)] _ _ _ _ _ _ _ _ _ _ _ _ rfl (by decide +kernel) (by decide +kernel) (by decide +kernel) (by decide +kernel) (@snd_iSeq _ _ _ _ _ _ (@snd_oOf _ _ _ _ (@snd_var _ _ _ _ rfl (by decide +kernel) (by decide +kernel)))) (.nm rfl (by decide +kernel)) rfl (by decide +kernel) (.no) (@snd_revS _ _ _ _ _ _ _ _ _ _ (@snd_oVar _ _ _ _ rfl (by decide +kernel) (by decide +kernel))) rfl)
  (@snd_cons _ _ _ _ _ (@snd_if _ _ _ _ _ _ _ _ _ (@snd_orT _ _ _ _ _ _ _ _ _ (@t_ne _ _ _ _ _ _ (@snd_osCons _ _ _ _ _ _ _ _ (@snd_oOf _ _ _ _ (@snd_call _ _ _ _ _ _ _ _ (by decide +kernel) (@snd_asVar _ _ _ _ _ _ rfl (by decide +kernel) (by decide +kernel) (@snd_asExp _ _ _ _ _ _ (@snd_call _ _ _ _ _ _ _ _ (by decide +kernel) (@snd_asVar _ _ _ _ _ _ rfl (by decide +kernel) (by decide +kernel) (@snd_asNil _)) rfl (by decide +kernel) (by decide +kernel)) (@snd_asNil _))) rfl (by decide +kernel) (by decide +kernel))) (@snd_osCons _ _ _ _ _ _ _ _ (@snd_oOf _ _ _ _ (@e_is _ _ _ _ _ _ (@snd_osCons _ _ _ _ _ _ _ _ (@snd_oVar _ _ _ _ rfl (by decide +kernel) (by decide +kernel)) (@snd_osCons _ _ _ _ _ _ _ _ (@snd_oOf _ _ _ _ (@snd_lit _ _ _ _ _ rfl)) (@snd_osNil _) rfl) rfl) rfl)) (@snd_osNil _) rfl) rfl) rfl) (@snd_oneT _ _ _ _ _ _ (@snd_notT _ _ _ _ _ (@snd_plainT _ _ _ _ (@e_all _ _ _ _ _ _ _ (@snd_osCons _ _ _ _ _ _ _ _ (@snd_oOf _ _ _ _ (@snd_lc _ _ _ _ _ _ [("row", 15)] _ _ _ _ _ _ _ _ (@snd_iSeq _ _ _ _ _ _ (@snd_oOf _ _ _ _ (@snd_var _ _ _ _ rfl (by decide +kernel) (by decide +kernel)))) (.nm rfl (by decide +kernel)) rfl (by decide +kernel) (.no) (@snd_call _ _ _ _ _ _ _ _ (by decide +kernel) (@snd_asVar _ _ _ _ _ _ rfl (by decide +kernel) (by decide +kernel) (@snd_asExp _ _ _ _ _ _ (@snd_call _ _ _ _ _ _ _ _ (by decide +kernel) (@snd_asVar _ _ _ _ _ _ rfl (by decide +kernel) (by decide +kernel) (@snd_asNil _)) rfl (by decide +kernel) (by decide +kernel)) (@snd_asNil _))) rfl (by decide +kernel) (by decide +kernel)) rfl)) (@snd_osNil _) rfl) rfl (by decide +kernel) (by decide +kernel)) rfl))))
  (@snd_one' _ _ _ (@snd_ret _ _ _ _ _ (@snd_lit _ _ _ _ _ rfl)))
  (@snd_nil _))
  (@snd_one' _ _ _ (@snd_if _ _ _ _ _ _ _ _ _ (@t_ne _ _ _ _ _ _ (@snd_osCons _ _ _ _ _ _ _ _ (@snd_oOf _ _ _ _ (@snd_call _ _ _ _ _ _ _ _ (by decide +kernel) (@snd_asVar _ _ _ _ _ _ rfl (by decide +kernel) (by decide +kernel) (@snd_asExp _ _ _ _ _ _ (@e_ix _ _ _ _ _ _ (@snd_osCons _ _ _ _ _ _ _ _ (@snd_oVar _ _ _ _ rfl (by decide +kernel) (by decide +kernel)) (@snd_osCons _ _ _ _ _ _ _ _ (@snd_oOf _ _ _ _ (@snd_lit _ _ _ _ _ rfl)) (@snd_osNil _) rfl) rfl) rfl) (@snd_asNil _))) rfl (by decide +kernel) (by decide +kernel))) (@snd_osCons _ _ _ _ _ _ _ _ (@snd_oOf _ _ _ _ (@e_lindex _ _ _ _ _ _ _ _ _ _ _ (@snd_oVar _ _ _ _ rfl (by decide +kernel) (by decide +kernel)) (@snd_osCons _ _ _ _ _ _ _ _ (@snd_oOf _ _ _ _ (@e_ix _ _ _ _ _ _ (@snd_osCons _ _ _ _ _ _ _ _ (@snd_oVar _ _ _ _ rfl (by decide +kernel) (by decide +kernel)) (@snd_osCons _ _ _ _ _ _ _ _ (@snd_oOf _ _ _ _ (@snd_lit _ _ _ _ _ rfl)) (@snd_osNil _) rfl) rfl) rfl)) (@snd_osNil _) rfl) rfl rfl (by decide +kernel) rfl rfl)) (@snd_osNil _) rfl) rfl) rfl)
  (@snd_one' _ _ _ (@snd_ret _ _ _ _ _ (@snd_lit _ _ _ _ _ rfl)))
  (@snd_nil _))))))))))))) rfl)))))) rfl)
  (@snd_one' _ _ _ (@snd_ret _ _ _ _ _ (@snd_lit _ _ _ _ _ rfl)))
def d_is_whole : DefI := ⟨"is_whole", topS 9, ["thing"], ["thing"], b_is_whole⟩
theorem sc_is_whole : FnScope d_is_whole.N d_is_whole.ps (defScope (topS 9)) := ⟨rfl, rfl, rfl, by decide +kernel, rfl, by decide +kernel, by decide +kernel⟩
def d_is_many : DefI := ⟨"is_many", topS 10, ["thing"], ["thing"], b_is_many⟩
theorem sc_is_many : FnScope d_is_many.N d_is_many.ps (defScope (topS 10)) := ⟨rfl, rfl, rfl, by decide +kernel, rfl, by decide +kernel, by decide +kernel⟩
def d_is_pair : DefI := ⟨"is_pair", topS 11, ["many", "thing"], ["many", "thing", "one"], b_is_pair⟩
theorem sc_is_pair : FnScope d_is_pair.N d_is_pair.ps (defScope (topS 11)) := ⟨rfl, rfl, rfl, by decide +kernel, rfl, by decide +kernel, by decide +kernel⟩
def d_follows : DefI := ⟨"follows", topS 12, ["pairs"], ["pairs", "a", "b", "c", "d"], b_follows⟩
theorem sc_follows : FnScope d_follows.N d_follows.ps (defScope (topS 12)) := ⟨rfl, rfl, rfl, by decide +kernel, rfl, by decide +kernel, by decide +kernel⟩
def d_is_order : DefI := ⟨"is_order", topS 13, ["thing"], ["thing", "many", "pairs", "pair"], b_is_order⟩
theorem sc_is_order : FnScope d_is_order.N d_is_order.ps (defScope (topS 13)) := ⟨rfl, rfl, rfl, by decide +kernel, rfl, by decide +kernel, by decide +kernel⟩
def d_need_order : DefI := ⟨"need_order", topS 14, ["order"], ["order"], b_need_order⟩
theorem sc_need_order : FnScope d_need_order.N d_need_order.ps (defScope (topS 14)) := ⟨rfl, rfl, rfl, by decide +kernel, rfl, by decide +kernel, by decide +kernel⟩
def d_need_many : DefI := ⟨"need_many", topS 15, ["many"], ["many"], b_need_many⟩
theorem sc_need_many : FnScope d_need_many.N d_need_many.ps (defScope (topS 15)) := ⟨rfl, rfl, rfl, by decide +kernel, rfl, by decide +kernel, by decide +kernel⟩
def d_are_apart : DefI := ⟨"are_apart", topS 16, ["order", "a", "b"], ["order", "a", "b"], b_are_apart⟩
theorem sc_are_apart : FnScope d_are_apart.N d_are_apart.ps (defScope (topS 16)) := ⟨rfl, rfl, rfl, by decide +kernel, rfl, by decide +kernel, by decide +kernel⟩
def d_turned : DefI := ⟨"turned", topS 17, ["order"], ["order", "a", "b"], b_turned⟩
theorem sc_turned : FnScope d_turned.N d_turned.ps (defScope (topS 17)) := ⟨rfl, rfl, rfl, by decide +kernel, rfl, by decide +kernel, by decide +kernel⟩
def d_is_tuple_of_all : DefI := ⟨"is_tuple_of_all", topS 19, ["many", "thing"], ["many", "thing", "one"], b_is_tuple_of_all⟩
theorem sc_is_tuple_of_all : FnScope d_is_tuple_of_all.N d_is_tuple_of_all.ps (defScope (topS 19)) := ⟨rfl, rfl, rfl, by decide +kernel, rfl, by decide +kernel, by decide +kernel⟩
def d_stands_ahead : DefI := ⟨"stands_ahead", topS 20, ["row", "a", "b"], ["row", "a", "b"], b_stands_ahead⟩
theorem sc_stands_ahead : FnScope d_stands_ahead.N d_stands_ahead.ps (defScope (topS 20)) := ⟨rfl, rfl, rfl, by decide +kernel, rfl, by decide +kernel, by decide +kernel⟩
def d_is_row_of : DefI := ⟨"is_row_of", topS 21, ["thing", "order"], ["thing", "order", "a", "b"], b_is_row_of⟩
theorem sc_is_row_of : FnScope d_is_row_of.N d_is_row_of.ps (defScope (topS 21)) := ⟨rfl, rfl, rfl, by decide +kernel, rfl, by decide +kernel, by decide +kernel⟩
def d_is_row : DefI := ⟨"is_row", topS 22, ["thing", "order"], ["thing", "order"], b_is_row⟩
theorem sc_is_row : FnScope d_is_row.N d_is_row.ps (defScope (topS 22)) := ⟨rfl, rfl, rfl, by decide +kernel, rfl, by decide +kernel, by decide +kernel⟩
def d_next_things : DefI := ⟨"next_things", topS 23, ["order", "gone"], ["order", "gone", "free", "thing", "a", "b"], b_next_things⟩
theorem sc_next_things : FnScope d_next_things.N d_next_things.ps (defScope (topS 23)) := ⟨rfl, rfl, rfl, by decide +kernel, rfl, by decide +kernel, by decide +kernel⟩
def d_ways_from : DefI := ⟨"ways_from", topS 24, ["order", "gone", "known"], ["order", "gone", "known", "key", "thing"], b_ways_from⟩
theorem sc_ways_from : FnScope d_ways_from.N d_ways_from.ps (defScope (topS 24)) := ⟨rfl, rfl, rfl, by decide +kernel, rfl, by decide +kernel, by decide +kernel⟩
def d_rows_many : DefI := ⟨"rows_many", topS 25, ["order"], ["order"], b_rows_many⟩
theorem sc_rows_many : FnScope d_rows_many.N d_rows_many.ps (defScope (topS 25)) := ⟨rfl, rfl, rfl, by decide +kernel, rfl, by decide +kernel, by decide +kernel⟩
def d_nth_row : DefI := ⟨"nth_row", topS 26, ["order", "number"], ["order", "number", "known", "left", "row", "thing", "many"], b_nth_row⟩
theorem sc_nth_row : FnScope d_nth_row.N d_nth_row.ps (defScope (topS 26)) := ⟨rfl, rfl, rfl, by decide +kernel, rfl, by decide +kernel, by decide +kernel⟩
def d_rank_of : DefI := ⟨"rank_of", topS 27, ["order", "row"], ["order", "row", "known", "found", "place", "here", "gone", "lesser", "thing"], b_rank_of⟩
theorem sc_rank_of : FnScope d_rank_of.N d_rank_of.ps (defScope (topS 27)) := ⟨rfl, rfl, rfl, by decide +kernel, rfl, by decide +kernel, by decide +kernel⟩
def d_told_pairs : DefI := ⟨"told_pairs", topS 28, ["many", "rows"], ["many", "rows", "found", "a", "b", "row"], b_told_pairs⟩
theorem sc_told_pairs : FnScope d_told_pairs.N d_told_pairs.ps (defScope (topS 28)) := ⟨rfl, rfl, rfl, by decide +kernel, rfl, by decide +kernel, by decide +kernel⟩
def d_told_by : DefI := ⟨"told_by", topS 29, ["many", "rows"], ["many", "rows", "row"], b_told_by⟩
theorem sc_told_by : FnScope d_told_by.N d_told_by.ps (defScope (topS 29)) := ⟨rfl, rfl, rfl, by decide +kernel, rfl, by decide +kernel, by decide +kernel⟩
def d_are_rows : DefI := ⟨"are_rows", topS 30, ["thing", "order"], ["thing", "order", "row"], b_are_rows⟩
theorem sc_are_rows : FnScope d_are_rows.N d_are_rows.ps (defScope (topS 30)) := ⟨rfl, rfl, rfl, by decide +kernel, rfl, by decide +kernel, by decide +kernel⟩
def d_tell : DefI := ⟨"tell", topS 31, ["thing", "order"], ["thing", "order"], b_tell⟩
theorem sc_tell : FnScope d_tell.N d_tell.ps (defScope (topS 31)) := ⟨rfl, rfl, rfl, by decide +kernel, rfl, by decide +kernel, by decide +kernel⟩
def d_need_rows : DefI := ⟨"need_rows", topS 32, ["order", "rows"], ["order", "rows"], b_need_rows⟩
theorem sc_need_rows : FnScope d_need_rows.N d_need_rows.ps (defScope (topS 32)) := ⟨rfl, rfl, rfl, by decide +kernel, rfl, by decide +kernel, by decide +kernel⟩
def d_first_left : DefI := ⟨"first_left", topS 33, ["order", "rows"], ["order", "rows", "a", "b", "row"], b_first_left⟩
theorem sc_first_left : FnScope d_first_left.N d_first_left.ps (defScope (topS 33)) := ⟨rfl, rfl, rfl, by decide +kernel, rfl, by decide +kernel, by decide +kernel⟩
def d__law_cell : DefI := ⟨"_law_cell", topS 35, ["script", "k"], ["script", "k"], b__law_cell⟩
theorem sc__law_cell : FnScope d__law_cell.N d__law_cell.ps (defScope (topS 35)) := ⟨rfl, rfl, rfl, by decide +kernel, rfl, by decide +kernel, by decide +kernel⟩
def d__law_mix : DefI := ⟨"_law_mix", topS 36, ["cell", "k"], ["cell", "k", "some", "stir"], b__law_mix⟩
theorem sc__law_mix : FnScope d__law_mix.N d__law_mix.ps (defScope (topS 36)) := ⟨rfl, rfl, rfl, by decide +kernel, rfl, by decide +kernel, by decide +kernel⟩
def d__law_box : DefI := ⟨"_law_box", topS 37, ["script", "k"], ["script", "k", "cell", "number", "j"], b__law_box⟩
theorem sc__law_box : FnScope d__law_box.N d__law_box.ps (defScope (topS 37)) := ⟨rfl, rfl, rfl, by decide +kernel, rfl, by decide +kernel, by decide +kernel⟩
def d__law_take : DefI := ⟨"_law_take", topS 38, ["box", "many"], ["box", "many", "left", "digit"], b__law_take⟩
theorem sc__law_take : FnScope d__law_take.N d__law_take.ps (defScope (topS 38)) := ⟨rfl, rfl, rfl, by decide +kernel, rfl, by decide +kernel, by decide +kernel⟩
def d__law_mixed_up : DefI := ⟨"_law_mixed_up", topS 39, ["box", "some"], ["box", "some", "left", "found"], b__law_mixed_up⟩
theorem sc__law_mixed_up : FnScope d__law_mixed_up.N d__law_mixed_up.ps (defScope (topS 39)) := ⟨rfl, rfl, rfl, by decide +kernel, rfl, by decide +kernel, by decide +kernel⟩
def d__law_closed : DefI := ⟨"_law_closed", topS 40, ["pairs"], ["pairs", "found", "size", "more", "a", "b", "c", "d"], b__law_closed⟩
theorem sc__law_closed : FnScope d__law_closed.N d__law_closed.ps (defScope (topS 40)) := ⟨rfl, rfl, rfl, by decide +kernel, rfl, by decide +kernel, by decide +kernel⟩
def d__law_order : DefI := ⟨"_law_order", topS 41, ["box", "most"], ["box", "most", "many", "names", "thin", "pairs", "i", "j"], b__law_order⟩
theorem sc__law_order : FnScope d__law_order.N d__law_order.ps (defScope (topS 41)) := ⟨rfl, rfl, rfl, by decide +kernel, rfl, by decide +kernel, by decide +kernel⟩
def d_law : DefI := ⟨"law", topS 42, ["script"], ["script", "k", "box", "order", "all_rows", "turn", "many", "rows", "left", "other", "about", "a", "b", "number", "some", "row", "pair"], b_law⟩
theorem sc_law : FnScope d_law.N d_law.ps (defScope (topS 42)) := ⟨rfl, rfl, rfl, by decide +kernel, rfl, by decide +kernel, by decide +kernel⟩
def tx : Tx := ⟨[d_is_whole, d_is_many, d_is_pair, d_follows, d_is_order, d_need_order, d_need_many, d_are_apart, d_turned, d_is_tuple_of_all, d_stands_ahead, d_is_row_of, d_is_row, d_next_things, d_ways_from, d_rows_many, d_nth_row, d_rank_of, d_told_pairs, d_told_by, d_are_rows, d_tell, d_need_rows, d_first_left, d__law_cell, d__law_mix, d__law_box, d__law_take, d__law_mixed_up, d__law_closed, d__law_order, d_law], gis, gss, bls, exs⟩
theorem tx_ok : tx.Ok where
  sc := fun d hd => by
    simp only [tx, List.mem_cons, List.not_mem_nil, or_false] at hd
    rcases hd with rfl | rfl | rfl | rfl | rfl | rfl | rfl | rfl | rfl | rfl | rfl | rfl | rfl | rfl | rfl | rfl | rfl | rfl | rfl | rfl | rfl | rfl | rfl | rfl | rfl | rfl | rfl | rfl | rfl | rfl | rfl | rfl
    · exact @sc_is_whole
    · exact @sc_is_many
    · exact @sc_is_pair
    · exact @sc_follows
    · exact @sc_is_order
    · exact @sc_need_order
    · exact @sc_need_many
    · exact @sc_are_apart
    · exact @sc_turned
    · exact @sc_is_tuple_of_all
    · exact @sc_stands_ahead
    · exact @sc_is_row_of
    · exact @sc_is_row
    · exact @sc_next_things
    · exact @sc_ways_from
    · exact @sc_rows_many
    · exact @sc_nth_row
    · exact @sc_rank_of
    · exact @sc_told_pairs
    · exact @sc_told_by
    · exact @sc_are_rows
    · exact @sc_tell
    · exact @sc_need_rows
    · exact @sc_first_left
    · exact @sc__law_cell
    · exact @sc__law_mix
    · exact @sc__law_box
    · exact @sc__law_take
    · exact @sc__law_mixed_up
    · exact @sc__law_closed
    · exact @sc__law_order
    · exact @sc_law
  snd := fun d hd => by
    simp only [tx, List.mem_cons, List.not_mem_nil, or_false] at hd
    rcases hd with rfl | rfl | rfl | rfl | rfl | rfl | rfl | rfl | rfl | rfl | rfl | rfl | rfl | rfl | rfl | rfl | rfl | rfl | rfl | rfl | rfl | rfl | rfl | rfl | rfl | rfl | rfl | rfl | rfl | rfl | rfl | rfl
    · exact @s_is_whole
    · exact @s_is_many
    · exact @s_is_pair
    · exact @s_follows
    · exact @s_is_order
    · exact @s_need_order
    · exact @s_need_many
    · exact @s_are_apart
    · exact @s_turned
    · exact @s_is_tuple_of_all
    · exact @s_stands_ahead
    · exact @s_is_row_of
    · exact @s_is_row
    · exact @s_next_things
    · exact @s_ways_from
    · exact @s_rows_many
    · exact @s_nth_row
    · exact @s_rank_of
    · exact @s_told_pairs
    · exact @s_told_by
    · exact @s_are_rows
    · exact @s_tell
    · exact @s_need_rows
    · exact @s_first_left
    · exact @s__law_cell
    · exact @s__law_mix
    · exact @s__law_box
    · exact @s__law_take
    · exact @s__law_mixed_up
    · exact @s__law_closed
    · exact @s__law_order
    · exact @s_law
  uniq := fun d hd => by
    simp only [tx, List.mem_cons, List.not_mem_nil, or_false] at hd
    rcases hd with rfl | rfl | rfl | rfl | rfl | rfl | rfl | rfl | rfl | rfl | rfl | rfl | rfl | rfl | rfl | rfl | rfl | rfl | rfl | rfl | rfl | rfl | rfl | rfl | rfl | rfl | rfl | rfl | rfl | rfl | rfl | rfl
    · rfl
    · rfl
    · rfl
    · rfl
    · rfl
    · rfl
    · rfl
    · rfl
    · rfl
    · rfl
    · rfl
    · rfl
    · rfl
    · rfl
    · rfl
    · rfl
    · rfl
    · rfl
    · rfl
    · rfl
    · rfl
    · rfl
    · rfl
    · rfl
    · rfl
    · rfl
    · rfl
    · rfl
    · rfl
    · rfl
    · rfl
    · rfl
def kLaw (K : PySem.W.Frag) : Sp := fun vs H Q _ => ∃ (a : Addr) (ns : List Int), vs = [.ref a] ∧ SqL K H a (ns.map V.int) ∧ ns.length ≤ 63 ∧ ∀ H', Q (.bl true) H'
theorem same_fd {K : PySem.W.Frag} {x q : Str} {st : Stmt} {f : Addr} {fd fd' : FuncData} (a : Fun K x q st f fd) (b : Fun K x q st f fd') : fd = fd' := by
  obtain ⟨_, _, _, _, _, _, _, _, _, e1, l1, _⟩ := a.ex
  obtain ⟨_, _, _, _, _, _, _, _, _, e2, l2, _⟩ := b.ex
  rw [l1] at l2
  cases l2
  rfl
theorem all_mk {l : PySem.W.OpenLaw} {w : World} {K : PySem.W.Frag} {h : Heap} {mg : Str → Option Value} {fa f0 f1 f2 f3 f4 f5 f6 f7 f8 f9 f10 f11 f12 f13 f14 f15 f16 f17 f18 f19 f20 f21 f22 f23 f24 f25 f26 f27 f28 f29 f30 f31 : Addr} (X : K.In h) (G : h.Ns mainGlobals mg) (hfa : mg "law" = some (.ref fa))
    {od0 an0 od1 an1 od2 an2 od3 an3 od4 an4 od5 an5 od6 an6 od7 an7 od8 an8 od9 an9 od10 an10 od11 an11 od12 an12 od13 an13 od14 an14 od15 an15 od16 an16 od17 an17 od18 an18 od19 an19 od20 an20 od21 an21 od22 an22 od23 an23 od24 an24 od25 an25 od26 an26 od27 an27 od28 an28 od29 an29 od30 an30 od31 an31 : Option Addr} {sl0 sl1 sl2 sl3 sl4 sl5 sl6 sl7 sl8 sl9 sl10 sl11 sl12 sl13 sl14 sl15 sl16 sl17 sl18 sl19 sl20 sl21 sl22 sl23 sl24 sl25 sl26 sl27 sl28 sl29 sl30 sl31 : Array (Option Value)}
    {oc0 kV0 dc0 pm0 cd0 ct0 oc1 kV1 dc1 pm1 cd1 ct1 oc2 kV2 dc2 pm2 cd2 ct2 oc3 kV3 dc3 pm3 cd3 ct3 oc4 kV4 dc4 pm4 cd4 ct4 oc5 kV5 dc5 pm5 cd5 ct5 oc6 kV6 dc6 pm6 cd6 ct6 oc7 kV7 dc7 pm7 cd7 ct7 oc8 kV8 dc8 pm8 cd8 ct8 oc9 kV9 dc9 pm9 cd9 ct9 oc10 kV10 dc10 pm10 cd10 ct10 oc11 kV11 dc11 pm11 cd11 ct11 oc12 kV12 dc12 pm12 cd12 ct12 oc13 kV13 dc13 pm13 cd13 ct13 oc14 kV14 dc14 pm14 cd14 ct14 oc15 kV15 dc15 pm15 cd15 ct15 oc16 kV16 dc16 pm16 cd16 ct16 oc17 kV17 dc17 pm17 cd17 ct17 oc18 kV18 dc18 pm18 cd18 ct18 oc19 kV19 dc19 pm19 cd19 ct19 oc20 kV20 dc20 pm20 cd20 ct20 oc21 kV21 dc21 pm21 cd21 ct21 oc22 kV22 dc22 pm22 cd22 ct22 oc23 kV23 dc23 pm23 cd23 ct23 oc24 kV24 dc24 pm24 cd24 ct24 oc25 kV25 dc25 pm25 cd25 ct25 oc26 kV26 dc26 pm26 cd26 ct26 oc27 kV27 dc27 pm27 cd27 ct27 oc28 kV28 dc28 pm28 cd28 ct28 oc29 kV29 dc29 pm29 cd29 ct29 oc30 kV30 dc30 pm30 cd30 ct30 oc31 kV31 dc31 pm31 cd31 ct31 : Value}
    {t0 : Tok}
    (a0 : PySem.W.nsIn K mainGlobals "is_whole" = some (some (.ref f0))) (l0 : K.lookup f0 = some ⟨oc0, od0, .func (PySem.W.fnOf "is_whole" "is_whole" (defArgs (topS 9)) (defBody (topS 9)) (defScope (topS 9)) .none kV0 dc0 pm0 an0 cd0 ct0), sl0⟩) (c0 : PySem.W.codeIn K cd0 "is_whole" = true) (k0 : PySem.W.keepIn K (.ref f0) = true)
    (a1 : PySem.W.nsIn K mainGlobals "is_many" = some (some (.ref f1))) (l1 : K.lookup f1 = some ⟨oc1, od1, .func (PySem.W.fnOf "is_many" "is_many" (defArgs (topS 10)) (defBody (topS 10)) (defScope (topS 10)) .none kV1 dc1 pm1 an1 cd1 ct1), sl1⟩) (c1 : PySem.W.codeIn K cd1 "is_many" = true) (k1 : PySem.W.keepIn K (.ref f1) = true)
    (a2 : PySem.W.nsIn K mainGlobals "is_pair" = some (some (.ref f2))) (l2 : K.lookup f2 = some ⟨oc2, od2, .func (PySem.W.fnOf "is_pair" "is_pair" (defArgs (topS 11)) (defBody (topS 11)) (defScope (topS 11)) .none kV2 dc2 pm2 an2 cd2 ct2), sl2⟩) (c2 : PySem.W.codeIn K cd2 "is_pair" = true) (k2 : PySem.W.keepIn K (.ref f2) = true)
    (a3 : PySem.W.nsIn K mainGlobals "follows" = some (some (.ref f3))) (l3 : K.lookup f3 = some ⟨oc3, od3, .func (PySem.W.fnOf "follows" "follows" (defArgs (topS 12)) (defBody (topS 12)) (defScope (topS 12)) .none kV3 dc3 pm3 an3 cd3 ct3), sl3⟩) (c3 : PySem.W.codeIn K cd3 "follows" = true) (k3 : PySem.W.keepIn K (.ref f3) = true)
    (a4 : PySem.W.nsIn K mainGlobals "is_order" = some (some (.ref f4))) (l4 : K.lookup f4 = some ⟨oc4, od4, .func (PySem.W.fnOf "is_order" "is_order" (defArgs (topS 13)) (defBody (topS 13)) (defScope (topS 13)) .none kV4 dc4 pm4 an4 cd4 ct4), sl4⟩) (c4 : PySem.W.codeIn K cd4 "is_order" = true) (k4 : PySem.W.keepIn K (.ref f4) = true)
    (a5 : PySem.W.nsIn K mainGlobals "need_order" = some (some (.ref f5))) (l5 : K.lookup f5 = some ⟨oc5, od5, .func (PySem.W.fnOf "need_order" "need_order" (defArgs (topS 14)) (defBody (topS 14)) (defScope (topS 14)) .none kV5 dc5 pm5 an5 cd5 ct5), sl5⟩) (c5 : PySem.W.codeIn K cd5 "need_order" = true) (k5 : PySem.W.keepIn K (.ref f5) = true)
    (a6 : PySem.W.nsIn K mainGlobals "need_many" = some (some (.ref f6))) (l6 : K.lookup f6 = some ⟨oc6, od6, .func (PySem.W.fnOf "need_many" "need_many" (defArgs (topS 15)) (defBody (topS 15)) (defScope (topS 15)) .none kV6 dc6 pm6 an6 cd6 ct6), sl6⟩) (c6 : PySem.W.codeIn K cd6 "need_many" = true) (k6 : PySem.W.keepIn K (.ref f6) = true)
    (a7 : PySem.W.nsIn K mainGlobals "are_apart" = some (some (.ref f7))) (l7 : K.lookup f7 = some ⟨oc7, od7, .func (PySem.W.fnOf "are_apart" "are_apart" (defArgs (topS 16)) (defBody (topS 16)) (defScope (topS 16)) .none kV7 dc7 pm7 an7 cd7 ct7), sl7⟩) (c7 : PySem.W.codeIn K cd7 "are_apart" = true) (k7 : PySem.W.keepIn K (.ref f7) = true)
    (a8 : PySem.W.nsIn K mainGlobals "turned" = some (some (.ref f8))) (l8 : K.lookup f8 = some ⟨oc8, od8, .func (PySem.W.fnOf "turned" "turned" (defArgs (topS 17)) (defBody (topS 17)) (defScope (topS 17)) .none kV8 dc8 pm8 an8 cd8 ct8), sl8⟩) (c8 : PySem.W.codeIn K cd8 "turned" = true) (k8 : PySem.W.keepIn K (.ref f8) = true)
    (a9 : PySem.W.nsIn K mainGlobals "is_tuple_of_all" = some (some (.ref f9))) (l9 : K.lookup f9 = some ⟨oc9, od9, .func (PySem.W.fnOf "is_tuple_of_all" "is_tuple_of_all" (defArgs (topS 19)) (defBody (topS 19)) (defScope (topS 19)) .none kV9 dc9 pm9 an9 cd9 ct9), sl9⟩) (c9 : PySem.W.codeIn K cd9 "is_tuple_of_all" = true) (k9 : PySem.W.keepIn K (.ref f9) = true)
    (a10 : PySem.W.nsIn K mainGlobals "stands_ahead" = some (some (.ref f10))) (l10 : K.lookup f10 = some ⟨oc10, od10, .func (PySem.W.fnOf "stands_ahead" "stands_ahead" (defArgs (topS 20)) (defBody (topS 20)) (defScope (topS 20)) .none kV10 dc10 pm10 an10 cd10 ct10), sl10⟩) (c10 : PySem.W.codeIn K cd10 "stands_ahead" = true) (k10 : PySem.W.keepIn K (.ref f10) = true)
    (a11 : PySem.W.nsIn K mainGlobals "is_row_of" = some (some (.ref f11))) (l11 : K.lookup f11 = some ⟨oc11, od11, .func (PySem.W.fnOf "is_row_of" "is_row_of" (defArgs (topS 21)) (defBody (topS 21)) (defScope (topS 21)) .none kV11 dc11 pm11 an11 cd11 ct11), sl11⟩) (c11 : PySem.W.codeIn K cd11 "is_row_of" = true) (k11 : PySem.W.keepIn K (.ref f11) = true)
    (a12 : PySem.W.nsIn K mainGlobals "is_row" = some (some (.ref f12))) (l12 : K.lookup f12 = some ⟨oc12, od12, .func (PySem.W.fnOf "is_row" "is_row" (defArgs (topS 22)) (defBody (topS 22)) (defScope (topS 22)) .none kV12 dc12 pm12 an12 cd12 ct12), sl12⟩) (c12 : PySem.W.codeIn K cd12 "is_row" = true) (k12 : PySem.W.keepIn K (.ref f12) = true)
    (a13 : PySem.W.nsIn K mainGlobals "next_things" = some (some (.ref f13))) (l13 : K.lookup f13 = some ⟨oc13, od13, .func (PySem.W.fnOf "next_things" "next_things" (defArgs (topS 23)) (defBody (topS 23)) (defScope (topS 23)) .none kV13 dc13 pm13 an13 cd13 ct13), sl13⟩) (c13 : PySem.W.codeIn K cd13 "next_things" = true) (k13 : PySem.W.keepIn K (.ref f13) = true)
    (a14 : PySem.W.nsIn K mainGlobals "ways_from" = some (some (.ref f14))) (l14 : K.lookup f14 = some ⟨oc14, od14, .func (PySem.W.fnOf "ways_from" "ways_from" (defArgs (topS 24)) (defBody (topS 24)) (defScope (topS 24)) .none kV14 dc14 pm14 an14 cd14 ct14), sl14⟩) (c14 : PySem.W.codeIn K cd14 "ways_from" = true) (k14 : PySem.W.keepIn K (.ref f14) = true)
    (a15 : PySem.W.nsIn K mainGlobals "rows_many" = some (some (.ref f15))) (l15 : K.lookup f15 = some ⟨oc15, od15, .func (PySem.W.fnOf "rows_many" "rows_many" (defArgs (topS 25)) (defBody (topS 25)) (defScope (topS 25)) .none kV15 dc15 pm15 an15 cd15 ct15), sl15⟩) (c15 : PySem.W.codeIn K cd15 "rows_many" = true) (k15 : PySem.W.keepIn K (.ref f15) = true)
    (a16 : PySem.W.nsIn K mainGlobals "nth_row" = some (some (.ref f16))) (l16 : K.lookup f16 = some ⟨oc16, od16, .func (PySem.W.fnOf "nth_row" "nth_row" (defArgs (topS 26)) (defBody (topS 26)) (defScope (topS 26)) .none kV16 dc16 pm16 an16 cd16 ct16), sl16⟩) (c16 : PySem.W.codeIn K cd16 "nth_row" = true) (k16 : PySem.W.keepIn K (.ref f16) = true)
    (a17 : PySem.W.nsIn K mainGlobals "rank_of" = some (some (.ref f17))) (l17 : K.lookup f17 = some ⟨oc17, od17, .func (PySem.W.fnOf "rank_of" "rank_of" (defArgs (topS 27)) (defBody (topS 27)) (defScope (topS 27)) .none kV17 dc17 pm17 an17 cd17 ct17), sl17⟩) (c17 : PySem.W.codeIn K cd17 "rank_of" = true) (k17 : PySem.W.keepIn K (.ref f17) = true)
    (a18 : PySem.W.nsIn K mainGlobals "told_pairs" = some (some (.ref f18))) (l18 : K.lookup f18 = some ⟨oc18, od18, .func (PySem.W.fnOf "told_pairs" "told_pairs" (defArgs (topS 28)) (defBody (topS 28)) (defScope (topS 28)) .none kV18 dc18 pm18 an18 cd18 ct18), sl18⟩) (c18 : PySem.W.codeIn K cd18 "told_pairs" = true) (k18 : PySem.W.keepIn K (.ref f18) = true)
    (a19 : PySem.W.nsIn K mainGlobals "told_by" = some (some (.ref f19))) (l19 : K.lookup f19 = some ⟨oc19, od19, .func (PySem.W.fnOf "told_by" "told_by" (defArgs (topS 29)) (defBody (topS 29)) (defScope (topS 29)) .none kV19 dc19 pm19 an19 cd19 ct19), sl19⟩) (c19 : PySem.W.codeIn K cd19 "told_by" = true) (k19 : PySem.W.keepIn K (.ref f19) = true)
    (a20 : PySem.W.nsIn K mainGlobals "are_rows" = some (some (.ref f20))) (l20 : K.lookup f20 = some ⟨oc20, od20, .func (PySem.W.fnOf "are_rows" "are_rows" (defArgs (topS 30)) (defBody (topS 30)) (defScope (topS 30)) .none kV20 dc20 pm20 an20 cd20 ct20), sl20⟩) (c20 : PySem.W.codeIn K cd20 "are_rows" = true) (k20 : PySem.W.keepIn K (.ref f20) = true)
    (a21 : PySem.W.nsIn K mainGlobals "tell" = some (some (.ref f21))) (l21 : K.lookup f21 = some ⟨oc21, od21, .func (PySem.W.fnOf "tell" "tell" (defArgs (topS 31)) (defBody (topS 31)) (defScope (topS 31)) .none kV21 dc21 pm21 an21 cd21 ct21), sl21⟩) (c21 : PySem.W.codeIn K cd21 "tell" = true) (k21 : PySem.W.keepIn K (.ref f21) = true)
    (a22 : PySem.W.nsIn K mainGlobals "need_rows" = some (some (.ref f22))) (l22 : K.lookup f22 = some ⟨oc22, od22, .func (PySem.W.fnOf "need_rows" "need_rows" (defArgs (topS 32)) (defBody (topS 32)) (defScope (topS 32)) .none kV22 dc22 pm22 an22 cd22 ct22), sl22⟩) (c22 : PySem.W.codeIn K cd22 "need_rows" = true) (k22 : PySem.W.keepIn K (.ref f22) = true)
    (a23 : PySem.W.nsIn K mainGlobals "first_left" = some (some (.ref f23))) (l23 : K.lookup f23 = some ⟨oc23, od23, .func (PySem.W.fnOf "first_left" "first_left" (defArgs (topS 33)) (defBody (topS 33)) (defScope (topS 33)) .none kV23 dc23 pm23 an23 cd23 ct23), sl23⟩) (c23 : PySem.W.codeIn K cd23 "first_left" = true) (k23 : PySem.W.keepIn K (.ref f23) = true)
    (a24 : PySem.W.nsIn K mainGlobals "_law_cell" = some (some (.ref f24))) (l24 : K.lookup f24 = some ⟨oc24, od24, .func (PySem.W.fnOf "_law_cell" "_law_cell" (defArgs (topS 35)) (defBody (topS 35)) (defScope (topS 35)) .none kV24 dc24 pm24 an24 cd24 ct24), sl24⟩) (c24 : PySem.W.codeIn K cd24 "_law_cell" = true) (k24 : PySem.W.keepIn K (.ref f24) = true)
    (a25 : PySem.W.nsIn K mainGlobals "_law_mix" = some (some (.ref f25))) (l25 : K.lookup f25 = some ⟨oc25, od25, .func (PySem.W.fnOf "_law_mix" "_law_mix" (defArgs (topS 36)) (defBody (topS 36)) (defScope (topS 36)) .none kV25 dc25 pm25 an25 cd25 ct25), sl25⟩) (c25 : PySem.W.codeIn K cd25 "_law_mix" = true) (k25 : PySem.W.keepIn K (.ref f25) = true)
    (a26 : PySem.W.nsIn K mainGlobals "_law_box" = some (some (.ref f26))) (l26 : K.lookup f26 = some ⟨oc26, od26, .func (PySem.W.fnOf "_law_box" "_law_box" (defArgs (topS 37)) (defBody (topS 37)) (defScope (topS 37)) .none kV26 dc26 pm26 an26 cd26 ct26), sl26⟩) (c26 : PySem.W.codeIn K cd26 "_law_box" = true) (k26 : PySem.W.keepIn K (.ref f26) = true)
    (a27 : PySem.W.nsIn K mainGlobals "_law_take" = some (some (.ref f27))) (l27 : K.lookup f27 = some ⟨oc27, od27, .func (PySem.W.fnOf "_law_take" "_law_take" (defArgs (topS 38)) (defBody (topS 38)) (defScope (topS 38)) .none kV27 dc27 pm27 an27 cd27 ct27), sl27⟩) (c27 : PySem.W.codeIn K cd27 "_law_take" = true) (k27 : PySem.W.keepIn K (.ref f27) = true)
    (a28 : PySem.W.nsIn K mainGlobals "_law_mixed_up" = some (some (.ref f28))) (l28 : K.lookup f28 = some ⟨oc28, od28, .func (PySem.W.fnOf "_law_mixed_up" "_law_mixed_up" (defArgs (topS 39)) (defBody (topS 39)) (defScope (topS 39)) .none kV28 dc28 pm28 an28 cd28 ct28), sl28⟩) (c28 : PySem.W.codeIn K cd28 "_law_mixed_up" = true) (k28 : PySem.W.keepIn K (.ref f28) = true)
    (a29 : PySem.W.nsIn K mainGlobals "_law_closed" = some (some (.ref f29))) (l29 : K.lookup f29 = some ⟨oc29, od29, .func (PySem.W.fnOf "_law_closed" "_law_closed" (defArgs (topS 40)) (defBody (topS 40)) (defScope (topS 40)) .none kV29 dc29 pm29 an29 cd29 ct29), sl29⟩) (c29 : PySem.W.codeIn K cd29 "_law_closed" = true) (k29 : PySem.W.keepIn K (.ref f29) = true)
    (a30 : PySem.W.nsIn K mainGlobals "_law_order" = some (some (.ref f30))) (l30 : K.lookup f30 = some ⟨oc30, od30, .func (PySem.W.fnOf "_law_order" "_law_order" (defArgs (topS 41)) (defBody (topS 41)) (defScope (topS 41)) .none kV30 dc30 pm30 an30 cd30 ct30), sl30⟩) (c30 : PySem.W.codeIn K cd30 "_law_order" = true) (k30 : PySem.W.keepIn K (.ref f30) = true)
    (a31 : PySem.W.nsIn K mainGlobals "law" = some (some (.ref f31))) (l31 : K.lookup f31 = some ⟨oc31, od31, .func (PySem.W.fnOf "law" "law" (defArgs (topS 42)) (defBody (topS 42)) (defScope (topS 42)) .none kV31 dc31 pm31 an31 cd31 ct31), sl31⟩) (c31 : PySem.W.codeIn K cd31 "law" = true) (k31 : PySem.W.keepIn K (.ref f31) = true)
    (g0 : PySem.W.nsIn K mainGlobals "MOST_THINGS" = some (some (.int 8 t0)))
    (z0 : PySem.W.nsIn K mainGlobals "abs" = some none)
    (z1 : PySem.W.nsIn K mainGlobals "all" = some none)
    (z2 : PySem.W.nsIn K mainGlobals "bool" = some none)
    (z3 : PySem.W.nsIn K mainGlobals "divmod" = some none)
    (z4 : PySem.W.nsIn K mainGlobals "enumerate" = some none)
    (z5 : PySem.W.nsIn K mainGlobals "int" = some none)
    (z6 : PySem.W.nsIn K mainGlobals "isinstance" = some none)
    (z7 : PySem.W.nsIn K mainGlobals "len" = some none)
    (z8 : PySem.W.nsIn K mainGlobals "list" = some none)
    (z9 : PySem.W.nsIn K mainGlobals "max" = some none)
    (z10 : PySem.W.nsIn K mainGlobals "min" = some none)
    (z11 : PySem.W.nsIn K mainGlobals "range" = some none)
    (z12 : PySem.W.nsIn K mainGlobals "set" = some none)
    (z13 : PySem.W.nsIn K mainGlobals "sorted" = some none)
    (z14 : PySem.W.nsIn K mainGlobals "sum" = some none)
    (z15 : PySem.W.nsIn K mainGlobals "tuple" = some none)
    (main : ∀ ns : List Int, ns.length ≤ 63 → (tx.run 40 "law" [.scr ns]).wp (fun r => r.1 = .val (.bool true)) fun _ => False) :
    ∃ fd : FuncData, (∀ (s : Shared) (v : Value), BindsTo s fd ⟨[v], []⟩ [("script", v)]) ∧ ∀ base : Heap, K.In base → base.Ns mainGlobals mg → FnG l.prog w K mg base (L2N.CX l.prog w) 42 fa fd ["script"] (kLaw K) := by
  have e := hfa.symm.trans (PySem.W.mg_of X G a31)
  cases e
  have F0 := fun_mk (st := topS 9) l0 c0 k0
  have b0 := F0.binds (ps := d_is_whole.ps) fun _ _ _ _ _ _ us hl => match us, hl with | [_], _ => rfl
  have F1 := fun_mk (st := topS 10) l1 c1 k1
  have b1 := F1.binds (ps := d_is_many.ps) fun _ _ _ _ _ _ us hl => match us, hl with | [_], _ => rfl
  have F2 := fun_mk (st := topS 11) l2 c2 k2
  have b2 := F2.binds (ps := d_is_pair.ps) fun _ _ _ _ _ _ us hl => match us, hl with | [_, _], _ => rfl
  have F3 := fun_mk (st := topS 12) l3 c3 k3
  have b3 := F3.binds (ps := d_follows.ps) fun _ _ _ _ _ _ us hl => match us, hl with | [_], _ => rfl
  have F4 := fun_mk (st := topS 13) l4 c4 k4
  have b4 := F4.binds (ps := d_is_order.ps) fun _ _ _ _ _ _ us hl => match us, hl with | [_], _ => rfl
  have F5 := fun_mk (st := topS 14) l5 c5 k5
  have b5 := F5.binds (ps := d_need_order.ps) fun _ _ _ _ _ _ us hl => match us, hl with | [_], _ => rfl
  have F6 := fun_mk (st := topS 15) l6 c6 k6
  have b6 := F6.binds (ps := d_need_many.ps) fun _ _ _ _ _ _ us hl => match us, hl with | [_], _ => rfl
  have F7 := fun_mk (st := topS 16) l7 c7 k7
  have b7 := F7.binds (ps := d_are_apart.ps) fun _ _ _ _ _ _ us hl => match us, hl with | [_, _, _], _ => rfl
  have F8 := fun_mk (st := topS 17) l8 c8 k8
  have b8 := F8.binds (ps := d_turned.ps) fun _ _ _ _ _ _ us hl => match us, hl with | [_], _ => rfl
  have F9 := fun_mk (st := topS 19) l9 c9 k9
  have b9 := F9.binds (ps := d_is_tuple_of_all.ps) fun _ _ _ _ _ _ us hl => match us, hl with | [_, _], _ => rfl
  have F10 := fun_mk (st := topS 20) l10 c10 k10
  have b10 := F10.binds (ps := d_stands_ahead.ps) fun _ _ _ _ _ _ us hl => match us, hl with | [_, _, _], _ => rfl
  have F11 := fun_mk (st := topS 21) l11 c11 k11
  have b11 := F11.binds (ps := d_is_row_of.ps) fun _ _ _ _ _ _ us hl => match us, hl with | [_, _], _ => rfl
  have F12 := fun_mk (st := topS 22) l12 c12 k12
  have b12 := F12.binds (ps := d_is_row.ps) fun _ _ _ _ _ _ us hl => match us, hl with | [_, _], _ => rfl
  have F13 := fun_mk (st := topS 23) l13 c13 k13
  have b13 := F13.binds (ps := d_next_things.ps) fun _ _ _ _ _ _ us hl => match us, hl with | [_, _], _ => rfl
  have F14 := fun_mk (st := topS 24) l14 c14 k14
  have b14 := F14.binds (ps := d_ways_from.ps) fun _ _ _ _ _ _ us hl => match us, hl with | [_, _, _], _ => rfl
  have F15 := fun_mk (st := topS 25) l15 c15 k15
  have b15 := F15.binds (ps := d_rows_many.ps) fun _ _ _ _ _ _ us hl => match us, hl with | [_], _ => rfl
  have F16 := fun_mk (st := topS 26) l16 c16 k16
  have b16 := F16.binds (ps := d_nth_row.ps) fun _ _ _ _ _ _ us hl => match us, hl with | [_, _], _ => rfl
  have F17 := fun_mk (st := topS 27) l17 c17 k17
  have b17 := F17.binds (ps := d_rank_of.ps) fun _ _ _ _ _ _ us hl => match us, hl with | [_, _], _ => rfl
  have F18 := fun_mk (st := topS 28) l18 c18 k18
  have b18 := F18.binds (ps := d_told_pairs.ps) fun _ _ _ _ _ _ us hl => match us, hl with | [_, _], _ => rfl
  have F19 := fun_mk (st := topS 29) l19 c19 k19
  have b19 := F19.binds (ps := d_told_by.ps) fun _ _ _ _ _ _ us hl => match us, hl with | [_, _], _ => rfl
  have F20 := fun_mk (st := topS 30) l20 c20 k20
  have b20 := F20.binds (ps := d_are_rows.ps) fun _ _ _ _ _ _ us hl => match us, hl with | [_, _], _ => rfl
  have F21 := fun_mk (st := topS 31) l21 c21 k21
  have b21 := F21.binds (ps := d_tell.ps) fun _ _ _ _ _ _ us hl => match us, hl with | [_, _], _ => rfl
  have F22 := fun_mk (st := topS 32) l22 c22 k22
  have b22 := F22.binds (ps := d_need_rows.ps) fun _ _ _ _ _ _ us hl => match us, hl with | [_, _], _ => rfl
  have F23 := fun_mk (st := topS 33) l23 c23 k23
  have b23 := F23.binds (ps := d_first_left.ps) fun _ _ _ _ _ _ us hl => match us, hl with | [_, _], _ => rfl
  have F24 := fun_mk (st := topS 35) l24 c24 k24
  have b24 := F24.binds (ps := d__law_cell.ps) fun _ _ _ _ _ _ us hl => match us, hl with | [_, _], _ => rfl
  have F25 := fun_mk (st := topS 36) l25 c25 k25
  have b25 := F25.binds (ps := d__law_mix.ps) fun _ _ _ _ _ _ us hl => match us, hl with | [_, _], _ => rfl
  have F26 := fun_mk (st := topS 37) l26 c26 k26
  have b26 := F26.binds (ps := d__law_box.ps) fun _ _ _ _ _ _ us hl => match us, hl with | [_, _], _ => rfl
  have F27 := fun_mk (st := topS 38) l27 c27 k27
  have b27 := F27.binds (ps := d__law_take.ps) fun _ _ _ _ _ _ us hl => match us, hl with | [_, _], _ => rfl
  have F28 := fun_mk (st := topS 39) l28 c28 k28
  have b28 := F28.binds (ps := d__law_mixed_up.ps) fun _ _ _ _ _ _ us hl => match us, hl with | [_, _], _ => rfl
  have F29 := fun_mk (st := topS 40) l29 c29 k29
  have b29 := F29.binds (ps := d__law_closed.ps) fun _ _ _ _ _ _ us hl => match us, hl with | [_], _ => rfl
  have F30 := fun_mk (st := topS 41) l30 c30 k30
  have b30 := F30.binds (ps := d__law_order.ps) fun _ _ _ _ _ _ us hl => match us, hl with | [_, _], _ => rfl
  have F31 := fun_mk (st := topS 42) l31 c31 k31
  have b31 := F31.binds (ps := d_law.ps) fun _ _ _ _ _ _ us hl => match us, hl with | [_], _ => rfl
  have S : tx.Stand K mg := by
    refine ⟨fun d hd => ?_, fun p hp => ?_, fun p hp => ?_, fun x hx => ?_, fun p hp => ?_⟩
    · simp only [tx, List.mem_cons, List.not_mem_nil, or_false] at hd
      rcases hd with rfl | rfl | rfl | rfl | rfl | rfl | rfl | rfl | rfl | rfl | rfl | rfl | rfl | rfl | rfl | rfl | rfl | rfl | rfl | rfl | rfl | rfl | rfl | rfl | rfl | rfl | rfl | rfl | rfl | rfl | rfl | rfl
      · exact ⟨_, _, F0, b0, PySem.W.mg_of X G a0⟩
      · exact ⟨_, _, F1, b1, PySem.W.mg_of X G a1⟩
      · exact ⟨_, _, F2, b2, PySem.W.mg_of X G a2⟩
      · exact ⟨_, _, F3, b3, PySem.W.mg_of X G a3⟩
      · exact ⟨_, _, F4, b4, PySem.W.mg_of X G a4⟩
      · exact ⟨_, _, F5, b5, PySem.W.mg_of X G a5⟩
      · exact ⟨_, _, F6, b6, PySem.W.mg_of X G a6⟩
      · exact ⟨_, _, F7, b7, PySem.W.mg_of X G a7⟩
      · exact ⟨_, _, F8, b8, PySem.W.mg_of X G a8⟩
      · exact ⟨_, _, F9, b9, PySem.W.mg_of X G a9⟩
      · exact ⟨_, _, F10, b10, PySem.W.mg_of X G a10⟩
      · exact ⟨_, _, F11, b11, PySem.W.mg_of X G a11⟩
      · exact ⟨_, _, F12, b12, PySem.W.mg_of X G a12⟩
      · exact ⟨_, _, F13, b13, PySem.W.mg_of X G a13⟩
      · exact ⟨_, _, F14, b14, PySem.W.mg_of X G a14⟩
      · exact ⟨_, _, F15, b15, PySem.W.mg_of X G a15⟩
      · exact ⟨_, _, F16, b16, PySem.W.mg_of X G a16⟩
      · exact ⟨_, _, F17, b17, PySem.W.mg_of X G a17⟩
      · exact ⟨_, _, F18, b18, PySem.W.mg_of X G a18⟩
      · exact ⟨_, _, F19, b19, PySem.W.mg_of X G a19⟩
      · exact ⟨_, _, F20, b20, PySem.W.mg_of X G a20⟩
      · exact ⟨_, _, F21, b21, PySem.W.mg_of X G a21⟩
      · exact ⟨_, _, F22, b22, PySem.W.mg_of X G a22⟩
      · exact ⟨_, _, F23, b23, PySem.W.mg_of X G a23⟩
      · exact ⟨_, _, F24, b24, PySem.W.mg_of X G a24⟩
      · exact ⟨_, _, F25, b25, PySem.W.mg_of X G a25⟩
      · exact ⟨_, _, F26, b26, PySem.W.mg_of X G a26⟩
      · exact ⟨_, _, F27, b27, PySem.W.mg_of X G a27⟩
      · exact ⟨_, _, F28, b28, PySem.W.mg_of X G a28⟩
      · exact ⟨_, _, F29, b29, PySem.W.mg_of X G a29⟩
      · exact ⟨_, _, F30, b30, PySem.W.mg_of X G a30⟩
      · exact ⟨_, _, F31, b31, PySem.W.mg_of X G a31⟩
    · simp only [tx, gis, List.mem_cons, List.not_mem_nil, or_false] at hp
      rcases hp with rfl
      · exact ⟨_, PySem.W.mg_of X G g0⟩
    · exact absurd hp (by simp [tx, gss])
    · simp only [tx, bls, List.mem_cons, List.not_mem_nil, or_false] at hx
      rcases hx with rfl | rfl | rfl | rfl | rfl | rfl | rfl | rfl | rfl | rfl | rfl | rfl | rfl | rfl | rfl | rfl
      · exact PySem.W.mg_none_of X G z0
      · exact PySem.W.mg_none_of X G z1
      · exact PySem.W.mg_none_of X G z2
      · exact PySem.W.mg_none_of X G z3
      · exact PySem.W.mg_none_of X G z4
      · exact PySem.W.mg_none_of X G z5
      · exact PySem.W.mg_none_of X G z6
      · exact PySem.W.mg_none_of X G z7
      · exact PySem.W.mg_none_of X G z8
      · exact PySem.W.mg_none_of X G z9
      · exact PySem.W.mg_none_of X G z10
      · exact PySem.W.mg_none_of X G z11
      · exact PySem.W.mg_none_of X G z12
      · exact PySem.W.mg_none_of X G z13
      · exact PySem.W.mg_none_of X G z14
      · exact PySem.W.mg_none_of X G z15
    · exact absurd hp (by simp [tx, exs])
  have ho : ∀ base : Heap, tx.exs ≠ [] → HotOk l.prog w K mg base tx.exs := fun base ne => absurd rfl ne
  refine ⟨PySem.W.fnOf "law" "law" (defArgs (topS 42)) (defBody (topS 42)) (defScope (topS 42)) .none kV31 dc31 pm31 an31 cd31 ct31, fun s v => .of_eq rfl, fun base _ _ => ?_⟩
  · obtain ⟨f, fd, F, m1, _, _, ok⟩ := Tx.fn_ok (P := l.prog) (w := w) (base := base) S tx_ok (ho base) 40 d_law (by simp [tx])
    have m2 : mg "law" = some (.ref fa) := PySem.W.mg_of X G a31
    have m1 : mg "law" = some (.ref f) := m1
    rw [m2] at m1
    cases m1
    cases same_fd F F31
    exact ok.imp fun vs H Q E ⟨a, ns, e1, hS, hl, hq⟩ => by
      subst e1
      exact law_of (main ns hl) hS hq
end Dn.M14

namespace Dn.M14
open PySem PySem.Spec L2
open PyProof.Rows hiding St
theorem r_take (n : Nat) (b m : Int) (h : 0 < m) (h2 : m < 1073741824) : tx.go (n+1) "_law_take" [.own [.int b], .val (.int m)] = .ok (.val (.int (b % m)), [.own [.int (b / m)], .val (.int m)]) := by
  rw [go_at tx (d := d__law_take) rfl]
  simp [d__law_take, b__law_take, pDvm, h, h2, ixN]
theorem r_is_whole (n : Nat) (x : PyData) : tx.go (n+1) "is_whole" [.val x] = .ok (.val (.bool (isW x)), [.val x]) := by
  rw [go_at tx (d := d_is_whole) rfl]
  cases x <;> simp [d_is_whole, b_is_whole, isT, isW]
theorem r_is_many (n : Nat) (m : Int) (h : 1 ≤ m) (h2 : m ≤ 8) : tx.go (n+2) "is_many" [.val (.int m)] = .ok (.val (.bool true), [.val (.int m)]) := by
  rw [go_at tx (d := d_is_many) rfl]
  simp [d_is_many, b_is_many, r_is_whole, isW, h, h2]
theorem r_is_pair (n : Nat) (m : Int) (p : Int × Int) (h : 0 ≤ p.1 ∧ p.1 < m ∧ 0 ≤ p.2 ∧ p.2 < m) : tx.go (n+2) "is_pair" [.val (.int m), .val (prD p)] = .ok (.val (.bool true), [.val (.int m), .val (prD p)]) := by
  obtain ⟨h, h2, h3, h4⟩ := h
  rw [go_at tx (d := d_is_pair) rfl]
  simp [d_is_pair, b_is_pair, r_is_whole, isW, h, h2, h3, h4, prD, isT, lcL, pAll, boolsOf]
theorem r_follows (n : Nat) (ps : List (Int × Int)) (irr : ∀ p ∈ ps, p.1 ≠ p.2) (tr : ∀ p ∈ ps, ∀ q ∈ ps, p.2 = q.1 → (p.1, q.2) ∈ ps) : tx.go (n+1) "follows" [.val (.tuple (psD ps))] = .ok (.val (.bool true), [.val (.tuple (psD ps))]) := by
  rw [go_at tx (d := d_follows) rfl]
  refine ok_of_wp ?_
  simp [d_follows, b_follows]
  refine wp_bind' (wp_bind' (forI_wp (fun i ρ => ∃ s1 s2 s3 s4, ρ = [.val (.tuple (psD ps)), s1, s2, s3, s4]) ⟨_, _, _, _, rfl⟩ (fun ρ ⟨_, _, _, _, e⟩ => by subst e; simp) (fun i d ρ hd ⟨s1, s2, s3, s4, e⟩ => ?_)))
  obtain ⟨p, _, hp, rfl⟩ := psD_get hd
  subst e
  have := irr p hp
  simp [prD, this]
  refine forI_wp (fun i ρ => ∃ s3 s4, ρ = [.val (.tuple (psD ps)), .val (.int p.1), .val (.int p.2), s3, s4]) ⟨_, _, rfl⟩ (fun ρ ⟨_, _, e⟩ => by subst e; simp) (fun j d ρ hd ⟨s3, s4, e⟩ => ?_)
  obtain ⟨q, _, hq, rfl⟩ := psD_get hd
  subst e
  by_cases c : p.2 = q.1
  · simp [prD, c, x_ninT, tr p hp q hq c]
  · simp [prD, c]
theorem r_is_order (n : Nat) (m : Int) (ps : List (Int × Int)) (o : IsOrd m ps) : tx.go (n+3) "is_order" [.val (ordD m ps)] = .ok (.val (.bool true), [.val (ordD m ps)]) := by
  rw [go_at tx (d := d_is_order) rfl]
  have len := o.len
  have l2 : ps.length ≤ 1000000 := by omega
  simp [d_is_order, b_is_order, ordD, isT, r_is_many, o.lo, o.hi, l2]
  rw [lcL_enc prD (fun _ => .bool true) ps fun p hp => ?_]
  · have := x_all ps fun _ => true
    rw [show (ps.all fun _ => true) = true by simp] at this
    simp [this, x_eqPL, x_ssT ps (inN_small o.bd (by have := o.hi; omega)) (by rw [dedP_of o.nd]; omega), setSort_self o.nd o.st, r_follows n.succ ps o.irr o.tr]
  · simp [r_is_pair n m p (o.bd p hp)]
theorem r_need_order (n : Nat) (m : Int) (ps : List (Int × Int)) (o : IsOrd m ps) : tx.go (n+4) "need_order" [.val (ordD m ps)] = .ok (.val .none, [.val (ordD m ps)]) := by
  rw [go_at tx (d := d_need_order) rfl]
  simp [d_need_order, b_need_order, r_is_order n m ps o]
theorem r_cell (n : Nat) (ns : List Int) (k : Nat) : ∃ v, tx.go (n+1) "_law_cell" [.scr ns, .val (.int k)] = .ok (.val (.int v), [.scr ns, .val (.int k)]) := by
  rw [go_at tx (d := d__law_cell) rfl]
  by_cases c : k < ns.length
  · have hv : atI ns (k : Int) = some ns[k] := x_ixn (List.getElem?_eq_getElem c)
    exact ⟨ns[k], by simp [d__law_cell, b__law_cell, c, hv]⟩
  · exact ⟨0, by simp [d__law_cell, b__law_cell, c]⟩
theorem r_mix (n : Nat) (c : Int) (k : Nat) (hk : k < 40) : ∃ v, tx.go (n+1) "_law_mix" [.val (.int c), .val (.int k)] = .ok (.val (.int v), [.val (.int c), .val (.int k)]) ∧ 0 ≤ v ∧ v < 142857145 := by
  rw [go_at tx (d := d__law_mix) rfl]
  obtain ⟨v, hv, e⟩ := pick_n [48271, 69621, 16807, 39373, 30269, 40014, 40692, 50021, 61687, 71993, 83869, 95561, 30307] ((k : Int) % 13) (emod_in _ _ (by decide)).1 (emod_in _ _ (by decide)).2
  have vb : 0 ≤ v ∧ v < 100000 := by
    simp only [List.mem_cons, List.not_mem_nil, or_false] at hv
    omega
  clear hv
  have i1 := emod_in c 2147483647 (by decide)
  have d1 := x_div (k := (k : Int)) (m := 13) (by decide) (by decide)
  have d2 : 0 ≤ (k : Int) / 13 ∧ (k : Int) / 13 < 40 := by omega
  generalize (k : Int) / 13 = z at d1 d2
  have e : pIx [.list [.int 48271, .int 69621, .int 16807, .int 39373, .int 30269, .int 40014, .int 40692, .int 50021, .int 61687, .int 71993, .int 83869, .int 95561, .int 30307], .int ((k : Int) % 13)] = some (.val (.int v)) := e
  have x1 := x_mod (k := c) (m := 2147483647) (by decide)
  have x2 := x_mod (k := (k : Int)) (m := 13) (by decide)
  generalize c % 2147483647 = y at x1 i1
  generalize (k : Int) % 13 = w at x2 e
  have m1 : big2 (y + 12345) v = true := big2_of (a := 40) (b := 20) (by omega) (by omega) (by omega) (by omega) (by omega)
  have m2 : big2 977 (k : Int) = true := big2_of (a := 10) (b := 10) (by omega) (by omega) (by omega) (by omega) (by omega)
  have m3 : big2 7919 z = true := big2_of (a := 13) (b := 10) (by omega) (by omega) (by omega) (by omega) (by omega)
  generalize hS : (y + 12345) * v + 977 * (k : Int) + 7919 * z = S
  have i2 := emod_in S 1000000007 (by decide)
  have x3 := x_mod (k := S) (m := 1000000007) (by decide)
  generalize S % 1000000007 = T at i2 x3
  have m4 : big2 T T = true := big2_of (a := 31) (b := 31) (by omega) (by omega) (by omega) (by omega) (by omega)
  have m5 : big2 48271 (k : Int) = true := big2_of (a := 16) (b := 10) (by omega) (by omega) (by omega) (by omega) (by omega)
  have i3 := emod_in (T * T + 48271 * (k : Int)) 1000000007 (by decide)
  have x4 := x_mod (k := T * T + 48271 * (k : Int)) (m := 1000000007) (by decide)
  generalize (T * T + 48271 * (k : Int)) % 1000000007 = U at i3 x4
  have x5 := x_div (k := U) (m := 7) (by decide) (by decide)
  refine ⟨U / 7, ?_, by omega, by omega⟩
  generalize U / 7 = R at x5
  have x3 : pMod [.int ((y + 12345) * v + 977 * (k : Int) + 7919 * z), .int 1000000007] = some (.val (.int T)) := by rw [hS]; exact x3
  simp [d__law_mix, b__law_mix, x1, x2, e, x_mul m1, x_mul m2, d1, x_mul m3, x3, x_mul m4, x_mul m5, x4, x5]
theorem r_box (n : Nat) (ns : List Int) (k : Nat) : ∃ r, tx.go (n+2) "_law_box" [.scr ns, .val (.int k)] = .ok r ∧ (∃ b, r.1 = .own [.int b] ∧ r.2 = [.scr ns, .val (.int k)]) := by
  refine of_wp ?_
  rw [go_at tx (d := d__law_box) rfl]
  obtain ⟨v, e⟩ := r_cell n ns k
  have s40 : small62 40 = true := small_in (by omega) (by omega)
  have ab : pAbs [.int v] = some (.val (.int v.natAbs)) := by
    show some (Slot.val (PyData.int (if v < 0 then -v else v))) = _
    congr 3
    split <;> omega
  have md := x_mod (k := v) (m := 2) (by decide)
  have dv := x_div (k := (v.natAbs : Int)) (m := 2) (by decide) (by decide)
  by_cases c : v % 2 = 0
  · simp [d__law_box, b__law_box, e, md, c, ab, dv]
  · simp [d__law_box, b__law_box, e, md, c, s40]
    refine wp_bind' (wp_bind' (forR_wp (fun i ρ => ∃ b s4, ρ = [.scr ns, .val (.int k), .val (.int v), .val (.int b), s4] ∧ b.natAbs < 2 ^ (28 * i + 1)) ⟨_, _, rfl, by decide⟩ (fun ρ ⟨b, s4, e, _⟩ => by subst e; simp) fun i ρ hi ⟨b, s4, e, hb⟩ => ?_))
    subst e
    have i40 : i < 40 := by omega
    obtain ⟨u, eu, u1, u2⟩ := r_mix n v i i40
    have q : big2 b 142857143 = true := big2_of (a := 28 * i + 1) (b := 28) hb (by decide) (by omega) (by omega) (by omega)
    have e1 : (2 : Nat) ^ (28 * (i + 1) + 1) = 2 ^ (28 * i + 1) * 268435456 := by
      rw [show 28 * (i + 1) + 1 = (28 * i + 1) + 28 by omega, Nat.pow_add]
    simp [x_mul q, eu]
    rw [e1]
    generalize 2 ^ (28 * i + 1) = P at hb ⊢
    omega
theorem r_mixed_up (n : Nat) (b : Int) (xs : List Int) (hx : xs.length ≤ 1000) : ∃ r, tx.go (n+2) "_law_mixed_up" [.own [.int b], .own (nsD xs)] = .ok r ∧ (∃ ys b', r = (.own (nsD ys), [.own [.int b'], .own (nsD xs)]) ∧ ys.Perm xs) := by
  refine of_wp ?_
  rw [go_at tx (d := d__law_mixed_up) rfl]
  simp [d__law_mixed_up, b__law_mixed_up]
  refine wp_bind' (wp_bind' (whileN_wp (fun k ρ => ∃ b l f, ρ = [.own [.int b], .own (nsD xs), .own (nsD l), .own (nsD f)] ∧ (f ++ l).Perm xs ∧ l.length = k) (fun k ρ ⟨b, l, f, e, pm, hk⟩ => ?_) turnsMost xs.length _ (by unfold turnsMost; omega) ⟨b, xs, [], rfl, .refl _, rfl⟩))
  subst e
  have ll : f.length + l.length = xs.length := by rw [← pm.length_eq, List.length_append]
  simp [x_neL0]
  by_cases c : l = []
  · subst c
    simp
    rw [List.append_nil] at pm
    exact ⟨f, rfl, pm⟩
  · have pos : 0 < l.length := List.length_pos_iff.mpr c
    have q1 := Int.emod_nonneg b (show (l.length : Int) ≠ 0 by omega)
    have q2 := Int.emod_lt_of_pos b (show (0 : Int) < l.length by omega)
    obtain ⟨v, g1, g2⟩ := popAt_ns l (b % l.length) q1 q2 (by omega)
    simp [c, r_take n b l.length (by omega) (by omega), g1]
    rw [x_app _ _ (by rw [List.length_map]; omega)]
    simp
    refine ⟨l.length - 1, by omega, b / l.length, l.eraseIdx (b % l.length).toNat, f ++ [v], by simp, ?_, ?_⟩
    · refine List.Perm.trans ?_ pm
      rw [List.append_assoc]
      exact List.Perm.append_left f g2
    · have := g2.length_eq
      rw [List.length_cons] at this
      omega
theorem r_law_closed (n : Nat) {m : Nat} (ps : List (Int × Int)) (h1 : 1 ≤ m) (hm : m ≤ 8) (bd : inN m ps) (ac : Acyc ps) (hl : ps.length ≤ 1000) : ∃ r, tx.go (n+1) "_law_closed" [.own (psD ps)] = .ok r ∧ r = (.val (.tuple (psD (clo m ps))), [.own (psD ps)]) := by
  refine of_wp ?_
  rw [go_at tx (d := d__law_closed) rfl]
  have ss0 := x_ssL ps (inN_small bd (by omega)) (Nat.le_trans (sub_clo h1 hm bd ac fun p hp => .one hp) (by decide))
  simp [d__law_closed, b__law_closed, ss0]
  generalize hR : Slot.val (PyData.int (-1)) = R0
  refine wp_bind' (wp_bind' (whileN_wp (fun k ρ => ∃ F z s3 s4 s5, ρ = [.own (psD ps), .own (psD F), .val (.int z), s3, s4, s5, .un, .un] ∧ Mid ps F ∧ (z = -1 ∨ ∃ G, Mid ps G ∧ z = (G.length : Nat) ∧ F = setSort (G ++ compP G)) ∧ k = 2 * (57 - F.length) + (if z = F.length then 0 else 1)) (fun k ρ ⟨F, z, s3, s4, s5, e, mid, hz, hk⟩ => ?_) turnsMost (2 * (57 - (setSort ps).length) + (if (-1 : Int) = (setSort ps).length then 0 else 1)) _ (by unfold turnsMost; split <;> omega) ⟨setSort ps, -1, .un, .un, .un, by rw [hR], .start ps, .inl rfl, rfl⟩))
  subst e
  have fl : F.length ≤ 56 := by
    have := sub_clo h1 hm bd ac mid.ch
    rw [dedP_of mid.srt.1] at this
    exact this
  by_cases c : z = F.length
  · have : F = clo m ps := by
      rcases hz with rfl | ⟨G, mG, e1, e2⟩
      · omega
      · have e3 : setSort (G ++ compP G) = G := mG.same (by rw [← e2]; omega)
        have e4 : F = G := e2.trans e3
        rw [e4]
        exact mG.fin bd e3
    simp [c, this]
  · have cn : ¬ z = (F.length : Int) := c
    simp [cn]
    have g1 : ∀ p : Int × Int, ((F.filter fun q => decide (q.1 = p.2)).map fun q : Int × Int => (p.1, q.2)).length ≤ 56 := fun p => by
      rw [List.length_map]
      exact Nat.le_trans (List.length_filter_le _ _) fl
    refine wp_bind' (forI_wp (fun i ρ => ∃ s4 s5, ρ = [.own (psD ps), .val (.list (psD F)), .val (.int F.length), .own (psD ((F.take i).flatMap fun p => (F.filter fun q => decide (q.1 = p.2)).map fun q => (p.1, q.2))), s4, s5, .un, .un]) ⟨s4, s5, by simp⟩ (fun ρ ⟨s4, s5, e⟩ => ?_) fun i d ρ hd ⟨s4, s5, e⟩ => ?_)
    · subst e
      rw [List.length_map, List.take_length]
      have cl := flat_len2 (fun p : Int × Int => (F.filter fun q => decide (q.1 = p.2)).map fun q : Int × Int => (p.1, q.2)) 56 g1 F
      have fe : (F.flatMap fun p => (F.filter fun q => decide (q.1 = p.2)).map fun q => (p.1, q.2)) = compP F := rfl
      rw [fe] at cl ⊢
      have mc : ∀ p ∈ F ++ compP F, Ch ps p.1 p.2 := fun p hp => (List.mem_append.mp hp).elim (mid.ch p) mid.comp_ch
      have ad := x_addPL F (compP F) (by omega)
      have ss := x_ssL (F ++ compP F) (inN_small (fun p hp => (mc p hp).inN bd) (by omega)) (Nat.le_trans (sub_clo h1 hm bd ac mc) (by decide))
      simp [ad, ss, -List.map_append]
      have key : ∀ (x y : Nat), y ≤ x → x ≤ 56 → 2 * (57 - x) + (if (y : Int) = x then 0 else 1) < 2 * (57 - y) + 1 := fun x y h1 h2 => by split <;> omega
      have up : F.length ≤ (setSort (F ++ compP F)).length := nodup_len _ _ mid.srt.1 fun x hx => setSort_mem.mpr (List.mem_append.mpr (.inl hx))
      have nl : (setSort (F ++ compP F)).length ≤ 56 := by
        have := sub_clo h1 hm bd ac mid.step.ch
        rw [dedP_of mid.step.srt.1] at this
        exact this
      refine ⟨_, ?_, setSort (F ++ compP F), F.length, ⟨rfl, rfl⟩, mid.step, .inr ⟨F, mid, rfl, rfl⟩, rfl⟩
      rw [hk, if_neg c]
      exact key _ _ up nl
    · subst e
      obtain ⟨p, q1, hp, rfl⟩ := psD_get hd
      have tk : F.take (i + 1) = F.take i ++ [p] := by rw [List.take_succ, q1]; rfl
      have cl := flat_len2 (fun p : Int × Int => (F.filter fun q => decide (q.1 = p.2)).map fun q : Int × Int => (p.1, q.2)) 56 g1 (F.take i)
      have tl : (F.take i).length ≤ 56 := by rw [List.length_take]; omega
      have gp := g1 p
      rw [tk, List.flatMap_append]
      have one : ([p].flatMap fun p => (F.filter fun q => decide (q.1 = p.2)).map fun q : Int × Int => (p.1, q.2)) = (F.filter fun q => decide (q.1 = p.2)).map fun q => (p.1, q.2) := by simp
      rw [one]
      generalize ((F.take i).flatMap fun p => (F.filter fun q => decide (q.1 = p.2)).map fun q : Int × Int => (p.1, q.2)) = A at cl ⊢
      have c56 : 56 * (F.take i).length ≤ 56 * 56 := Nat.mul_le_mul_left 56 tl
      have f6 : F.length ≤ 1000000 := by omega
      simp [prD, f6]
      rw [lcL_enc2 prD (fun q => decide (q.1 = p.2)) (fun q => prD (p.1, q.2)) F fun q hq => ?_]
      · have me : (F.filter fun q => decide (q.1 = p.2)).map (fun q => prD (p.1, q.2)) = psD ((F.filter fun q => decide (q.1 = p.2)).map fun q => (p.1, q.2)) := by unfold psD; rw [List.map_map]; rfl
        rw [me]
        generalize hC : ((F.filter fun q => decide (q.1 = p.2)).map fun q : Int × Int => (p.1, q.2)) = C at gp ⊢
        have ad := x_addPL A C (by omega)
        simp [ad, -List.map_append]
        rw [← hC]
        simp [psD]
      · by_cases cc : q.1 = p.2
        · simp [prD, cc]
        · simp [prD, cc]
theorem idx_lt {xs : List Int} (nd : xs.Nodup) {i j : Nat} (hi : i < xs.length) (hj : j < xs.length) (h : i < j) : xs.idxOf xs[i] < xs.idxOf xs[j] := by
  rw [nd.idxOf_getElem i hi, nd.idxOf_getElem j hj]
  exact h
theorem r_law_order (n : Nat) (b : Int) (mo : Nat) (h1 : 1 ≤ mo) (h8 : mo ≤ 8) : ∃ r, tx.go (n+3) "_law_order" [.own [.int b], .val (.int mo)] = .ok r ∧ (∃ (b' : Int) (m : Nat) (ps : List (Int × Int)), r = (.val (ordD m ps), [.own [.int b'], .val (.int mo)]) ∧ IsOrd m ps ∧ m ≤ mo) := by
  refine of_wp ?_
  rw [go_at tx (d := d__law_order) rfl]
  have q1 := emod_in b mo (by omega)
  obtain ⟨m, hm⟩ : ∃ m : Nat, (1 + b % mo : Int) = m := ⟨(1 + b % mo).toNat, by omega⟩
  have m1 : 1 ≤ m := by omega
  have m8 : m ≤ mo := by omega
  have sm : small62 m = true := small_in (by omega) (by omega)
  have ml : m ≤ 1000000 := by omega
  obtain ⟨r, e, ys, b1, rfl, pm⟩ := r_mixed_up n (b / mo) (upTo m) (by rw [upTo_len]; omega)
  have yl : ys.length = m := by rw [pm.length_eq, upTo_len]
  have nd : ys.Nodup := pm.nodup_iff.mpr (upTo_nd m)
  have yb : ∀ x ∈ ys, 0 ≤ x ∧ x < m := fun x hx => mem_upTo.mp (pm.mem_iff.mp hx)
  have q2 := emod_in b1 4 (by decide)
  obtain ⟨th, hth, eth⟩ := pick_n [2, 3, 4, 7] (b1 % 4) q2.1 q2.2
  have thb : 0 < th ∧ th < 8 := by
    simp only [List.mem_cons, List.not_mem_nil, or_false] at hth
    omega
  clear hth
  have eth : pIx [.list [.int 2, .int 3, .int 4, .int 7], .int (b1 % 4)] = some (.val (.int th)) := eth
  have tk := r_take (n + 1) b1 4 (by decide) (by decide)
  have ru := rng_upTo m
  have rl : (rngD 0 m).length = m := rngD_length 0 m
  simp [d__law_order, b__law_order, r_take (n + 1) b mo (by omega) (by omega), hm, sm, ru, upTo_len, ml, e, tk, eth]
  generalize b1 / 4 = b2
  let Good := fun (Q : List (Int × Int)) => ∀ p ∈ Q, ∃ (i j : Nat) (hi : i < ys.length) (hj : j < ys.length), i < j ∧ p = (ys[i], ys[j])
  rw [← ru]
  refine wp_bind' (wp_bind' (forR_wp (fun i ρ => ∃ (b : Int) (Q : List (Int × Int)) (s6 s7 : Slot), ρ = [.own [.int b], .val (.int mo), .val (.int m), .own (nsD ys), .val (.int th), .own (psD Q), s6, s7] ∧ Good Q ∧ Q.length ≤ i * 8) ⟨b2, [], .un, .un, rfl, fun p hp => absurd hp List.not_mem_nil, by simp⟩ (fun ρ ⟨b, Q, s6, s7, e, good, hl⟩ => ?_) fun i ρ hi ⟨b, Q, s6, s7, e, good, hl⟩ => ?_))
  · subst e
    have bdQ : inN m Q := fun p hp => by
      obtain ⟨i, j, hi, hj, _, rfl⟩ := good p hp
      have a := yb _ (List.getElem_mem hi)
      have b := yb _ (List.getElem_mem hj)
      exact ⟨a.1, a.2, b.1, b.2⟩
    have acQ : Acyc Q := acyc_of (fun x => ys.idxOf x) fun p hp => by
      obtain ⟨i, j, hi, hj, lt, rfl⟩ := good p hp
      exact idx_lt nd hi hj lt
    obtain ⟨r, ec, hr⟩ := r_law_closed (n + 1) Q m1 (by omega) bdQ acQ (by omega)
    subst hr
    simp [ec]
    exact ⟨b, m, clo m Q, ⟨rfl, rfl⟩, clo_ord m1 (by omega) bdQ acQ, m8⟩
  · subst e
    have si : small62 ((i : Int) + 1) = true := small_in (by omega) (by omega)
    simp [si, sm]
    have e2 : ((m : Int) - ((i : Int) + 1)).toNat = m - (i + 1) := by omega
    rw [e2]
    refine forR_wp (fun j ρ => ∃ (b : Int) (Q : List (Int × Int)) (s7 : Slot), ρ = [.own [.int b], .val (.int mo), .val (.int m), .own (nsD ys), .val (.int th), .own (psD Q), .val (.int (i : Int)), s7] ∧ Good Q ∧ Q.length ≤ i * 8 + j) ⟨b, Q, s7, rfl, good, hl⟩ (fun ρ ⟨b, Q, s7, e, good, hl⟩ => ?_) fun j ρ hj ⟨b, Q, s7, e, good, hl⟩ => ?_
    · subst e
      exact ⟨b, Q, ⟨_, _, rfl⟩, good, by omega⟩
    · subst e
      have tk := r_take (n + 1) b th thb.1 (by omega)
      by_cases c : b % th = 0
      · have i1 := x_atN ys i (by omega)
        have i2 : atI (nsD ys) ((i : Int) + 1 + (j : Int)) = some (.int (ys[i + 1 + j]'(by omega))) := by
          rw [show (i : Int) + 1 + (j : Int) = ((i + 1 + j : Nat) : Int) by omega]
          exact x_atN ys (i + 1 + j) (by omega)
        have ap := x_app (psD Q) (prD (ys[i], ys[i + 1 + j])) (by rw [List.length_map]; omega)
        have pe : psD Q ++ [prD (ys[i], ys[i + 1 + j])] = psD (Q ++ [(ys[i], ys[i + 1 + j])]) := by simp
        rw [pe] at ap
        unfold prD at ap
        simp [tk, c, i1, i2, ap, -List.map_append]
        refine ⟨b / th, Q ++ [(ys[i], ys[i + 1 + j])], ⟨rfl, rfl⟩, fun p hp => ?_, by rw [List.length_append, List.length_singleton]; omega⟩
        rcases List.mem_append.mp hp with z | z
        · exact good p z
        · exact ⟨i, i + 1 + j, by omega, by omega, by omega, List.mem_singleton.mp z⟩
      · simp [tk, c]
        exact ⟨b / th, Q, ⟨rfl, rfl⟩, good, by omega⟩
theorem r_are_apart (n : Nat) (m a b : Int) (ps : List (Int × Int)) : tx.go (n+1) "are_apart" [.val (ordD m ps), .val (.int a), .val (.int b)] = .ok (.val (.bool (apartB ps a b)), [.val (ordD m ps), .val (.int a), .val (.int b)]) := by
  rw [go_at tx (d := d_are_apart) rfl]
  by_cases c1 : a = b
  · simp [d_are_apart, b_are_apart, x_ord1, c1, apartB]
  · by_cases c2 : (a, b) ∈ ps
    · simp [d_are_apart, b_are_apart, x_ord1, x_ninT, c1, c2, apartB]
    · simp [d_are_apart, b_are_apart, x_ord1, x_ninT, c1, c2, apartB]
theorem r_need_many (n : Nat) (m : Int) (h : 1 ≤ m) (h2 : m ≤ 8) : tx.go (n+3) "need_many" [.val (.int m)] = .ok (.val .none, [.val (.int m)]) := by
  rw [go_at tx (d := d_need_many) rfl]
  simp [d_need_many, b_need_many, r_is_many, h, h2]
theorem r_turned (n : Nat) (m : Nat) (ps : List (Int × Int)) (o : IsOrd m ps) : tx.go (n+5) "turned" [.val (ordD m ps)] = .ok (.val (ordD m (sortP (ps.map swapP))), [.val (ordD m ps)]) := by
  rw [go_at tx (d := d_turned) rfl]
  have l := o.len
  have l6 : ps.length ≤ 1000000 := by omega
  have so := x_sorted (ps.map swapP) (by rw [List.length_map]; omega)
  simp [d_turned, b_turned, r_need_order n m ps o, x_ord0, x_ord1, l6]
  rw [lcL_pp swapP ps fun p hp => by simp [prD, swapP]]
  generalize ps.map swapP = W at so ⊢
  simp [so, ordD]
def inB (m : Int) : PyData → Bool
  | .int k => decide (0 ≤ k) && decide (k < m)
  | _ => false
def pairB (m : Int) : PyData → Bool
  | .tuple [x, y] => inB m x && inB m y
  | _ => false
theorem r_is_pair_any (n : Nat) (m : Int) (x : PyData) : tx.go (n+2) "is_pair" [.val (.int m), .val x] = .ok (.val (.bool (pairB m x)), [.val (.int m), .val x]) := by
  rw [go_at tx (d := d_is_pair) rfl]
  have one : ∀ (z : PyData) (u v : Slot), lcT (.nm 2) dYes (dAnd (dCall "is_whole" 1 (asVar 2 (asNil))) (dCh (fun i j => decide (i ≤ j)) (fun i j => decide (i < j)) (oOf (dLit (.int 0))) (oVar 2) (oVar 0))) [2] (tx.go (n + 1)) z [.val (.int m), v, .un] = .ok (some (.bool (inB m z)), [.val (.int m), v, .un]) := fun z u v => by
    cases z with
    | int k =>
      by_cases c : 0 ≤ k
      · simp [r_is_whole, isW, c, inB]
      · simp [r_is_whole, isW, c, inB]
    | _ => simp [r_is_whole, isW, inB]
  cases x with
  | tuple ds =>
    match ds with
    | [] => simp [d_is_pair, b_is_pair, isT, pairB]
    | [a] => simp [d_is_pair, b_is_pair, isT, pairB]
    | a :: b :: c :: ds =>
      have : ¬ ((ds.length : Int) + 1 + 1 + 1 = 2) := by omega
      simp [d_is_pair, b_is_pair, isT, pairB, this]
    | [a, b] =>
      simp only [d_is_pair, b_is_pair]
      have o1 := one a .un (.val (.tuple [a, b]))
      have o2 := one b .un (.val (.tuple [a, b]))
      simp only [x_body, isT, x_dSeq, x_dIfS, x_dOr, x_dNot] 
      have lc : lcL (lcT (.nm 2) dYes (dAnd (dCall "is_whole" 1 (asVar 2 (asNil))) (dCh (fun i j => decide (i ≤ j)) (fun i j => decide (i < j)) (oOf (dLit (.int 0))) (oVar 2) (oVar 0))) [2] (tx.go (n + 1))) [a, b] [.val (.int m), .val (.tuple [a, b]), .un] = .ok ([.bool (inB m a), .bool (inB m b)], [.val (.int m), .val (.tuple [a, b]), .un]) := by
        unfold lcL
        rw [o1]
        unfold lcL
        rw [x_ok]
        rw [o2]
        rfl
      have al : pAll [.list [.bool (inB m a), .bool (inB m b)]] = some (.val (.bool (inB m a && inB m b))) := by
        show Option.map (fun bs : List Bool => Slot.val (PyData.bool (bs.all id))) (some [inB m a, inB m b]) = _
        simp
      simp [isT, pairB, -x_lcT]
      rw [lc]
      simp [al]
  | _ => simp [d_is_pair, b_is_pair, isT, pairB]
theorem r_is_tuple_of_all (n m : Nat) (hm : m ≤ 8) (x : PyData) : tx.go (n+2) "is_tuple_of_all" [.val (.int m), .val x] = .ok (.val (.bool (rowT m x)), [.val (.int m), .val x]) := by
  rw [go_at tx (d := d_is_tuple_of_all) rfl]
  cases x with
  | tuple ds =>
    by_cases c : ds.length = m
    · have c' : (ds.length : Int) = m := by omega
      have l6 : ds.length ≤ 1000000 := by omega
      have sm : small62 m = true := small_in (by omega) (by omega)
      have l1 : ∀ s0 s1 : Slot, lcL (lcT (.nm 2) (dYes) (dCall "is_whole" 1 (asVar 2 (asNil))) [2] (tx.go (n + 1))) ds [s0, s1, .un] = .ok (ds.map fun d => .bool (isW d), [s0, s1, .un]) :=
        fun s0 s1 => lcL_ea (fun d => .bool (isW d)) ds fun d _ => by
          have := r_is_whole n d
          simp [this]
      have a1 := x_all ds isW
      cases w : ds.all isW with
      | false =>
        rw [w] at a1
        have tf : rowT m (.tuple ds) = false := by
          show (decide (ds.length = m) && (ds.all isW && decide (sortI (ds.map intOf) = upTo m))) = false
          rw [w]
          simp
        simp [d_is_tuple_of_all, b_is_tuple_of_all, isT, c', l6, -x_lcT]
        rw [l1]
        simp [a1, tf]
      | true =>
        rw [w] at a1
        have tv : rowT m (.tuple ds) = decide (sortI (ds.map intOf) = upTo m) := by
          show (decide (ds.length = m) && (ds.all isW && decide (sortI (ds.map intOf) = upTo m))) = _
          rw [w, decide_eq_true c]
          simp
        rw [tv]
        have st : pSortS [.tuple ds] = some (.own (nsD (sortI (ds.map intOf)))) := by
          have := x_sortIT (ds.map intOf) (by rw [List.length_map]; exact l6)
          rwa [← isW_ns ds w] at this
        have eq := x_eqLL (sortI (ds.map intOf)) (upTo m)
        have ru := rng_upTo m
        have um : (upTo m).length ≤ 1000000 := by rw [upTo_len]; omega
        generalize sortI (ds.map intOf) = S at st eq
        simp [d_is_tuple_of_all, b_is_tuple_of_all, isT, c', l6, -x_lcT]
        rw [l1]
        simp [a1, st, sm, ru, um, eq]
    · have c' : ¬ ((ds.length : Int) = m) := by omega
      simp [d_is_tuple_of_all, b_is_tuple_of_all, isT, rowT, c, c']
  | _ => simp [d_is_tuple_of_all, b_is_tuple_of_all, isT, rowT]
theorem r_stands_ahead (n : Nat) (ns : List Int) (a b : Int) (ha : a ∈ ns) (hb : b ∈ ns) : tx.go (n+1) "stands_ahead" [.val (.tuple (nsD ns)), .val (.int a), .val (.int b)] = .ok (.val (.bool (aheadB ns (a, b))), [.val (.tuple (nsD ns)), .val (.int a), .val (.int b)]) := by
  rw [go_at tx (d := d_stands_ahead) rfl]
  have e1 := x_tidx ns a ha
  have e2 := x_tidx ns b hb
  generalize hS : nsD ns = S at e1 e2 ⊢
  simp [d_stands_ahead, b_stands_ahead, e1, e2, aheadB]
theorem r_is_row_of (n m : Nat) (ps : List (Int × Int)) (o : IsOrd m ps) (x : PyData) : tx.go (n+3) "is_row_of" [.val x, .val (ordD m ps)] = .ok (.val (.bool (rowD m ps x)), [.val x, .val (ordD m ps)]) := by
  rw [go_at tx (d := d_is_row_of) rfl]
  have hm : m ≤ 8 := by have := o.hi; omega
  have hl := o.len
  have l6 : ps.length ≤ 1000000 := by omega
  have e1 := r_is_tuple_of_all n m hm x
  cases c : rowT m x with
  | false =>
    rw [c] at e1
    simp [d_is_row_of, b_is_row_of, x_ord0, e1, rowD, c]
  | true =>
    rw [c] at e1
    obtain ⟨ns, rfl, pm⟩ := rowT_true c
    have tv : rowD m ps (.tuple (nsD ns)) = ps.all (aheadB ns) := by
      unfold rowD
      rw [c, fits_ns]
      rfl
    rw [tv]
    have a1 := x_allP ps (aheadB ns)
    generalize hS : nsD ns = S at e1 ⊢
    have lc : lcL (lcT (.tp [2, 3]) (dYes) (dCall "stands_ahead" 3 (asVar 0 (asVar 2 (asVar 3 (asNil))))) [2, 3] (tx.go (n + 2))) (psD ps) [.val (.tuple S), .val (ordD m ps), .un, .un] = .ok (ps.map fun p => .bool (aheadB ns p), [.val (.tuple S), .val (ordD m ps), .un, .un]) :=
      lcL_enc prD (fun p => .bool (aheadB ns p)) ps fun p hp => by
        have b := o.bd p hp
        have := r_stands_ahead (n + 1) ns p.1 p.2 (perm_has pm b.1 b.2.1) (perm_has pm b.2.2.1 b.2.2.2)
        rw [hS] at this
        simp [prD, this]
    simp [d_is_row_of, b_is_row_of, x_ord0, x_ord1, e1, l6, -x_lcT]
    rw [lc]
    simp [a1]
theorem r_is_row (n m : Nat) (ps : List (Int × Int)) (o : IsOrd m ps) (x : PyData) : tx.go (n+5) "is_row" [.val x, .val (ordD m ps)] = .ok (.val (.bool (rowD m ps x)), [.val x, .val (ordD m ps)]) := by
  rw [go_at tx (d := d_is_row) rfl]
  have no := r_need_order n m ps o
  have no : tx.go (n + 4) "need_order" [.val (ordD m ps)] = .ok (.val .none, [.val (ordD m ps)]) := no
  have e := r_is_row_of (n + 1) m ps o x
  simp [d_is_row, b_is_row, no, e]
theorem r_told_pairs (n : Nat) (m : Nat) (rs : List (List Int)) (hm : m ≤ 8) (hrs : rs.length ≤ 1000) (s0 : Slot) (h0 : s0 = .own (rsD rs) ∨ s0 = .val (.list (rsD rs))) (pr : ∀ r ∈ rs, ∀ i : Nat, i < m → (i : Int) ∈ r) :
    ∃ r, tx.go (n+2) "told_pairs" [.val (.int m), s0] = .ok r ∧ (r.1 = .val (.tuple (psD (toldP m rs))) ∧ ∃ s, r.2 = [.val (.int m), s] ∧ (s = s0 ∨ s = .val (.list (rsD rs)))) := by
  refine of_wp ?_
  rw [go_at tx (d := d_told_pairs) rfl]
  have sm : small62 m = true := small_in (by omega) (by omega)
  have rl : rs.length ≤ 1000000 := by omega
  simp [d_told_pairs, b_told_pairs, sm]
  refine wp_bind' (wp_bind' (forR_wp (fun i ρ => ∃ s1 s3 s4, ρ = [.val (.int m), s1, .own (psD ((partP m i).filter (tells rs))), s3, s4, .un] ∧ (s1 = s0 ∨ s1 = .val (.list (rsD rs)))) ⟨s0, .un, .un, by simp [partP], .inl rfl⟩ (fun ρ ⟨s1, s3, s4, e, hs⟩ => ?_) fun i ρ hi ⟨s1, s3, s4, e, hs⟩ => ?_))
  · subst e
    have hl : ((partP m m).filter (tells rs)).length ≤ 1000000 := by
      have h1 := List.length_filter_le (tells rs) (partP m m)
      have h2 := part_len m m
      have h3 : m * m ≤ 64 := Nat.mul_le_mul hm hm
      omega
    rcases h0 with rfl | rfl <;> rcases hs with rfl | rfl
    all_goals simp [toldP, gridP, partP, rowP] at hl ⊢
  · subst e
    simp [sm]
    refine forR_wp (fun j ρ => ∃ s1 s4, ρ = [.val (.int m), s1, .own (psD ((partP m i ++ rowP j i).filter (tells rs))), .val (.int i), s4, .un] ∧ (s1 = s0 ∨ s1 = .val (.list (rsD rs)))) ⟨s1, s4, by simp [rowP], hs⟩ (fun ρ ⟨s1, s4, e, hs⟩ => ?_) fun j ρ hj ⟨s1, s4, e, hs⟩ => ?_
    · subst e
      simp [part_succ]
      exact hs
    · subst e
      have hl : ((partP m i ++ rowP j i).filter (tells rs)).length ≤ 200 := by
        have h1 := List.length_filter_le (tells rs) (partP m i ++ rowP j i)
        have h2 := part_len m i
        have h3 : i * m ≤ 64 := Nat.mul_le_mul (show i ≤ 8 by omega) hm
        rw [List.length_append] at h1
        have h4 : (rowP j i).length = j := by simp [rowP]
        omega
      have app : ∀ t : Bool, tells rs ((i : Int), (j : Int)) = t → (partP m i ++ rowP (j + 1) i).filter (tells rs) = (partP m i ++ rowP j i).filter (tells rs) ++ if t then [((i : Int), (j : Int))] else [] := fun t ht => by
        rw [row_succ, ← List.append_assoc, List.filter_append]
        simp [List.filter_cons, ht]
      generalize hA : (partP m i ++ rowP j i).filter (tells rs) = A at hl app ⊢
      generalize hB : (partP m i ++ rowP (j + 1) i).filter (tells rs) = B at app ⊢
      have lc : ∀ ρ : Env, ρ = [.val (.int m), .val (.list (rsD rs)), .own (psD A), .val (.int i), .val (.int j), .un] → lcL (lcT (.nm 5) (dYes) (dCall "stands_ahead" 3 (asVar 5 (asVar 3 (asVar 4 (asNil))))) [5] (tx.go (n + 1))) (rsD rs) ρ = .ok (rs.map fun r => .bool (aheadB r ((i : Int), (j : Int))), ρ) := fun ρ e => by
        subst e
        refine lcL_enc (fun r => .tuple (nsD r)) _ rs fun r hr => ?_
        have := r_stands_ahead n r i j (pr r hr i hi) (pr r hr j hj)
        generalize nsD r = S at this
        simp [this]
      have al := x_all rs fun r => aheadB r ((i : Int), (j : Int))
      have tl : tells rs ((i : Int), (j : Int)) = (decide (i ≠ j) && rs.all fun r => aheadB r ((i : Int), (j : Int))) := by
        unfold tells
        congr 1
        simp
        omega
      generalize (rs.all fun r => aheadB r ((i : Int), (j : Int))) = z at al tl
      by_cases c : i = j
      · have ht : tells rs ((i : Int), (j : Int)) = false := by simp [tells, c]
        have f := app false ht
        rw [if_neg Bool.false_ne_true, List.append_nil] at f
        subst f
        have c' : (i : Int) = (j : Int) := by omega
        rcases h0 with rfl | rfl <;> rcases hs with rfl | rfl
        all_goals
          simp [c']
      · have c' : ¬ ((i : Int) = (j : Int)) := by omega
        rw [decide_eq_true c, Bool.true_and] at tl
        have f := app z tl
        have z2 := x_app (psD A) (prD ((i : Int), (j : Int))) (by rw [List.length_map]; omega)
        rcases h0 with rfl | rfl <;> rcases hs with rfl | rfl
        all_goals
          simp [rl, c, c', -x_lcT]
          rw [lc _ rfl]
          generalize (rs.map fun r => PyData.bool (aheadB r ((i : Int), (j : Int)))) = W at al
          cases z with
          | true =>
            rw [if_pos rfl] at f
            have e2 : psD A ++ [prD ((i : Int), (j : Int))] = psD B := by rw [f]; simp
            rw [e2] at z2
            unfold prD at z2
            simp [c', c, al, z2]
          | false =>
            rw [if_neg Bool.false_ne_true, List.append_nil] at f
            subst f
            simp [c', c, al]
theorem r_are_rows (n m : Nat) (ps : List (Int × Int)) (o : IsOrd m ps) (d : PyData) (hd : ∀ ds, d = .list ds → ds.length ≤ 900) : tx.go (n+4) "are_rows" [.val d, .val (ordD m ps)] = .ok (.val (.bool (rowsD m ps d)), [.val d, .val (ordD m ps)]) := by
  rw [go_at tx (d := d_are_rows) rfl]
  cases d with
  | list ds =>
    have hl := hd ds rfl
    have l6 : ds.length ≤ 1000000 := by omega
    have l1 : lcL (lcT (.nm 2) (dYes) (dCall "is_row_of" 2 (asVar 2 (asVar 1 (asNil)))) [2] (tx.go (n + 3))) ds [.val (.list ds), .val (ordD m ps), .un] = .ok (ds.map fun d => .bool (rowD m ps d), [.val (.list ds), .val (ordD m ps), .un]) :=
      lcL_ea (fun d => .bool (rowD m ps d)) ds fun d _ => by
        have := r_is_row_of n m ps o d
        simp [this]
    have a1 := x_all ds (rowD m ps)
    have ne := neL0 ds
    have tv : rowsD m ps (.list ds) = (decide (ds ≠ []) && ds.all (rowD m ps)) := rfl
    rw [tv]
    generalize ds.all (rowD m ps) = z at a1
    by_cases c : ds = []
    · subst c
      simp [d_are_rows, b_are_rows, isT, ne]
    · have ne : pNe [.list ds, .list []] = some (.val (.bool true)) := by rw [ne]; simp [c]
      simp [d_are_rows, b_are_rows, isT, ne, l6, -x_lcT]
      rw [l1]
      generalize (ds.map fun d => PyData.bool (rowD m ps d)) = W at a1
      simp [a1, c]
  | _ => simp [d_are_rows, b_are_rows, isT, rowsD]
theorem r_tell (n m : Nat) (ps : List (Int × Int)) (o : IsOrd m ps) (d : PyData) (hd : ∀ ds, d = .list ds → ds.length ≤ 900) : tx.go (n+5) "tell" [.val d, .val (ordD m ps)] = .ok (.val (.bool (tellD m ps d)), [.val d, .val (ordD m ps)]) := by
  rw [go_at tx (d := d_tell) rfl]
  have hm : m ≤ 8 := by have := o.hi; omega
  have no := r_need_order n m ps o
  have no : tx.go (n + 4) "need_order" [.val (ordD m ps)] = .ok (.val .none, [.val (ordD m ps)]) := no
  have e := r_are_rows n m ps o d hd
  cases c : rowsD m ps d with
  | false =>
    rw [c] at e
    simp [d_tell, b_tell, no, e, tellD, c]
  | true =>
    rw [c] at e
    obtain ⟨rs, rfl, ne, hr⟩ := rowsD_true c
    rw [tellD_rs ne hr]
    have hl := hd _ rfl
    rw [List.length_map] at hl
    obtain ⟨⟨r1, r2⟩, e1, h1, s, h2, hs⟩ := r_told_pairs (n + 2) m rs hm (by omega) _ (.inr rfl) fun r hr' i hi => perm_has (hr r hr').1 (by omega) (by omega)
    simp only at h1 h2
    subst h1
    subst h2
    have eq := x_eqPT (toldP m rs) ps
    have hs : s = .val (.list (rsD rs)) := hs.elim id id
    subst hs
    generalize psD (toldP m rs) = T at e1 eq
    generalize rsD rs = R at e e1
    simp [d_tell, b_tell, no, e, x_ord0, x_ord1, e1, eq]
theorem r_need_rows (n m : Nat) (ps : List (Int × Int)) (o : IsOrd m ps) (d : PyData) (hd : ∀ ds, d = .list ds → ds.length ≤ 900) (h : rowsD m ps d = true) : tx.go (n+5) "need_rows" [.val (ordD m ps), .val d] = .ok (.val .none, [.val (ordD m ps), .val d]) := by
  rw [go_at tx (d := d_need_rows) rfl]
  have no := r_need_order n m ps o
  have no : tx.go (n + 4) "need_order" [.val (ordD m ps)] = .ok (.val .none, [.val (ordD m ps)]) := no
  have e := r_are_rows n m ps o d hd
  rw [h] at e
  simp [d_need_rows, b_need_rows, no, e]
/-- a turn that no row turns -/
def leftB (ps : List (Int × Int)) (rs : List (List Int)) (p : Int × Int) : Bool := apartB ps p.1 p.2 && rs.all fun r => aheadB r p
def firstD : List (Int × Int) → PyData
  | [] => .none
  | p :: _ => prD p
theorem ex_part (w i : Nat) : ∀ k, i ≤ k → ∃ r, partP w k = partP w i ++ r := fun k h => by
  induction h with
  | refl => exact ⟨[], by rw [List.append_nil]⟩
  | step _ ih =>
    obtain ⟨r, e⟩ := ih
    exact ⟨r ++ rowP w _, by rw [part_succ, e, List.append_assoc]⟩
theorem ex_row (i j : Nat) : ∀ k, j ≤ k → ∃ r, rowP k i = rowP j i ++ r := fun k h => by
  induction h with
  | refl => exact ⟨[], by rw [List.append_nil]⟩
  | step _ ih =>
    obtain ⟨r, e⟩ := ih
    exact ⟨r ++ [_], by rw [row_succ, e, List.append_assoc]⟩
theorem first_at {m i j : Nat} {f : Int × Int → Bool} (hi : i < m) (hj : j < m) (h : (partP m i ++ rowP j i).filter f = []) (g : f ((i : Int), (j : Int)) = true) : firstD ((gridP m).filter f) = prD ((i : Int), (j : Int)) := by
  obtain ⟨r1, e1⟩ := ex_part m (i + 1) m hi
  obtain ⟨r2, e2⟩ := ex_row i (j + 1) m hj
  have e : gridP m = (partP m i ++ rowP j i) ++ (((i : Int), (j : Int)) :: (r2 ++ r1)) := by
    have : gridP m = partP m m := rfl
    rw [this, e1, part_succ, e2, row_succ]
    simp
  rw [e, List.filter_append, h, List.nil_append, List.filter_cons, if_pos g]
  rfl
def NoF (f : Int × Int → Bool) (L : List (Int × Int)) : Prop := L.filter f = []
theorem r_first_left (n m : Nat) (ps : List (Int × Int)) (o : IsOrd m ps) (rs : List (List Int)) (ne : rs ≠ []) (hr : RowsI m ps rs) (hl : rs.length ≤ 900) : ∃ r, tx.go (n+6) "first_left" [.val (ordD m ps), .val (.list (rsD rs))] = .ok r ∧ r = (.val (firstD ((gridP m).filter (leftB ps rs))), [.val (ordD m ps), .val (.list (rsD rs))]) := by
  refine of_wp ?_
  rw [go_at tx (d := d_first_left) rfl]
  have hm : m ≤ 8 := by have := o.hi; omega
  have sm : small62 m = true := small_in (by omega) (by omega)
  have e := r_need_rows n m ps o (.list (rsD rs)) (fun ds e => by cases e; rw [List.length_map]; exact hl) (rowsD_of ne hr)
  have R6 : (rsD rs).length ≤ 1000000 := by rw [List.length_map]; omega
  have lc : ∀ (i j : Nat), i < m → j < m → lcL (lcT (.nm 4) (dYes) (dCall "stands_ahead" 3 (asVar 4 (asVar 2 (asVar 3 (asNil))))) [4] (tx.go (n + 5))) (rsD rs) [.val (ordD m ps), .val (.list (rsD rs)), .val (.int i), .val (.int j), .un] = .ok (rs.map fun r => .bool (aheadB r ((i : Int), (j : Int))), [.val (ordD m ps), .val (.list (rsD rs)), .val (.int i), .val (.int j), .un]) := fun i j hi hj =>
    lcL_enc (fun r => .tuple (nsD r)) _ rs fun r h => by
      have := r_stands_ahead (n + 4) r i j (perm_has (hr r h).1 (by omega) (by omega)) (perm_has (hr r h).1 (by omega) (by omega))
      generalize nsD r = S at this
      simp [this]
  generalize rsD rs = R at e R6 lc ⊢
  simp [d_first_left, b_first_left, e, x_ord0, sm]
  refine wp_bind' (wp_bind' (forR_wp (fun i ρ => NoF (leftB ps rs) (partP m i) ∧ ∃ s2 s3, ρ = [.val (ordD m ps), .val (.list R), s2, s3, .un]) ⟨rfl, _, _, rfl⟩ (fun ρ ⟨h, s2, s3, e⟩ => ?_) fun i ρ hi ⟨h, s2, s3, e⟩ => ?_))
  · subst e
    have h : (gridP m).filter (leftB ps rs) = [] := h
    rw [h]
    simp [firstD]
  · subst e
    simp [x_ord0, sm]
    refine forR_wp (fun j ρ => NoF (leftB ps rs) (rowP j i) ∧ ∃ s3, ρ = [.val (ordD m ps), .val (.list R), .val (.int i), s3, .un]) ⟨rfl, _, rfl⟩ (fun ρ ⟨g, s3, e⟩ => ?_) fun j ρ hj ⟨g, s3, e⟩ => ?_
    · subst e
      refine ⟨?_, _, _, rfl⟩
      unfold NoF at *
      rw [part_succ, List.filter_append, h, g]
      rfl
    · subst e
      have ap := r_are_apart (n + 4) m i j ps
      have al := x_all rs fun r => aheadB r ((i : Int), (j : Int))
      have lc := lc i j hi hj
      have tv : leftB ps rs ((i : Int), (j : Int)) = (apartB ps i j && rs.all fun r => aheadB r ((i : Int), (j : Int))) := rfl
      have nxt : leftB ps rs ((i : Int), (j : Int)) = false → NoF (leftB ps rs) (rowP (j + 1) i) := fun z => by
        unfold NoF at *
        rw [row_succ, List.filter_append, g, List.filter_cons, z]
        rfl
      have fnd : leftB ps rs ((i : Int), (j : Int)) = true → firstD ((gridP m).filter (leftB ps rs)) = prD ((i : Int), (j : Int)) := fun z => first_at hi hj (by unfold NoF at *; rw [List.filter_append, h, g]; rfl) z
      generalize firstD ((gridP m).filter (leftB ps rs)) = V at fnd ⊢
      rw [tv] at nxt fnd
      generalize (rs.all fun r => aheadB r ((i : Int), (j : Int))) = z at al nxt fnd
      generalize (rs.map fun r => PyData.bool (aheadB r ((i : Int), (j : Int)))) = W at lc al
      cases c : apartB ps i j with
      | false =>
        rw [c] at ap nxt
        have nxt := nxt rfl
        simp [ap]
        exact nxt
      | true =>
        rw [c] at ap nxt fnd
        simp [ap, R6, -x_lcT]
        rw [lc]
        cases z with
        | false =>
          have nxt := nxt rfl
          simp [al]
          exact nxt
        | true =>
          have fnd := fnd rfl
          subst fnd
          simp [al, prD]
/-- a number of things -/
def manyB : PyData → Bool
  | .int i => decide (1 ≤ i) && decide (i ≤ 8)
  | _ => false
/-- a list of one or more tuples of all -/
def rowsT (m : Nat) : PyData → Bool
  | .list ds => decide (ds ≠ []) && ds.all (rowT m)
  | _ => false
theorem rowsT_true {m : Nat} {x : PyData} (h : rowsT m x = true) : ∃ rs, x = .list (rsD rs) ∧ rs ≠ [] ∧ ∀ r ∈ rs, r.Perm (upTo m) := by
  cases x with
  | list ds =>
    have h : (decide (ds ≠ []) && ds.all (rowT m)) = true := h
    rw [Bool.and_eq_true, decide_eq_true_eq, List.all_eq_true] at h
    have key : ∀ d ∈ ds, d = .tuple (nsD (rowOf d)) ∧ (rowOf d).Perm (upTo m) := fun d hd => by
      obtain ⟨ns, rfl, pm⟩ := rowT_true (h.2 d hd)
      rw [rowOf_ns]
      exact ⟨rfl, pm⟩
    refine ⟨ds.map rowOf, ?_, by simpa using h.1, fun r hr => ?_⟩
    · rw [rs_of ds fun d hd => (key d hd).1]
    · obtain ⟨d, hd, rfl⟩ := List.mem_map.mp hr
      exact (key d hd).2
  | _ => cases h
theorem rowsT_of {m : Nat} {rs : List (List Int)} (ne : rs ≠ []) (h : ∀ r ∈ rs, r.Perm (upTo m)) : rowsT m (.list (rsD rs)) = true := by
  show (decide (rsD rs ≠ []) && (rsD rs).all (rowT m)) = true
  rw [Bool.and_eq_true, decide_eq_true_eq, List.all_eq_true]
  refine ⟨by simpa using ne, fun d hd => ?_⟩
  obtain ⟨r, hr, rfl⟩ := List.mem_map.mp hd
  exact rowT_of (h r hr)
theorem lc_rowT (n m : Nat) (hm : m ≤ 8) (ds : List PyData) (s0 : PyData) (hs : s0 = .int m) (s1 : Slot) : lcL (lcT (.nm 2) (dYes) (dCall "is_tuple_of_all" 2 (asVar 0 (asVar 2 (asNil)))) [2] (tx.go (n + 2))) ds [.val s0, s1, .un] = .ok (ds.map fun d => .bool (rowT m d), [.val s0, s1, .un]) :=
  lcL_ea (fun d => .bool (rowT m d)) ds fun d _ => by
    subst hs
    have := r_is_tuple_of_all n m hm d
    simp [this]
theorem r_told_by (n m : Nat) (hm : 1 ≤ m ∧ m ≤ 8) (rs : List (List Int)) (ne : rs ≠ []) (hr : ∀ r ∈ rs, r.Perm (upTo m)) (hl : rs.length ≤ 900) : tx.go (n+4) "told_by" [.val (.int m), .val (.list (rsD rs))] = .ok (.val (ordD m (toldP m rs)), [.val (.int m), .val (.list (rsD rs))]) := by
  rw [go_at tx (d := d_told_by) rfl]
  have e0 := r_need_many n m (by omega) (by omega)
  have R6 : (rsD rs).length ≤ 1000000 := by rw [List.length_map]; omega
  have lc := lc_rowT (n + 1) m hm.2 (rsD rs) _ rfl (.val (.list (rsD rs)))
  have al := x_all (rsD rs) (rowT m)
  have wt : (rsD rs).all (rowT m) = true := by
    have := rowsT_of ne hr
    have : (decide (rsD rs ≠ []) && (rsD rs).all (rowT m)) = true := this
    rw [Bool.and_eq_true] at this
    exact this.2
  rw [wt] at al
  have eq0 : pEq [.list (rsD rs), .list []] = some (.val (.bool false)) := by rw [eqL0, decide_eq_false (by simpa using ne)]
  obtain ⟨⟨r1, r2⟩, e1, h1, s, h2, hs⟩ := r_told_pairs (n + 1) m rs hm.2 (by omega) _ (.inr rfl) fun r hr' i hi => perm_has (hr r hr') (by omega) (by omega)
  simp only at h1 h2
  subst h1
  have hs : s = .val (.list (rsD rs)) := hs.elim id id
  subst hs
  subst h2
  have od : ordD m (toldP m rs) = .tuple [.int m, .tuple (psD (toldP m rs))] := rfl
  rw [od]
  generalize psD (toldP m rs) = T at e1 ⊢
  generalize rsD rs = R at e1 R6 lc al eq0 ⊢
  simp [d_told_by, b_told_by, e0, isT, eq0, R6, -x_lcT]
  rw [lc]
  generalize (R.map fun d => PyData.bool (rowT m d)) = W at al
  simp [al, e1]
theorem r_next_things (n m : Nat) (ps : List (Int × Int)) (o : IsOrd m ps) (R : List Int) : ∃ r, tx.go (n+1) "next_things" [.val (ordD m ps), .own (nsD R)] = .ok r ∧ r = (.own (nsD (freeI m ps R)), [.val (ordD m ps), .own (nsD R)]) := by
  refine of_wp ?_
  rw [go_at tx (d := d_next_things) rfl]
  have hm : m ≤ 8 := by have := o.hi; omega
  have hl := o.len
  have l6 : ps.length ≤ 1000000 := by omega
  have sm : small62 m = true := small_in (by omega) (by omega)
  have nin : ∀ x : Int, pNin [.int x, .list (nsD R)] = some (.val (.bool (!decide (x ∈ R)))) := x_ninLi R
  have inn : ∀ x : Int, pIn [.int x, .list (nsD R)] = some (.val (.bool (decide (x ∈ R)))) := x_inLi R
  generalize nsD R = S at nin inn ⊢
  simp [d_next_things, b_next_things, x_ord0, sm]
  refine wp_bind' (wp_bind' (forR_wp (fun i ρ => ∃ s3, ρ = [.val (ordD m ps), .own S, .own (nsD ((upTo i).filter fun t => decide (t ∉ R) && ps.all fun p => !(decide (p.2 = t) && !decide (p.1 ∈ R)))), s3, .un, .un]) ⟨.un, by simp [upTo]⟩ (fun ρ ⟨s3, e⟩ => ?_) fun i ρ hi ⟨s3, e⟩ => ?_))
  · subst e
    have ff : (upTo m).filter (fun t => decide (t ∉ R) && ps.all fun p => !(decide (p.2 = t) && !decide (p.1 ∈ R))) = freeI m ps R := rfl
    rw [ff]
    generalize nsD (freeI m ps R) = W
    simp
  · subst e
    have fl := List.length_filter_le (fun t => decide (t ∉ R) && ps.all fun p => !(decide (p.2 = t) && !decide (p.1 ∈ R))) (upTo i)
    rw [upTo_len] at fl
    have us : (upTo (i + 1)).filter (fun t => decide (t ∉ R) && ps.all fun p => !(decide (p.2 = t) && !decide (p.1 ∈ R))) = (upTo i).filter (fun t => decide (t ∉ R) && ps.all fun p => !(decide (p.2 = t) && !decide (p.1 ∈ R))) ++ if (decide ((i : Int) ∉ R) && ps.all fun p => !(decide (p.2 = (i : Int)) && !decide (p.1 ∈ R))) = true then [(i : Int)] else [] := by
      rw [upTo_succ, List.filter_append, List.filter_cons, List.filter_nil]
    generalize hA : (upTo i).filter (fun t => decide (t ∉ R) && ps.all fun p => !(decide (p.2 = t) && !decide (p.1 ∈ R))) = A at us fl ⊢
    generalize hB : (upTo (i + 1)).filter (fun t => decide (t ∉ R) && ps.all fun p => !(decide (p.2 = t) && !decide (p.1 ∈ R))) = B at us ⊢
    clear hA hB
    have lc : ∀ s2 : Slot, lcL (lcT (.tp [4, 5]) (dP pEq (osCons (oVar 5) (osCons (oVar 3) (osNil)))) (dP pIn (osCons (oVar 4) (osCons (oVar 1) (osNil)))) [4, 5] (tx.go n)) (psD ps) [.val (ordD m ps), .own S, s2, .val (.int i), .un, .un] = .ok ((ps.filter fun p => decide (p.2 = (i : Int))).map fun p => .bool (decide (p.1 ∈ R)), [.val (ordD m ps), .own S, s2, .val (.int i), .un, .un]) := fun s2 =>
      lcL_enc2 prD _ _ ps fun p hp => by
        have n1 := inn p.1
        by_cases c1 : p.2 = (i : Int)
        · simp [prD, n1, c1]
        · simp [prD, c1]
    have al := x_all (ps.filter fun p => decide (p.2 = (i : Int))) fun p => decide (p.1 ∈ R)
    have bb : ((ps.filter fun p => decide (p.2 = (i : Int))).all fun p => decide (p.1 ∈ R)) = ps.all fun p => !(decide (p.2 = (i : Int)) && !decide (p.1 ∈ R)) := by
      rw [List.all_filter]
      congr 1
      funext p
      cases decide (p.2 = (i : Int)) <;> cases decide (p.1 ∈ R) <;> rfl
    rw [bb] at al
    generalize ps.all (fun p => !(decide (p.2 = (i : Int)) && !decide (p.1 ∈ R))) = free at us al
    have ni := nin i
    have ap := x_app (nsD A) (.int i) (by rw [List.length_map]; omega)
    have ea : nsD A ++ [.int (i : Int)] = nsD (A ++ [(i : Int)]) := by simp
    rw [ea] at ap
    by_cases c1 : (i : Int) ∈ R
    · rw [if_neg (by simp [c1]), List.append_nil] at us
      subst us
      simp [ni, c1]
    · simp [ni, c1, x_ord1, l6, -x_lcT]
      rw [lc]
      generalize (ps.filter fun p => decide (p.2 = (i : Int))).map (fun p => PyData.bool (decide (p.1 ∈ R))) = W at al
      cases free with
      | false =>
        rw [if_neg (by simp), List.append_nil] at us
        subst us
        simp [al]
      | true =>
        rw [if_pos (by simp [c1])] at us
        subst us
        simp [al, ap]
theorem ns_app (a b : List Int) : nsD (a ++ b) = nsD a ++ nsD b := List.map_append
def WI (m : Nat) (ps : List (Int × Int)) (k t0 : Nat) (g : List Int) (s3 : Slot) (i : Nat) (acc : List PyData) (ρ : Env) : Prop := ∃ T, ρ = [.val (ordD m ps), .own (nsD g), .odc true (tabN T), s3, .un] ∧ acc = (((freeI m ps g).take i).map fun x => cnt m ps k (g ++ [x])).map (fun n : Nat => PyData.int n) ∧ TabOk m ps T ∧ T.length ≤ t0 + i * more m k
theorem r_ways_from (n m : Nat) (ps : List (Int × Int)) (o : IsOrd m ps) : ∀ (k : Nat) (g : List Int), Beg m ps g → m = g.length + k → ∀ T, TabOk m ps T → T.length + more m k < 1000000 →
    ∃ r, tx.go (n+k+2) "ways_from" [.val (ordD m ps), .own (nsD g), .odc true (tabN T)] = .ok r ∧ ∃ T', r = (.val (.int (cnt m ps k g : Nat)), [.val (ordD m ps), .own (nsD g), .odc true (tabN T')]) ∧ TabOk m ps T' ∧ T'.length ≤ T.length + more m k := by
  have hm : m ≤ 8 := by have := o.hi; omega
  intro k
  induction k with
  | zero =>
    intro g b e T t tl
    refine of_wp ?_
    rw [go_at tx (d := d_ways_from) rfl]
    have st := x_sortIL g (by omega)
    have sl : (nsD (sortI g)).length = m := by rw [List.length_map, (sortI_perm g).length_eq]; omega
    have s6 : (nsD (sortI g)).length ≤ 1000000 := by omega
    have qq : ∃ T', tabN T = tabN T' ∧ TabOk m ps T' ∧ T'.length ≤ T.length + more m 0 := ⟨T, rfl, t, Nat.le_add_right _ _⟩
    generalize nsD (sortI g) = S at st sl s6
    generalize nsD g = G at st ⊢
    generalize tabN T = D at qq ⊢
    have sm : m ≤ 1000000 := by omega
    simp [d_ways_from, b_ways_from, st, sl, s6, sm, x_ord0, cnt]
    exact qq
  | succ k ih =>
    intro g b e T t tl
    refine of_wp ?_
    rw [go_at tx (d := d_ways_from) rfl]
    have st := x_sortIL g (by omega)
    have gl : (nsD (sortI g)).length = g.length := by rw [List.length_map, (sortI_perm g).length_eq]
    have s6 : (nsD (sortI g)).length ≤ 1000000 := by omega
    have ne : ¬ ((nsD (sortI g)).length : Int) = m := by omega
    have ne2 : ¬ ((sortI g).length : Int) = m := by rw [(sortI_perm g).length_eq]; omega
    have ko := x_kOkN (sortI g)
    have lk := look_ns T (sortI g)
    have ek : m - g.length = k + 1 := by omega
    cases c : lookL T (sortI g) with
    | some v =>
      have hv := t.look c
      rw [ek] at hv
      rw [c] at lk
      subst hv
      have qq : ∃ T', tabN T = tabN T' ∧ TabOk m ps T' ∧ T'.length ≤ T.length + more m (k + 1) := ⟨T, rfl, t, Nat.le_add_right _ _⟩
      generalize ((cnt m ps (k + 1) g : Nat) : Int) = V at lk ⊢
      generalize nsD (sortI g) = S at st gl s6 ne ko lk
      generalize nsD g = G at st ⊢
      generalize tabN T = D at lk qq ⊢
      simp [d_ways_from, b_ways_from, st, s6, ne, x_ord0, ko, lk]
      exact qq
    | none =>
      rw [c] at lk
      have nx := r_next_things (n + k + 1) m ps o g
      obtain ⟨_, nx, rfl⟩ := nx
      have nx : tx.go (n + (k + 1) + 1) "next_things" [.val (ordD m ps), .own (nsD g)] = .ok (.own (nsD (freeI m ps g)), [.val (ordD m ps), .own (nsD g)]) := nx
      have mf : ∀ x ∈ freeI m ps g, Beg m ps (g ++ [x]) := fun x hx => b.snoc hx
      have fl := freeI_len m ps g
      have F6 : (nsD (freeI m ps g)).length ≤ 1000000 := by rw [List.length_map]; omega
      have mm : more m (k + 1) = 1 + m * more m k := rfl
      have mle : ∀ i, i ≤ (freeI m ps g).length → i * more m k ≤ m * more m k := fun i hi => Nat.mul_le_mul_right _ (by omega)
      have add : ∀ x : Int, pAdd [.list (nsD g), .list [.int x]] = some (.own (nsD (g ++ [x]))) := fun x => by
        rw [addL (by rw [List.length_map, List.length_singleton]; omega)]
        exact congrArg (fun z => some (Slot.own z)) (ns_app g [x]).symm
      have run : ∀ s3 : Slot, (lcL (lcT (.nm 4) (dYes) (dCall "ways_from" 3 (asVar 0 (asExp (dP pAdd (osCons (oVar 1) (osCons (oOf (dLst (fsCons (dVar 4) (fsNil)))) (osNil)))) (asVar 2 (asNil))))) [4] (tx.go (n + (k + 1) + 1))) (nsD (freeI m ps g)) [.val (ordD m ps), .own (nsD g), .odc true (tabN T), s3, .un]).wp (fun r => WI m ps k T.length g s3 (freeI m ps g).length r.1 r.2) fun _ => False := fun s3 => by
        have fn : (nsD (freeI m ps g)).length = (freeI m ps g).length := List.length_map _
        refine lcI_wp (WI m ps k T.length g s3) ⟨T, rfl, by simp, t, by omega⟩ (fun out ρ h => by rw [fn] at h; exact h) fun i d acc ρ hd ⟨T1, e1, e2, t1, l1⟩ => ?_
        subst e1
        have hi : i < (freeI m ps g).length := by
          have := (List.getElem?_eq_some_iff.mp hd).1
          rwa [List.length_map] at this
        have ed : d = .int (freeI m ps g)[i] := by
          have h := hd
          rw [List.getElem?_map, List.getElem?_eq_getElem hi] at h
          exact (Option.some.inj h).symm
        have tk : (freeI m ps g).take (i + 1) = (freeI m ps g).take i ++ [(freeI m ps g)[i]] := List.take_succ_eq_append_getElem hi
        have bx := mf _ (List.getElem_mem hi)
        have m1 := mle (i + 1) hi
        have m2 : (i + 1) * more m k = i * more m k + more m k := Nat.succ_mul _ _
        obtain ⟨_, e3, T2, rfl, t2, l2⟩ := ih (g ++ [(freeI m ps g)[i]]) bx (by rw [List.length_append, List.length_singleton]; omega) T1 t1 (by omega)
        have ad := add (freeI m ps g)[i]
        have fin : WI m ps k T.length g s3 (i + 1) (acc ++ [.int (cnt m ps k (g ++ [(freeI m ps g)[i]]) : Nat)]) [.val (ordD m ps), .own (nsD g), .odc true (tabN T2), s3, .un] := by
          refine ⟨T2, rfl, ?_, t2, by omega⟩
          rw [tk, List.map_append, List.map_append, e2]
          rfl
        generalize (cnt m ps k (g ++ [(freeI m ps g)[i]])) = V at e3 fin
        generalize nsD (g ++ [(freeI m ps g)[i]]) = G2 at e3 ad
        generalize (freeI m ps g)[i] = x at ed ad
        subst ed
        have e3 : tx.go (n + (k + 1) + 1) "ways_from" [.val (ordD m ps), .own G2, .odc true (tabN T1)] = .ok (.val (.int V), [.val (ordD m ps), .own G2, .odc true (tabN T2)]) := e3
        generalize nsD g = G at ad fin ⊢
        generalize tabN T1 = D1 at e3 ⊢
        generalize tabN T2 = D2 at e3 fin
        simp [ad, e3]
        exact fin
      have sv : ∀ acc : List PyData, acc = ((freeI m ps g).map fun x => cnt m ps k (g ++ [x])).map (fun n : Nat => PyData.int n) → pSum [.list acc] = some (.val (.int (cnt m ps (k + 1) g : Nat))) := fun acc e => by
        subst e
        show (numsOf _).map _ = _
        have : (((freeI m ps g).map fun x => cnt m ps k (g ++ [x])).map (fun n : Nat => PyData.int n)) = nsD (((freeI m ps g).map fun x => cnt m ps k (g ++ [x])).map fun n : Nat => (n : Int)) := by
          rw [nsD_map]
        rw [this, numsOf_map, Option.map_some, sum_ns]
        rfl
      have fin : ∀ T1, TabOk m ps T1 → T1.length ≤ T.length + (freeI m ps g).length * more m k → TabOk m ps (putL T1 (sortI g) (cnt m ps (k + 1) g : Nat)) ∧ (putL T1 (sortI g) (cnt m ps (k + 1) g : Nat)).length ≤ T.length + more m (k + 1) ∧ T1.length < 1000000 := fun T1 t1 l1 => by
        have := t1.put b
        rw [ek] at this
        have := mle _ (Nat.le_refl _)
        have pl := putL_len (T := T1) (k := sortI g) (v := (cnt m ps (k + 1) g : Nat))
        refine ⟨by assumption, by omega, by omega⟩
      simp [d_ways_from, b_ways_from, st, s6, ne, ne2, x_ord0, ko, lk, nx, F6, -x_lcT]
      have F7 : (freeI m ps g).length ≤ 1000000 := by omega
      simp [F7, -x_lcT]
      refine wp_bind' (wp_bind' (wp_bind' (wp_bind' (wp_bind' (wp_bind' (wp_bind' (wp_bind' (noX_wp (wp_mono (run _) ?_ fun _ h => h)))))))))
      rintro ⟨acc, ρ⟩ ⟨T1, e1, e2, t1, l1⟩
      simp only at e1 e2
      subst e1
      rw [List.take_length] at e2
      have al : acc.length ≤ 1000000 := by rw [e2, List.length_map, List.length_map]; omega
      have sv := sv acc e2
      obtain ⟨f1, f2, f3⟩ := fin T1 t1 l1
      have pn := put_ns T1 (sortI g) (cnt m ps (k + 1) g : Nat)
      have ln := look_ns (putL T1 (sortI g) (cnt m ps (k + 1) g : Nat)) (sortI g)
      rw [lookL_put, if_pos rfl] at ln
      have tz : (tabN T1).length < 1000000 := by
        unfold tabN
        rw [List.length_map]
        exact f3
      have qq : ∃ T', tabN (putL T1 (sortI g) (cnt m ps (k + 1) g : Nat)) = tabN T' ∧ TabOk m ps T' ∧ T'.length ≤ T.length + more m (k + 1) := ⟨_, rfl, f1, f2⟩
      generalize tabN (putL T1 (sortI g) (cnt m ps (k + 1) g : Nat)) = D2 at pn ln qq
      generalize tabN T1 = D1 at pn tz ⊢
      generalize ((cnt m ps (k + 1) g : Nat) : Int) = V at sv pn ln ⊢
      generalize nsD (sortI g) = S at ko pn ln ⊢
      generalize nsD g = G
      clear e2
      simp [al, sv, ko, tz, pn, ln]
      exact qq
theorem more_le {m : Nat} (hm : m ≤ 6) (k : Nat) (hk : k ≤ 6) : more m k ≤ 9331 := by
  have h : ∀ k, more m k ≤ more 6 k := fun k => by
    induction k with
    | zero => exact Nat.le_refl _
    | succ k ih => exact Nat.add_le_add_left (Nat.mul_le_mul hm ih) 1
  have g : ∀ k, k ≤ 6 → more 6 k ≤ 9331 := by
    intro k hk
    match k, hk with
    | 0, _ => decide
    | 1, _ => decide
    | 2, _ => decide
    | 3, _ => decide
    | 4, _ => decide
    | 5, _ => decide
    | 6, _ => decide
  exact Nat.le_trans (h k) (g k hk)
theorem ways_at (F m : Nat) (ps : List (Int × Int)) (o : IsOrd m ps) (hm : m ≤ 6) (hF : 8 ≤ F) (k : Nat) (g : List Int) (b : Beg m ps g) (e : m = g.length + k) (T : List (List Int × Int)) (t : TabOk m ps T) (tl : T.length ≤ 900000) :
    ∃ r, tx.go F "ways_from" [.val (ordD m ps), .own (nsD g), .odc true (tabN T)] = .ok r ∧ ∃ T', r = (.val (.int (cnt m ps k g : Nat)), [.val (ordD m ps), .own (nsD g), .odc true (tabN T')]) ∧ TabOk m ps T' ∧ T'.length ≤ T.length + 9331 := by
  have ml := more_le hm k (by omega)
  obtain ⟨r, h1, T', h2, h3, h4⟩ := r_ways_from (F - k - 2) m ps o k g b e T t (by omega)
  rw [show F - k - 2 + k + 2 = F by omega] at h1
  exact ⟨r, h1, T', h2, h3, by omega⟩
theorem r_rows_many (n m : Nat) (ps : List (Int × Int)) (o : IsOrd m ps) (hm : m ≤ 6) : tx.go (n+9) "rows_many" [.val (ordD m ps)] = .ok (.val (.int (cnt m ps m [] : Nat)), [.val (ordD m ps)]) := by
  rw [go_at tx (d := d_rows_many) rfl]
  have no := r_need_order (n + 4) m ps o
  have no : tx.go (n + 8) "need_order" [.val (ordD m ps)] = .ok (.val .none, [.val (ordD m ps)]) := no
  obtain ⟨_, e, T', rfl, _⟩ := ways_at (n + 8) m ps o hm (by omega) m [] .nil (by simp) [] .nil (by simp)
  have e : tx.go (n + 8) "ways_from" [.val (ordD m ps), .own [], .odc true []] = .ok (.val (.int (cnt m ps m [] : Nat)), [.val (ordD m ps), .own [], .odc true (tabN T')]) := e
  generalize ((cnt m ps m [] : Nat) : Int) = V at e ⊢
  simp [d_rows_many, b_rows_many, no, e]
/-- a number of its rows -/
def numB (c : Nat) : PyData → Bool
  | .int i => decide (0 ≤ i) && decide (i < c)
  | _ => false
def NI (m : Nat) (ps : List (Int × Int)) (N : Nat) (k : Nat) (ρ : Env) : Prop := ∃ T l R s5 s6, ρ = [.val (ordD m ps), .val (.int N), .odc true (tabN T), .val (.int (l : Nat)), .own (nsD R), s5, s6] ∧ Beg m ps R ∧ m = R.length + k ∧ TabOk m ps T ∧ T.length ≤ 9331 + (m - k) * 60000 ∧ l < cnt m ps k R ∧ (ext m ps m [])[N]? = (ext m ps k R)[l]?
def NJ (m : Nat) (ps : List (Int × Int)) (N k t0 : Nat) (R : List Int) (j : Nat) (ρ : Env) : Prop := ∃ T l s5 s6, ρ = [.val (ordD m ps), .val (.int N), .odc true (tabN T), .val (.int (l : Nat)), .own (nsD R), s5, s6] ∧ TabOk m ps T ∧ T.length ≤ t0 + j * 9331 ∧ l < (((freeI m ps R).drop j).flatMap fun x => ext m ps k (R ++ [x])).length ∧ (ext m ps m [])[N]? = (((freeI m ps R).drop j).flatMap fun x => ext m ps k (R ++ [x]))[l]?
theorem r_nth_row (n m : Nat) (ps : List (Int × Int)) (o : IsOrd m ps) (hm : m ≤ 6) (N : Nat) (hN : N < cnt m ps m []) : ∃ r, tx.go (n+9) "nth_row" [.val (ordD m ps), .val (.int N)] = .ok r ∧ ∃ q, r = (.val (.tuple (nsD q)), [.val (ordD m ps), .val (.int N)]) ∧ (ext m ps m [])[N]? = some q := by
  refine of_wp ?_
  rw [go_at tx (d := d_nth_row) rfl]
  have no := r_need_order (n + 4) m ps o
  have no : tx.go (n + 8) "need_order" [.val (ordD m ps)] = .ok (.val .none, [.val (ordD m ps)]) := no
  have w := r_is_whole (n + 7) (.int N)
  obtain ⟨_, e, T0, rfl, t0, l0⟩ := ways_at (n + 8) m ps o hm (by omega) m [] .nil (by simp) [] .nil (by simp)
  have e : tx.go (n + 8) "ways_from" [.val (ordD m ps), .own [], .odc true []] = .ok (.val (.int (cnt m ps m [] : Nat)), [.val (ordD m ps), .own [], .odc true (tabN T0)]) := e
  have h0 : (0 : Int) ≤ N := by omega
  have h1 : (N : Int) < (cnt m ps m [] : Nat) := by omega
  have ini : NI m ps N m [.val (ordD m ps), .val (.int N), .odc true (tabN T0), .val (.int (N : Nat)), .own (nsD []), .un, .un] := ⟨T0, N, [], _, _, rfl, .nil, by simp, t0, by simp at l0; omega, hN, rfl⟩
  generalize ((cnt m ps m [] : Nat) : Int) = V at e h1
  generalize tabN T0 = D0 at e ini
  simp [d_nth_row, b_nth_row, no, w, isW, e, h0, h1]
  refine wp_bind' (wp_bind' (whileN_wp (NI m ps N) (fun k ρ ⟨T, l, R, s5, s6, e, b, ek, t, tl, ll, eq⟩ => ?_) turnsMost m _ (by unfold turnsMost; omega) ini))
  subst e
  by_cases c : R.length < m
  · obtain ⟨k, rfl⟩ : ∃ j, k = j + 1 := ⟨k - 1, by omega⟩
    obtain ⟨_, nx, rfl⟩ := r_next_things (n + 7) m ps o R
    have c' : (R.length : Int) < m := by omega
    have rlen : (nsD R).length = R.length := List.length_map _
    have fl := freeI_len m ps R
    have F6 : (nsD (freeI m ps R)).length ≤ 1000000 := by rw [List.length_map]; omega
    have el : (((freeI m ps R).drop 0).flatMap fun x => ext m ps k (R ++ [x])).length = cnt m ps (k + 1) R := by rw [List.drop_zero]; exact ext_len m ps (k + 1) R
    have ini : NJ m ps N k T.length R 0 [.val (ordD m ps), .val (.int N), .odc true (tabN T), .val (.int (l : Nat)), .own (nsD R), s5, s6] := ⟨T, l, _, _, rfl, t, by omega, by rw [el]; exact ll, eq⟩
    have add : ∀ x : Int, pAdd [.list (nsD R), .list [.int x]] = some (.own (nsD (R ++ [x]))) := fun x => by
      rw [addL (by rw [List.length_map, List.length_singleton]; omega)]
      exact congrArg (fun z => some (Slot.own z)) (ns_app R [x]).symm
    simp [x_ord0, rlen, c, nx, F6]
    refine forI_wp (NJ m ps N k T.length R) ini (fun ρ ⟨T1, l1, s5, s6, e1, t1, tl1, ll1, eq1⟩ => ?_) fun j d ρ hd ⟨T1, l1, s5, s6, e1, t1, tl1, ll1, eq1⟩ => ?_
    · rw [List.length_map, List.drop_length] at ll1
      exact absurd ll1 (Nat.not_lt_zero _)
    · subst e1
      have hj : j < (freeI m ps R).length := by
        have := (List.getElem?_eq_some_iff.mp hd).1
        rwa [List.length_map] at this
      have ed : d = .int (freeI m ps R)[j] := by
        have h := hd
        rw [List.getElem?_map, List.getElem?_eq_getElem hj] at h
        exact (Option.some.inj h).symm
      have dj : (freeI m ps R).drop j = (freeI m ps R)[j] :: (freeI m ps R).drop (j + 1) := List.drop_eq_getElem_cons hj
      rw [dj, List.flatMap_cons] at ll1 eq1
      have mem := List.getElem_mem hj
      generalize hx : (freeI m ps R)[j] = x at ed ll1 eq1 mem
      subst ed
      have bx := b.snoc mem
      have ex : m = (R ++ [x]).length + k := by rw [List.length_append, List.length_singleton]; omega
      have hj8 : j * 9331 ≤ 6 * 9331 := Nat.mul_le_mul_right _ (by omega)
      have hm6 : (m - (k + 1)) * 60000 ≤ 6 * 60000 := Nat.mul_le_mul_right _ (by omega)
      obtain ⟨_, e2, T2, rfl, t2, l2⟩ := ways_at (n + 8) m ps o hm (by omega) k (R ++ [x]) bx ex T1 t1 (by omega)
      have ad := add x
      have lx := ext_len m ps k (R ++ [x])
      have s60 : (m - k) * 60000 = (m - (k + 1)) * 60000 + 60000 := by
        have : m - k = (m - (k + 1)) + 1 := by omega
        rw [this, Nat.succ_mul]
      have s93 : (j + 1) * 9331 = j * 9331 + 9331 := Nat.succ_mul _ _
      by_cases cl : l1 < cnt m ps k (R ++ [x])
      · have cl' : (l1 : Int) < (cnt m ps k (R ++ [x]) : Nat) := by omega
        have fin : ∀ s5 s6 : Slot, NI m ps N k [.val (ordD m ps), .val (.int N), .odc true (tabN T2), .val (.int (l1 : Nat)), .own (nsD (R ++ [x])), s5, s6] := fun s5 s6 =>
          ⟨T2, l1, R ++ [x], s5, s6, rfl, bx, ex, t2, by omega, cl, by rw [eq1, List.getElem?_append_left (by rw [lx]; exact cl)]⟩
        generalize ((cnt m ps k (R ++ [x]) : Nat) : Int) = V at e2 cl'
        generalize nsD (R ++ [x]) = G2 at e2 ad fin
        generalize nsD R = G at ad ⊢
        generalize tabN T1 = D1 at e2 ⊢
        generalize tabN T2 = D2 at e2 fin
        simp [ad, e2, cl']
        exact ⟨k, by omega, fin _ _⟩
      · have cl' : ¬ (l1 : Int) < (cnt m ps k (R ++ [x]) : Nat) := by omega
        have es : (l1 : Int) - (cnt m ps k (R ++ [x]) : Nat) = ((l1 - cnt m ps k (R ++ [x]) : Nat) : Int) := by omega
        have fin : ∀ s5 s6 : Slot, NJ m ps N k T.length R (j + 1) [.val (ordD m ps), .val (.int N), .odc true (tabN T2), .val (.int (l1 - cnt m ps k (R ++ [x]) : Nat)), .own (nsD R), s5, s6] := fun s5 s6 =>
          ⟨T2, _, s5, s6, rfl, t2, by omega, by rw [List.length_append, lx] at ll1; omega, by rw [eq1, List.getElem?_append_right (by rw [lx]; omega), lx]⟩
        rw [← es] at fin
        generalize ((cnt m ps k (R ++ [x]) : Nat) : Int) = V at e2 cl' fin
        generalize nsD (R ++ [x]) = G2 at e2 ad
        generalize nsD R = G at ad fin ⊢
        generalize tabN T1 = D1 at e2 ⊢
        generalize tabN T2 = D2 at e2 fin
        simp [ad, e2, cl']
        exact fin _ _
  · have ek0 : k = 0 := by omega
    subst ek0
    have c' : ¬ (R.length : Int) < m := by omega
    have rlen : (nsD R).length = R.length := List.length_map _
    have r6 : (nsD R).length ≤ 1000000 := by omega
    have l0 : l = 0 := by
      have : l < 1 := ll
      omega
    subst l0
    have eq : (ext m ps m [])[N]? = some R := eq
    have qq : ∃ q, nsD R = nsD q ∧ (ext m ps m [])[N]? = some q := ⟨R, rfl, eq⟩
    clear eq
    generalize (ext m ps m [])[N]? = X at qq ⊢
    generalize nsD R = G at rlen r6 qq ⊢
    simp [x_ord0, rlen, c, r6]
    exact qq
/-- the place of a row among those that begin so -/
def rk (m : Nat) (ps : List (Int × Int)) : List Int → List Int → Nat
  | _, [] => 0
  | R, x :: xs => (((freeI m ps R).filter fun y => decide (y < x)).map fun y => cnt m ps (xs.length) (R ++ [y])).sum + rk m ps (R ++ [x]) xs
theorem free_lt (m : Nat) (ps : List (Int × Int)) (R : List Int) : (freeI m ps R).Pairwise (· < ·) := by
  unfold freeI
  refine List.Pairwise.sublist List.filter_sublist ?_
  unfold upTo
  refine List.pairwise_map.mpr (List.Pairwise.imp (fun {a b} h => ?_) (List.pairwise_lt_range (n := m)))
  omega
theorem flat_at {f : Int → List (List Int)} {x : Int} {i : Nat} : ∀ {F : List Int}, F.Pairwise (· < ·) → x ∈ F → i < (f x).length → (F.flatMap f)[((F.filter fun y => decide (y < x)).map fun y => (f y).length).sum + i]? = (f x)[i]?
  | [], _, h, _ => by cases h
  | y :: F, p, h, hi => by
    rw [List.pairwise_cons] at p
    rw [List.flatMap_cons, List.filter_cons]
    rcases List.mem_cons.mp h with rfl | h
    · have e : F.filter (fun y => decide (y < x)) = [] := by
        rw [List.filter_eq_nil_iff]
        intro z hz
        have := p.1 z hz
        simp only [decide_eq_true_eq]
        omega
      rw [if_neg (by simp), e]
      simp only [List.map_nil, List.sum_nil, Nat.zero_add]
      rw [List.getElem?_append_left hi]
    · have hy := p.1 x h
      rw [if_pos (by simpa using hy), List.map_cons, List.sum_cons, List.getElem?_append_right (by omega)]
      have := flat_at (i := i) p.2 h hi
      rw [← this]
      congr 1
      omega
theorem rk_at {m : Nat} {ps : List (Int × Int)} : ∀ (xs R : List Int), (∀ (A B : List Int) (x : Int), xs = A ++ x :: B → x ∈ freeI m ps (R ++ A)) → rk m ps R xs < (ext m ps xs.length R).length ∧ (ext m ps xs.length R)[rk m ps R xs]? = some (R ++ xs)
  | [], R, _ => by
    rw [List.append_nil]
    exact ⟨Nat.one_pos, rfl⟩
  | x :: xs, R, h => by
    have hx := h [] xs x rfl
    rw [List.append_nil] at hx
    obtain ⟨h1, h2⟩ := rk_at xs (R ++ [x]) fun A B y e => by
      have := h (x :: A) B y (by rw [e]; rfl)
      rwa [List.append_assoc]
    have fa := flat_at (f := fun x => ext m ps xs.length (R ++ [x])) (free_lt m ps R) hx h1
    have e : (fun y => (ext m ps xs.length (R ++ [y])).length) = fun y => cnt m ps xs.length (R ++ [y]) := funext fun y => ext_len m ps _ _
    rw [e] at fa
    have r : ext m ps (x :: xs).length R = (freeI m ps R).flatMap fun x => ext m ps xs.length (R ++ [x]) := rfl
    have g : (ext m ps (x :: xs).length R)[rk m ps R (x :: xs)]? = some (R ++ x :: xs) := by
      rw [r]
      show ((freeI m ps R).flatMap fun x => ext m ps xs.length (R ++ [x]))[(((freeI m ps R).filter fun y => decide (y < x)).map fun y => cnt m ps xs.length (R ++ [y])).sum + rk m ps (R ++ [x]) xs]? = _
      rw [fa, h2, List.append_assoc]
      rfl
    exact ⟨(List.getElem?_eq_some_iff.mp g).1, g⟩
def KI (m : Nat) (ps : List (Int × Int)) (r : List Int) (i : Nat) (ρ : Env) : Prop := ∃ T f s4 s5 s6 s7, ρ = [.val (ordD m ps), .val (.tuple (nsD r)), .odc true (tabN T), .val (.int (f : Nat)), s4, s5, s6, s7, .un] ∧ TabOk m ps T ∧ T.length ≤ i * 60000 ∧ rk m ps [] r = f + rk m ps (r.take i) (r.drop i)
def KJ (m : Nat) (ps : List (Int × Int)) (r g : List Int) (F : List Int) (k t0 : Nat) (s3 s4 s5 s7 : Slot) (j : Nat) (acc : List PyData) (ρ : Env) : Prop := ∃ T, ρ = [.val (ordD m ps), .val (.tuple (nsD r)), .odc true (tabN T), s3, s4, s5, .own (nsD g), s7, .un] ∧ TabOk m ps T ∧ T.length ≤ t0 + j * 9331 ∧ acc = ((F.take j).map fun x => cnt m ps k (g ++ [x])).map (fun n : Nat => PyData.int n)
theorem r_rank_of (n m : Nat) (ps : List (Int × Int)) (o : IsOrd m ps) (hm : m ≤ 6) (r : List Int) (pm : r.Perm (upTo m)) (fa : ps.all (aheadB r) = true) : ∃ z, tx.go (n+9) "rank_of" [.val (ordD m ps), .val (.tuple (nsD r))] = .ok z ∧ z = (.val (.int (rk m ps [] r : Nat)), [.val (ordD m ps), .val (.tuple (nsD r))]) := by
  refine of_wp ?_
  rw [go_at tx (d := d_rank_of) rfl]
  have no := r_need_order (n + 4) m ps o
  have no : tx.go (n + 8) "need_order" [.val (ordD m ps)] = .ok (.val .none, [.val (ordD m ps)]) := no
  have io := r_is_row_of (n + 5) m ps o (.tuple (nsD r))
  rw [rowD_ns pm, fa] at io
  have io : tx.go (n + 8) "is_row_of" [.val (.tuple (nsD r)), .val (ordD m ps)] = .ok (.val (.bool true), [.val (.tuple (nsD r)), .val (ordD m ps)]) := io
  have lr : r.length = m := by rw [pm.length_eq, upTo_len]
  have pl : (pairUp (rngD 0 r.length) (nsD r)).length = m := by
    rw [pairUp_len, rngD_length, List.length_map, lr]
    omega
  have ini : KI m ps r 0 [.val (ordD m ps), .val (.tuple (nsD r)), .odc true (tabN []), .val (.int (0 : Nat)), .un, .un, .un, .un, .un] := ⟨[], 0, _, _, _, _, rfl, .nil, by simp, by simp⟩
  have e0 : (tabN [] : List (PyData × PyData)) = [] := rfl
  rw [e0] at ini
  simp [d_rank_of, b_rank_of, no, io]
  refine wp_bind' (wp_bind' (forI_wp (KI m ps r) ini (fun ρ ⟨T, f, s4, s5, s6, s7, e, t, tl, eq⟩ => ?_) fun i d ρ hd ⟨T, f, s4, s5, s6, s7, e, t, tl, eq⟩ => ?_))
  · subst e
    rw [pl, List.drop_eq_nil_of_le (by omega : r.length ≤ m)] at eq
    have eq : rk m ps [] r = f := by rw [eq]; unfold rk; omega
    rw [eq]
    generalize nsD r = S
    simp
  · subst e
    obtain ⟨x1, y1, hx, hy, rfl⟩ := pairUp_get hd
    obtain ⟨hi, ex⟩ := rngD_get hx
    have ey : y1 = .int r[i] := by
      rw [List.getElem?_map, List.getElem?_eq_getElem hi] at hy
      exact (Option.some.inj hy).symm
    subst ex
    have ds : r.drop i = r[i] :: r.drop (i + 1) := List.drop_eq_getElem_cons hi
    have ts : r.take (i + 1) = r.take i ++ [r[i]] := List.take_succ_eq_append_getElem hi
    have rs : r = r.take i ++ r[i] :: r.drop (i + 1) := by rw [← ds, List.take_append_drop]
    have lA : (r.take i).length = i := by rw [List.length_take]; omega
    have lB : (r.drop (i + 1)).length = m - (i + 1) := by rw [List.length_drop]; omega
    have pm2 : (r.take i ++ r[i] :: r.drop (i + 1)).Perm (upTo m) := by rw [← rs]; exact pm
    have fa2 : ps.all (aheadB (r.take i ++ r[i] :: r.drop (i + 1))) = true := by rw [← rs]; exact fa
    have bA := beg_of_row pm2 fa2
    rw [ds] at eq
    have cut : cutD (nsD r) none (some (i : Int)) = nsD (r.take i) := by
      unfold cutD
      have e1 : HT.sIx (nsD r).length (nsD r).length (some (i : Int)) = min i (nsD r).length := HT.sIx_nat _ _ i
      have e2 : min i (nsD r).length = i := by rw [List.length_map]; omega
      rw [e1, HT.sIx_none, List.drop_zero, Nat.sub_zero, e2]
      exact (List.map_take (f := PyData.int) (l := r) (i := i)).symm
    have sl : pSlc (.tuple (nsD r)) none (some (i : Int)) = some (.val (.tuple (nsD (r.take i)))) := by rw [slcT, cut]
    have kin : ∀ (T' : List (List Int × Int)) (v : Nat) (s4 s5 s6 s7 : Slot), TabOk m ps T' → T'.length ≤ T.length + 6 * 9331 → v = (((freeI m ps (r.take i)).filter fun y => decide (y < r[i])).map fun y => cnt m ps (r.drop (i + 1)).length (r.take i ++ [y])).sum → KI m ps r (i + 1) [.val (ordD m ps), .val (.tuple (nsD r)), .odc true (tabN T'), .val (.int ((f : Int) + (v : Nat))), s4, s5, s6, s7, .un] := fun T' v s4 s5 s6 s7 h1 h2 h3 => by
      have h60 : (i + 1) * 60000 = i * 60000 + 60000 := Nat.succ_mul _ _
      refine ⟨T', f + v, s4, s5, s6, s7, ?_, h1, by omega, ?_⟩
      · have : (f : Int) + (v : Nat) = ((f + v : Nat) : Int) := by omega
        rw [this]
      · rw [eq, ts, h3, Nat.add_assoc]
        rfl
    generalize hA : r.take i = A at lA bA sl kin
    generalize hB : r.drop (i + 1) = B at lB kin
    generalize r[i] = x at ey kin
    subst ey
    obtain ⟨_, nx, rfl⟩ := r_next_things (n + 7) m ps o A
    have fl := freeI_len m ps A
    have F6 : (nsD (freeI m ps A)).length ≤ 1000000 := by rw [List.length_map]; omega
    have F7 : (freeI m ps A).length ≤ 1000000 := by omega
    have A6 : (nsD A).length ≤ 1000000 := by rw [List.length_map]; omega
    have A7 : A.length ≤ 1000000 := by omega
    have ff := List.length_filter_le (fun y => decide (y < x)) (freeI m ps A)
    have l1 : ∀ s3 s4 s7 : Slot, lcL (lcT (.nm 8) (dP pLt (osCons (oVar 8) (osCons (oVar 5) (osNil)))) (dVar 8) [8] (tx.go (n + 8))) (nsD (freeI m ps A)) [.val (ordD m ps), .val (.tuple (nsD r)), .odc true (tabN T), s3, s4, .val (.int x), .own (nsD A), s7, .un] = .ok (nsD ((freeI m ps A).filter fun y => decide (y < x)), [.val (ordD m ps), .val (.tuple (nsD r)), .odc true (tabN T), s3, s4, .val (.int x), .own (nsD A), s7, .un]) := fun s3 s4 s7 => by
      refine lcL_enc2 PyData.int (fun y => decide (y < x)) PyData.int _ fun y _ => ?_
      by_cases c : y < x
      · simp [c]
      · simp [c]
    have add : ∀ y : Int, pAdd [.list (nsD A), .list [.int y]] = some (.own (nsD (A ++ [y]))) := fun y => by
      rw [addL (by rw [List.length_map, List.length_singleton]; omega)]
      exact congrArg (fun z => some (Slot.own z)) (ns_app A [y]).symm
    have mB : ∀ y ∈ (freeI m ps A).filter (fun y => decide (y < x)), Beg m ps (A ++ [y]) := fun y hy => bA.snoc (List.mem_filter.mp hy).1
    have run : ∀ s3 s4 s5 s7 : Slot, (lcL (lcT (.nm 8) (dYes) (dCall "ways_from" 3 (asVar 0 (asExp (dP pAdd (osCons (oVar 6) (osCons (oOf (dLst (fsCons (dVar 8) (fsNil)))) (osNil)))) (asVar 2 (asNil))))) [8] (tx.go (n + 8))) (nsD ((freeI m ps A).filter fun y => decide (y < x))) [.val (ordD m ps), .val (.tuple (nsD r)), .odc true (tabN T), s3, s4, s5, .own (nsD A), s7, .un]).wp (fun z => KJ m ps r A ((freeI m ps A).filter fun y => decide (y < x)) B.length T.length s3 s4 s5 s7 ((freeI m ps A).filter fun y => decide (y < x)).length z.1 z.2) fun _ => False := fun s3 s4 s5 s7 => by
      generalize ((freeI m ps A).filter fun y => decide (y < x)) = F at mB ff ⊢
      have fn : (nsD F).length = F.length := List.length_map _
      refine lcI_wp (KJ m ps r A F B.length T.length s3 s4 s5 s7) ⟨T, rfl, t, by omega, by simp⟩ (fun out ρ h => by rw [fn] at h; exact h) fun j d acc ρ hd ⟨T1, e1, t1, l1, e2⟩ => ?_
      subst e1
      have hj : j < F.length := by
        have := (List.getElem?_eq_some_iff.mp hd).1
        rwa [List.length_map] at this
      have ed : d = .int F[j] := by
        have h := hd
        rw [List.getElem?_map, List.getElem?_eq_getElem hj] at h
        exact (Option.some.inj h).symm
      have tk : F.take (j + 1) = F.take j ++ [F[j]] := List.take_succ_eq_append_getElem hj
      have bx := mB _ (List.getElem_mem hj)
      have hj9 : j * 9331 ≤ 6 * 9331 := Nat.mul_le_mul_right _ (by omega)
      have hi6 : i * 60000 ≤ 6 * 60000 := Nat.mul_le_mul_right _ (by omega)
      have s93 : (j + 1) * 9331 = j * 9331 + 9331 := Nat.succ_mul _ _
      obtain ⟨_, e3, T2, rfl, t2, l2⟩ := ways_at (n + 8) m ps o hm (by omega) B.length (A ++ [F[j]]) bx (by rw [List.length_append, List.length_singleton]; omega) T1 t1 (by omega)
      have ad := add F[j]
      have fin : KJ m ps r A F B.length T.length s3 s4 s5 s7 (j + 1) (acc ++ [.int (cnt m ps B.length (A ++ [F[j]]) : Nat)]) [.val (ordD m ps), .val (.tuple (nsD r)), .odc true (tabN T2), s3, s4, s5, .own (nsD A), s7, .un] := by
        refine ⟨T2, rfl, t2, by omega, ?_⟩
        rw [tk, List.map_append, List.map_append, e2]
        rfl
      generalize (cnt m ps B.length (A ++ [F[j]])) = V at e3 fin
      generalize nsD (A ++ [F[j]]) = G2 at e3 ad
      generalize F[j] = y at ed ad
      subst ed
      generalize nsD A = G at ad fin ⊢
      generalize tabN T1 = D1 at e3 ⊢
      generalize tabN T2 = D2 at e3 fin
      generalize nsD r = RR at fin ⊢
      simp [ad, e3]
      exact fin
    have sv : ∀ acc : List PyData, acc = (((freeI m ps A).filter fun y => decide (y < x)).map fun y => cnt m ps B.length (A ++ [y])).map (fun n : Nat => PyData.int n) → pSum [.list acc] = some (.val (.int ((((freeI m ps A).filter fun y => decide (y < x)).map fun y => cnt m ps B.length (A ++ [y])).sum : Nat))) := fun acc e => by
      subst e
      show (numsOf _).map _ = _
      have : ((((freeI m ps A).filter fun y => decide (y < x)).map fun y => cnt m ps B.length (A ++ [y])).map (fun n : Nat => PyData.int n)) = nsD ((((freeI m ps A).filter fun y => decide (y < x)).map fun y => cnt m ps B.length (A ++ [y])).map fun n : Nat => (n : Int)) := by
        rw [nsD_map]
      rw [this, numsOf_map, Option.map_some, sum_ns]
    have L6 : (nsD ((freeI m ps A).filter fun y => decide (y < x))).length ≤ 1000000 := by rw [List.length_map]; omega
    simp [sl, A6, A7, nx, F6, F7, -x_lcT]
    rw [l1]
    have L7 : ((freeI m ps A).filter fun y => decide (y < x)).length ≤ 1000000 := by omega
    simp [L6, L7, -x_lcT]
    iterate 9 refine wp_bind' ?_
    refine noX_wp (wp_mono (run _ _ _ _) ?_ fun _ h => h)
    rintro ⟨acc, ρ⟩ ⟨T1, e1, t1, tl1, e2⟩
    simp only at e1 e2
    subst e1
    rw [List.take_length] at e2
    have al : acc.length ≤ 1000000 := by rw [e2, List.length_map, List.length_map]; omega
    have sv := sv acc e2
    have f9 : ((freeI m ps A).filter fun y => decide (y < x)).length * 9331 ≤ 6 * 9331 := Nat.mul_le_mul_right _ (by omega)
    have kin := fun (v : Nat) (s4 s5 s6 s7 : Slot) => kin T1 v s4 s5 s6 s7 t1 (by omega)
    generalize (((freeI m ps A).filter fun y => decide (y < x)).map fun y => cnt m ps B.length (A ++ [y])).sum = v at sv kin
    have kin := fun s4 s5 s6 s7 => kin v s4 s5 s6 s7 rfl
    generalize tabN T1 = D1 at kin ⊢
    generalize nsD ((freeI m ps A).filter fun y => decide (y < x)) = G1 at kin ⊢
    generalize nsD A = G at kin ⊢
    generalize nsD r = RR at kin ⊢
    clear e2 run l1
    simp [al, sv]
    exact kin _ _ _ _
theorem r_are_rowsO (n m : Nat) (ps : List (Int × Int)) (o : IsOrd m ps) (rs : List (List Int)) (ne : rs ≠ []) (hr : RowsI m ps rs) (hl : rs.length ≤ 900) : tx.go (n+4) "are_rows" [.own (rsD rs), .val (ordD m ps)] = .ok (.val (.bool true), [.val (.list (rsD rs)), .val (ordD m ps)]) := by
  rw [go_at tx (d := d_are_rows) rfl]
  have l6 : (rsD rs).length ≤ 1000000 := by rw [List.length_map]; omega
  have l1 : lcL (lcT (.nm 2) (dYes) (dCall "is_row_of" 2 (asVar 2 (asVar 1 (asNil)))) [2] (tx.go (n + 3))) (rsD rs) [.val (.list (rsD rs)), .val (ordD m ps), .un] = .ok ((rsD rs).map fun d => .bool (rowD m ps d), [.val (.list (rsD rs)), .val (ordD m ps), .un]) :=
    lcL_ea (fun d => .bool (rowD m ps d)) (rsD rs) fun d _ => by
      have := r_is_row_of n m ps o d
      simp [this]
  have a1 := x_all (rsD rs) (rowD m ps)
  have w : (rsD rs).all (rowD m ps) = true := by
    have := rowsD_of ne hr
    have : (decide (rsD rs ≠ []) && (rsD rs).all (rowD m ps)) = true := this
    rw [Bool.and_eq_true] at this
    exact this.2
  rw [w] at a1
  have n0 : pNe [.list (rsD rs), .list []] = some (.val (.bool true)) := by rw [neL0, decide_eq_false (by simpa using ne)]; rfl
  generalize rsD rs = R at l6 l1 a1 n0 ⊢
  simp [d_are_rows, b_are_rows, isT, n0, l6, -x_lcT]
  rw [l1]
  generalize (R.map fun d => PyData.bool (rowD m ps d)) = W at a1
  simp [a1]
theorem r_tellO (n m : Nat) (ps : List (Int × Int)) (o : IsOrd m ps) (rs : List (List Int)) (ne : rs ≠ []) (hr : RowsI m ps rs) (hl : rs.length ≤ 900) : tx.go (n+5) "tell" [.own (rsD rs), .val (ordD m ps)] = .ok (.val (.bool (decide (toldP m rs = ps))), [.val (.list (rsD rs)), .val (ordD m ps)]) := by
  rw [go_at tx (d := d_tell) rfl]
  have hm : m ≤ 8 := by have := o.hi; omega
  have no := r_need_order n m ps o
  have no : tx.go (n + 4) "need_order" [.val (ordD m ps)] = .ok (.val .none, [.val (ordD m ps)]) := no
  have e := r_are_rowsO n m ps o rs ne hr hl
  obtain ⟨⟨r1, r2⟩, e1, h1, s, h2, hs⟩ := r_told_pairs (n + 2) m rs hm (by omega) _ (.inr rfl) fun r hr' i hi => perm_has (hr r hr').1 (by omega) (by omega)
  simp only at h1 h2
  subst h1
  have hs : s = .val (.list (rsD rs)) := hs.elim id id
  subst hs
  subst h2
  have eq := x_eqPT (toldP m rs) ps
  generalize psD (toldP m rs) = T at e1 eq
  generalize rsD rs = R at e e1 ⊢
  simp [d_tell, b_tell, no, e, x_ord0, x_ord1, e1, eq]
theorem r_need_rowsO (n m : Nat) (ps : List (Int × Int)) (o : IsOrd m ps) (rs : List (List Int)) (ne : rs ≠ []) (hr : RowsI m ps rs) (hl : rs.length ≤ 900) : tx.go (n+5) "need_rows" [.val (ordD m ps), .own (rsD rs)] = .ok (.val .none, [.val (ordD m ps), .val (.list (rsD rs))]) := by
  rw [go_at tx (d := d_need_rows) rfl]
  have no := r_need_order n m ps o
  have no : tx.go (n + 4) "need_order" [.val (ordD m ps)] = .ok (.val .none, [.val (ordD m ps)]) := no
  have e := r_are_rowsO n m ps o rs ne hr hl
  generalize rsD rs = R at e ⊢
  simp [d_need_rows, b_need_rows, no, e]
theorem r_first_leftO (n m : Nat) (ps : List (Int × Int)) (o : IsOrd m ps) (rs : List (List Int)) (ne : rs ≠ []) (hr : RowsI m ps rs) (hl : rs.length ≤ 900) : ∃ r, tx.go (n+6) "first_left" [.val (ordD m ps), .own (rsD rs)] = .ok r ∧ r = (.val (firstD ((gridP m).filter (leftB ps rs))), [.val (ordD m ps), .val (.list (rsD rs))]) := by
  refine of_wp ?_
  rw [go_at tx (d := d_first_left) rfl]
  have hm : m ≤ 8 := by have := o.hi; omega
  have sm : small62 m = true := small_in (by omega) (by omega)
  have e := r_need_rowsO n m ps o rs ne hr hl
  have R6 : (rsD rs).length ≤ 1000000 := by rw [List.length_map]; omega
  have lc : ∀ (i j : Nat), i < m → j < m → lcL (lcT (.nm 4) (dYes) (dCall "stands_ahead" 3 (asVar 4 (asVar 2 (asVar 3 (asNil))))) [4] (tx.go (n + 5))) (rsD rs) [.val (ordD m ps), .val (.list (rsD rs)), .val (.int i), .val (.int j), .un] = .ok (rs.map fun r => .bool (aheadB r ((i : Int), (j : Int))), [.val (ordD m ps), .val (.list (rsD rs)), .val (.int i), .val (.int j), .un]) := fun i j hi hj =>
    lcL_enc (fun r => .tuple (nsD r)) _ rs fun r h => by
      have := r_stands_ahead (n + 4) r i j (perm_has (hr r h).1 (by omega) (by omega)) (perm_has (hr r h).1 (by omega) (by omega))
      generalize nsD r = S at this
      simp [this]
  generalize rsD rs = R at e R6 lc ⊢
  simp [d_first_left, b_first_left, e, x_ord0, sm]
  refine wp_bind' (wp_bind' (forR_wp (fun i ρ => NoF (leftB ps rs) (partP m i) ∧ ∃ s2 s3, ρ = [.val (ordD m ps), .val (.list R), s2, s3, .un]) ⟨rfl, _, _, rfl⟩ (fun ρ ⟨h, s2, s3, e⟩ => ?_) fun i ρ hi ⟨h, s2, s3, e⟩ => ?_))
  · subst e
    have h : (gridP m).filter (leftB ps rs) = [] := h
    rw [h]
    simp [firstD]
  · subst e
    simp [x_ord0, sm]
    refine forR_wp (fun j ρ => NoF (leftB ps rs) (rowP j i) ∧ ∃ s3, ρ = [.val (ordD m ps), .val (.list R), .val (.int i), s3, .un]) ⟨rfl, _, rfl⟩ (fun ρ ⟨g, s3, e⟩ => ?_) fun j ρ hj ⟨g, s3, e⟩ => ?_
    · subst e
      refine ⟨?_, _, _, rfl⟩
      unfold NoF at *
      rw [part_succ, List.filter_append, h, g]
      rfl
    · subst e
      have ap := r_are_apart (n + 4) m i j ps
      have al := x_all rs fun r => aheadB r ((i : Int), (j : Int))
      have lc := lc i j hi hj
      have tv : leftB ps rs ((i : Int), (j : Int)) = (apartB ps i j && rs.all fun r => aheadB r ((i : Int), (j : Int))) := rfl
      have nxt : leftB ps rs ((i : Int), (j : Int)) = false → NoF (leftB ps rs) (rowP (j + 1) i) := fun z => by
        unfold NoF at *
        rw [row_succ, List.filter_append, g, List.filter_cons, z]
        rfl
      have fnd : leftB ps rs ((i : Int), (j : Int)) = true → firstD ((gridP m).filter (leftB ps rs)) = prD ((i : Int), (j : Int)) := fun z => first_at hi hj (by unfold NoF at *; rw [List.filter_append, h, g]; rfl) z
      generalize firstD ((gridP m).filter (leftB ps rs)) = V at fnd ⊢
      rw [tv] at nxt fnd
      generalize (rs.all fun r => aheadB r ((i : Int), (j : Int))) = z at al nxt fnd
      generalize (rs.map fun r => PyData.bool (aheadB r ((i : Int), (j : Int)))) = W at lc al
      cases c : apartB ps i j with
      | false =>
        rw [c] at ap nxt
        have nxt := nxt rfl
        simp [ap]
        exact nxt
      | true =>
        rw [c] at ap nxt fnd
        simp [ap, R6, -x_lcT]
        rw [lc]
        cases z with
        | false =>
          have nxt := nxt rfl
          simp [al]
          exact nxt
        | true =>
          have fnd := fnd rfl
          subst fnd
          simp [al, prD]
end Dn.M14

namespace Dn.M14
open PySem PySem.Spec L2
open PyProof.Rows hiding St
def MI (ns : List Int) (ρ : Env) : Prop := ∃ s1 s2 s3 s4 s5 s6 s7 s8 s9 s10 s11 s12, ρ = [.scr ns, s1, s2, s3, s4, s5, s6, s7, s8, s9, s10, s11, s12, .un, .un, .un, .un]
def AI (ns : List Int) (i m : Nat) (ps : List (Int × Int)) (b : Int) (E : List (List Int)) (s4 s5 s6 s7 s8 s9 s10 s11 s12 : Slot) (k : Nat) (acc : List PyData) (ρ : Env) : Prop := ρ = [.scr ns, .val (.int (i : Int)), .own [.int b], .val (ordD m ps), s4, s5, s6, s7, s8, s9, s10, s11, s12, .un, .un, .un, .un] ∧ acc = rsD (E.take k)
def TI (ns : List Int) (i m : Nat) (ps : List (Int × Int)) (R : List PyData) (ρ : Env) : Prop := ∃ b s5 s6 s7 s8 s9 s10 s11 s12, ρ = [.scr ns, .val (.int (i : Int)), .own [.int b], .val (ordD m ps), .val (.list R), s5, s6, s7, s8, s9, s10, s11, s12, .un, .un, .un, .un]
def RI (ns : List Int) (i m : Nat) (ps : List (Int × Int)) (R : List PyData) (s5 s6 s7 s8 s9 s10 s11 s12 : Slot) (E : List (List Int)) (k : Nat) (acc : List PyData) (ρ : Env) : Prop := ∃ b rs, ρ = [.scr ns, .val (.int (i : Int)), .own [.int b], .val (ordD m ps), .val (.list R), s5, s6, s7, s8, s9, s10, s11, s12, .un, .un, .un, .un] ∧ acc = rsD rs ∧ rs.length = k ∧ ∀ r ∈ rs, r ∈ E
theorem x_eqO (m k : Int) (ps qs : List (Int × Int)) : pEq [ordD m ps, ordD k qs] = some (.val (.bool (decide (m = k ∧ ps = qs)))) := by
  show (if (SeqAt.shaped (ordD m ps) && SeqAt.shaped (ordD k qs)) = true then some (Slot.val (PyData.bool (PyData.eqv (ordD m ps) (ordD k qs)))) else none) = _
  rw [if_pos (by rw [sh_ord, sh_ord]; rfl)]
  have : PyData.eqv (ordD m ps) (ordD k qs) = decide (m = k ∧ ps = qs) := by
    simp only [ordD, PyData.eqv, PyData.eqvAll, eqv_ps, Bool.and_true]
    rw [Bool.eq_iff_iff]
    simp
  rw [this]
theorem main_go (n : Nat) (ns : List Int) : (tx.go (n + 10) "law" [.scr ns]).wp (fun r => r.1 = .val (.bool true)) fun _ => False := by
  rw [go_at tx (d := d_law) rfl]
  obtain ⟨w1, w2⟩ := x_maxmin1 ns.length 2
  have w1 : pMin [.int (ns.length : Int), .int 2] = some (.val (.int (min ns.length 2 : Nat))) := w1
  have t4 : max 1 (min ns.length 2) ≤ 5 := by omega
  generalize max 1 (min ns.length 2) = t at w2 t4
  generalize min ns.length 2 = t' at w1 w2
  have st : small62 t = true := small_in (by omega) (by omega)
  simp [d_law, b_law, w1, w2, st]
  refine wp_bind' (wp_bind' (forR_wp (fun i ρ => MI ns ρ) ⟨.un, .un, .un, .un, .un, .un, .un, .un, .un, .un, .un, .un, rfl⟩ (fun ρ ⟨s1, s2, s3, s4, s5, s6, s7, s8, s9, s10, s11, s12, e⟩ => ?_) fun i ρ hi ⟨s1, s2, s3, s4, s5, s6, s7, s8, s9, s10, s11, s12, e⟩ => ?_))
  · subst e; simp
  · subst e
    obtain ⟨⟨v, o⟩, e1, b, h1, h2⟩ := r_box (n + 7) ns i
    simp only at h1 h2
    subst h1
    subst h2
    obtain ⟨r1, e2, b1, m, ps, rfl, o1, m5⟩ := r_law_order (n + 6) b 5 (by decide) (by decide)
    have e2 : tx.go (n + 9) "_law_order" [.own [.int b], .val (.int 5)] = .ok (.val (ordD m ps), [.own [.int b1], .val (.int 5)]) := e2
    have e5 := r_rows_many n m ps o1 (by omega)
    have c5 := cnt_5 (ps := ps) m5
    have cp := cnt_pos o1 m (R := []) .nil (by simp)
    have el := ext_len m ps m []
    have sC : small62 ((cnt m ps m [] : Nat) : Int) = true := small_in (by omega) (by omega)
    have nth : ∀ N : Nat, N < cnt m ps m [] → ∃ q, tx.go (n+9) "nth_row" [.val (ordD m ps), .val (.int N)] = .ok (.val (.tuple (nsD q)), [.val (ordD m ps), .val (.int N)]) ∧ (ext m ps m [])[N]? = some q := fun N hN => by
      obtain ⟨_, f1, q, rfl, f3⟩ := r_nth_row n m ps o1 (by omega) N hN
      exact ⟨q, f1, f3⟩
    have rows := ext_rows o1
    have ne := ext_ne o1
    have tA := r_tellO (n + 4) m ps o1 (ext m ps m []) ne rows (by omega)
    rw [decide_eq_true (all_tell o1)] at tA
    have so := x_sortRs (rs := ext m ps m []) (fun r h z => by
      have := (in_row o1 h).1.length_eq
      rw [z, upTo_len] at this
      have := o1.lo
      simp at *
      omega) (ext_le m ps m []) (by omega)
    have so : pSortS [.list (rsD (ext m ps m []))] = some (.own (rsD (ext m ps m []))) := so
    have nr := x_neRL (ext m ps m []) (ext m ps m [])
    rw [decide_eq_true rfl] at nr
    have s3' : small62 3 = true := small_in (by omega) (by omega)
    simp [e1, e2, e5, sC, rngD_length, show cnt m ps m [] ≤ 1000000 by omega, -x_lcT]
    refine wp_bind' (wp_bind' (wp_bind' (noX_wp (lcI_wp (AI ns i m ps b1 (ext m ps m []) s4 s5 s6 s7 s8 s9 s10 s11 s12) ⟨rfl, rfl⟩ (fun out ρ ⟨e, e'⟩ => ?_) fun j d acc ρ hd ⟨e, e'⟩ => ?_))))
    · subst e
      rw [rngD_length, ← el, List.take_length] at e'
      subst e'
      have lE : (rsD (ext m ps m [])).length = (ext m ps m []).length := List.length_map _
      have R6 : (rsD (ext m ps m [])).length ≤ 1000000 := by omega
      generalize hR : rsD (ext m ps m []) = R at tA so nr lE R6
      have tA : tx.go (n + 9) "tell" [.own R, .val (ordD m ps)] = .ok (.val (.bool true), [.val (.list R), .val (ordD m ps)]) := tA
      simp [tA, so, nr, s3']
      refine forR_wp (fun j ρ => TI ns i m ps R ρ) ⟨b1, s5, s6, s7, s8, s9, s10, s11, s12, rfl⟩ (fun ρ ⟨b4, s5, s6, s7, s8, s9, s10, s11, s12, e⟩ => ?_) fun j ρ hj ⟨b4, s5, s6, s7, s8, s9, s10, s11, s12, e⟩ => ?_
      · subst e
        exact ⟨_, _, _, _, _, _, _, _, _, _, _, _, rfl⟩
      · subst e
        have t3 := r_take (n + 8) b4 3 (by decide) (by decide)
        have q3 := mod_in b4 (show (0 : Int) < 3 by decide)
        obtain ⟨K, hK⟩ := Int.eq_ofNat_of_zero_le (show 0 ≤ 1 + b4 % 3 by omega)
        generalize b4 % 3 = c1 at t3 q3 hK
        generalize b4 / 3 = b5 at t3
        have sk : small62 (K : Int) = true := small_in (by omega) (by omega)
        have ru := rng_upTo K
        have um : (nsD (upTo K)).length = K := by rw [List.length_map, upTo_len]
        have um6 : (nsD (upTo K)).length ≤ 1000000 := by omega
        generalize nsD (upTo K) = U at ru um um6
        simp [t3, hK, sk, ru, um6, -x_lcT]
        refine wp_bind' (wp_bind' (wp_bind' (noX_wp (lcI_wp (RI ns i m ps R (.val (.int (j : Int))) (.val (.int (K : Int))) s7 s8 s9 s10 s11 s12 (ext m ps m [])) ⟨b5, [], rfl, rfl, rfl, fun r h => by cases h⟩ (fun out ρ ⟨b6, rs, e, e', hl, hm⟩ => ?_) fun k d acc ρ hd ⟨b6, rs, e, e', hl, hm⟩ => ?_))))
        · subst e
          subst e'
          have hl : rs.length = K := by rw [hl, um]
          have ner : rs ≠ [] := by rintro rfl; simp at hl; omega
          have hr : RowsI m ps rs := fun r h => in_row o1 (hm r h)
          obtain ⟨_, fO, rfl⟩ := r_first_leftO (n + 3) m ps o1 rs ner hr (by omega)
          have fO : tx.go (n + 9) "first_left" [.val (ordD m ps), .own (rsD rs)] = .ok (.val (firstD (leftT m ps rs)), [.val (ordD m ps), .val (.list (rsD rs))]) := fO
          have m1 : 1 ≤ m := by have := o1.lo; omega
          have bY := r_told_by (n + 5) m ⟨m1, by omega⟩ rs ner (fun r h => (hr r h).1) (by omega)
          have bY : tx.go (n + 9) "told_by" [.val (.int m), .val (.list (rsD rs))] = .ok (.val (ordD m (toldP m rs)), [.val (.int m), .val (.list (rsD rs))]) := bY
          have tV := r_tell (n + 4) m ps o1 (.list (rsD rs)) (fun ds e => by cases e; rw [List.length_map]; omega)
          rw [tellD_rs ner hr] at tV
          have tV : tx.go (n + 9) "tell" [.val (.list (rsD rs)), .val (ordD m ps)] = .ok (.val (.bool (decide (toldP m rs = ps))), [.val (.list (rsD rs)), .val (ordD m ps)]) := tV
          have eO := x_eqO m m (toldP m rs) ps
          have tl := told_left o1 ner hr
          have sub := sub_told o1 hr
          have env : ∃ e : Slot → Slot → Slot → Slot → Slot → Slot → Env, e = fun s7 s8 s9 s10 s11 s12 => [.scr ns, .val (.int (i : Int)), .own [.int b6], .val (ordD m ps), .val (.list R), .val (.int (j : Int)), .val (.int (K : Int)), s7, s8, s9, s10, s11, s12, .un, .un, .un, .un] := ⟨_, rfl⟩
          have lc16 : ∀ s7 s8 s10 s11 s12 : Slot, lcL (lcT (.nm 16) (dP pNin (osCons (oVar 16) (osCons (oOf (dP pIx (osCons (oVar 9) (osCons (oOf (dLit (.int 1))) (osNil))))) (osNil)))) (dVar 16) [16] (tx.go (n + 9))) (psD ps) [.scr ns, .val (.int (i : Int)), .own [.int b6], .val (ordD m ps), .val (.list R), .val (.int (j : Int)), .val (.int (K : Int)), s7, s8, .val (ordD m (toldP m rs)), s10, s11, s12, .un, .un, .un, .un] = .ok ([], [.scr ns, .val (.int (i : Int)), .own [.int b6], .val (ordD m ps), .val (.list R), .val (.int (j : Int)), .val (.int (K : Int)), s7, s8, .val (ordD m (toldP m rs)), s10, s11, s12, .un, .un, .un, .un]) := fun s7 s8 s10 s11 s12 => by
            have fl : ps.filter (fun p => !decide (p ∈ toldP m rs)) = [] := by
              rw [List.filter_eq_nil_iff]
              intro p hp
              simp [sub p hp]
            have := lcL_enc2 (f := lcT (.nm 16) (dP pNin (osCons (oVar 16) (osCons (oOf (dP pIx (osCons (oVar 9) (osCons (oOf (dLit (.int 1))) (osNil))))) (osNil)))) (dVar 16) [16] (tx.go (n + 9))) (ρ := [.scr ns, .val (.int (i : Int)), .own [.int b6], .val (ordD m ps), .val (.list R), .val (.int (j : Int)), .val (.int (K : Int)), s7, s8, .val (ordD m (toldP m rs)), s10, s11, s12, .un, .un, .un, .un]) prD (fun p => !decide (p ∈ toldP m rs)) prD ps fun p hp => by
              have i1 := x_ninT (toldP m rs) p.1 p.2
              rw [decide_eq_true (sub p hp)] at i1
              generalize toldP m rs = T at i1 sub ⊢
              simp [prD, x_ord1, i1, sub p hp]
            rw [fl] at this
            exact this
          have pl7 : ps.length ≤ 1000000 := by have := o1.len; omega
          have pl6 : (psD ps).length ≤ 1000000 := by have := o1.len; rw [List.length_map]; omega
          have lcF : ∀ (p : Int × Int) (s7 s8 s9 s10 : Slot), p ∈ gridP m → lcL (lcT (.nm 15) (dP pLt (osCons (oOf (dM "tuple" pTIndex (oVar 15) (osCons (oVar 12) (osNil)))) (osCons (oOf (dM "tuple" pTIndex (oVar 15) (osCons (oVar 11) (osNil)))) (osNil)))) (dVar 15) [15] (tx.go (n + 9))) R [.scr ns, .val (.int (i : Int)), .own [.int b6], .val (ordD m ps), .val (.list R), .val (.int (j : Int)), .val (.int (K : Int)), s7, s8, s9, s10, .val (.int p.1), .val (.int p.2), .un, .un, .un, .un] = .ok (rsD ((ext m ps m []).filter fun r => decide (r.idxOf p.2 < r.idxOf p.1)), [.scr ns, .val (.int (i : Int)), .own [.int b6], .val (ordD m ps), .val (.list R), .val (.int (j : Int)), .val (.int (K : Int)), s7, s8, s9, s10, .val (.int p.1), .val (.int p.2), .un, .un, .un, .un]) := fun p s7 s8 s9 s10 hp => by
            have hp := mem_grid.mp hp
            conv => lhs; arg 2; rw [← hR]
            refine lcL_enc2 (fun r => .tuple (nsD r)) _ _ (ext m ps m []) fun r h => ?_
            have i1 := x_tidx r p.1 (perm_has (rows r h).1 hp.1 hp.2.1)
            have i2 := x_tidx r p.2 (perm_has (rows r h).1 hp.2.2.1 hp.2.2.2)
            generalize nsD r = S at i1 i2 ⊢
            by_cases c : r.idxOf p.2 < r.idxOf p.1
            · simp [i1, i2, c]
            · simp [i1, i2, c]
          have lcR : ∀ (s8 s9 s10 s11 s12 : Slot), lcL (lcT (.nm 15) (dYes) (dRevS (oVar 15)) [15] (tx.go (n + 9))) (rsD rs) [.scr ns, .val (.int (i : Int)), .own [.int b6], .val (ordD m ps), .val (.list R), .val (.int (j : Int)), .val (.int (K : Int)), .val (.list (rsD rs)), s8, s9, s10, s11, s12, .un, .un, .un, .un] = .ok (rsD (rs.map List.reverse), [.scr ns, .val (.int (i : Int)), .own [.int b6], .val (ordD m ps), .val (.list R), .val (.int (j : Int)), .val (.int (K : Int)), .val (.list (rsD rs)), s8, s9, s10, s11, s12, .un, .un, .un, .un]) := fun s8 s9 s10 s11 s12 => by
            have e : rsD (rs.map List.reverse) = rs.map fun r => .tuple (nsD r.reverse) := List.map_map
            rw [e]
            exact lcL_enc (fun r => .tuple (nsD r)) (fun r => .tuple (nsD r.reverse)) rs fun r h => by
              have e : nsD r.reverse = (nsD r).reverse := List.map_reverse
              rw [e]
              generalize nsD r = S
              generalize rsD rs = D
              simp
          have rr := rows_rev o1 hr
          have o2 := swap_ord o1
          have tR := told_rev o1 ner hr
          have e6 := r_turned (n + 4) m ps o1
          have e6 : tx.go (n + 9) "turned" [.val (ordD m ps)] = .ok (.val (ordD m (sortP (ps.map swapP))), [.val (ordD m ps)]) := e6
          have tB := r_tellO (n + 4) m (sortP (ps.map swapP)) o2 (rs.map List.reverse) (by simpa using ner) rr (by rw [List.length_map]; omega)
          have tB : tx.go (n + 9) "tell" [.own (rsD (rs.map List.reverse)), .val (ordD m (sortP (ps.map swapP)))] = .ok (.val (.bool (decide (toldP m (rs.map List.reverse) = sortP (ps.map swapP)))), [.val (.list (rsD (rs.map List.reverse))), .val (ordD m (sortP (ps.map swapP)))]) := tB
          have isR : ∀ d ∈ rsD (rs.map List.reverse), tx.go (n + 9) "is_row" [.val d, .val (ordD m (sortP (ps.map swapP)))] = .ok (.val (.bool true), [.val d, .val (ordD m (sortP (ps.map swapP)))]) := fun d hd => by
            obtain ⟨r, h, rfl⟩ := List.mem_map.mp hd
            have := r_is_row (n + 4) m (sortP (ps.map swapP)) o2 (.tuple (nsD r))
            rw [rowD_ns (rr r h).1, (rr r h).2] at this
            exact this
          have lcS : ∀ (s7 s8 s9 s11 s12 : Slot), lcL (lcT (.nm 15) (dYes) (dCall "is_row" 2 (asVar 15 (asExp (dCall "turned" 1 (asVar 3 (asNil))) (asNil)))) [15] (tx.go (n + 9))) (rsD (rs.map List.reverse)) [.scr ns, .val (.int (i : Int)), .own [.int b6], .val (ordD m ps), .val (.list R), .val (.int (j : Int)), .val (.int (K : Int)), s7, s8, s9, .val (.list (rsD (rs.map List.reverse))), s11, s12, .un, .un, .un, .un] = .ok ((rsD (rs.map List.reverse)).map fun _ => .bool true, [.scr ns, .val (.int (i : Int)), .own [.int b6], .val (ordD m ps), .val (.list R), .val (.int (j : Int)), .val (.int (K : Int)), s7, s8, s9, .val (.list (rsD (rs.map List.reverse))), s11, s12, .un, .un, .un, .un]) := fun s7 s8 s9 s11 s12 => by
            refine lcL_ea (fun _ => .bool true) _ fun d hd => ?_
            have := isR d hd
            generalize rsD (rs.map List.reverse) = D
            generalize sortP (ps.map swapP) = Q at this e6
            simp [e6, this]
          have aB : pAll [.list ((rsD (rs.map List.reverse)).map fun _ => .bool true)] = some (.val (.bool true)) := by
            rw [x_all (rsD (rs.map List.reverse)) (fun _ => true)]
            have : (rsD (rs.map List.reverse)).all (fun _ => true) = true := by simp
            rw [this]
          have D6 : (rsD rs).length ≤ 1000000 := by rw [List.length_map]; omega
          have B6 : (rsD (rs.map List.reverse)).length ≤ 1000000 := by rw [List.length_map, List.length_map]; omega
          -- one row more
          have cut : cutD R none (some 1) = R.take 1 := by
            have e1 : HT.sIx R.length R.length (some 1) = min 1 R.length := HT.sIx_nat R.length R.length 1
            unfold cutD
            rw [e1, HT.sIx_none, List.drop_zero, Nat.sub_zero]
            congr 1
            omega
          have Rt : R.take 1 = rsD ((ext m ps m []).take 1) := by rw [← hR]; exact List.map_take.symm
          have tM : toldP m rs = ps → ∃ z, tx.go (n + 9) "tell" [.own (rsD rs ++ R.take 1), .val (ordD m ps)] = .ok (.val (.bool true), z) ∧ z = [.val (.list (rsD rs ++ R.take 1)), .val (ordD m ps)] := fun h => by
            have q : RowsI m ps ((ext m ps m []).take 1) := fun r h => rows r (List.mem_of_mem_take h)
            have := r_tellO (n + 4) m ps o1 (rs ++ (ext m ps m []).take 1) (fun z => ner (List.append_eq_nil_iff.mp z).1) (fun r h => (List.mem_append.mp h).elim (hr r) (q r)) (by rw [List.length_append, List.length_take]; omega)
            rw [told_more o1 ner hr q h, decide_eq_true rfl] at this
            have e : rsD (rs ++ (ext m ps m []).take 1) = rsD rs ++ R.take 1 := by rw [Rt]; exact List.map_append
            rw [e] at this
            exact ⟨_, this, rfl⟩
          have aM := addL (A := rsD rs) (B := R.take 1) (by rw [List.length_map, List.length_take]; omega)
          -- the first row's number
          obtain ⟨r0, rs', rfl⟩ : ∃ r0 rs', rs = r0 :: rs' := by
            cases rs with
            | nil => exact absurd rfl ner
            | cons r0 rs' => exact ⟨r0, rs', rfl⟩
          have hr0 := hr r0 List.mem_cons_self
          obtain ⟨_, g1, rfl⟩ := r_rank_of n m ps o1 (by omega) r0 hr0.1 hr0.2
          have ra := rk_at (m := m) (ps := ps) r0 [] fun A B x e => by
            rw [List.nil_append]
            exact free_of_row (B := B) (by rw [← e]; exact hr0.1) (by rw [← e]; exact hr0.2)
          rw [hr0.1.length_eq, upTo_len, List.nil_append] at ra
          have i0 := hm r0 List.mem_cons_self
          have ix := List.idxOf_lt_length_iff.mpr i0
          have ix2 : (ext m ps m [])[(ext m ps m []).idxOf r0]? = some r0 := by rw [List.getElem?_eq_getElem ix, List.getElem_idxOf]
          rw [ext_one ra.2 ix2] at g1
          have li := x_lidxR (ext m ps m []) r0 i0
          rw [hR] at li
          have p0 : pIx [.list (rsD (r0 :: rs')), .int 0] = some (.val (.tuple (nsD r0))) := by
            show (atI (rsD (r0 :: rs')) ((0 : Nat) : Int)).map Slot.val = _
            rw [x_ixn (z := .tuple (nsD r0)) rfl]
            rfl
          generalize ((ext m ps m []).idxOf r0 : Nat) = X at g1 li
          generalize nsD r0 = S0 at g1 li p0
          generalize r0 :: rs' = rs at *
          have xx : pNe [.int (X : Int), .int (X : Int)] = some (.val (.bool false)) := by
            show some (Slot.val (.bool (!decide ((X : Int) = X)))) = _
            simp
          have kp : ∀ b s5 s6 s7 s8 s9 s10 s11 s12, TI ns i m ps R [.scr ns, .val (.int (i : Int)), .own [.int b], .val (ordD m ps), .val (.list R), s5, s6, s7, s8, s9, s10, s11, s12, .un, .un, .un, .un] := fun b s5 s6 s7 s8 s9 s10 s11 s12 => ⟨_, _, _, _, _, _, _, _, _, rfl⟩
          have l0 : pNe [.list [], .list []] = some (.val (.bool false)) := rfl
          generalize rsD (rs.map List.reverse) = D2 at *
          generalize (D2.map fun _ => PyData.bool true) = W2 at *
          generalize rsD rs = D at *
          generalize sortP (ps.map swapP) = Q at *
          have nzT : pNe [.bool true, .bool true] = some (.val (.bool false)) := rfl
          have nzF : pNe [.bool false, .bool false] = some (.val (.bool false)) := rfl
          cases hL : leftT m ps rs with
          | nil =>
            have tt := tl.mpr hL
            rw [hL] at fO
            have fO : tx.go (n + 9) "first_left" [.val (ordD m ps), .own D] = .ok (.val .none, [.val (ordD m ps), .val (.list D)]) := fO
            rw [decide_eq_true tt] at tV
            rw [decide_eq_true ⟨rfl, tt⟩] at eO
            rw [decide_eq_true (tR.mpr tt)] at tB
            obtain ⟨_, tM, rfl⟩ := tM tt
            have isn : pIsN [.none, .none] = some (.val (.bool true)) := rfl
            have isnn : pIsNN [.none, .none] = some (.val (.bool false)) := rfl
            simp [fO, bY, isn, eO, nzT, tV, x_ord0, x_ord1, pl6, -x_lcT]
            rw [lc16]
            simp [l0, pl7, isn, isnn, slcL, cut, aM, tM, D6, -x_lcT]
            rw [lcR]
            simp [e6, tB, nzT, isn, B6, -x_lcT]
            rw [lcS]
            simp [aB, p0, g1, li, xx]
            exact kp _ _ _ _ _ _ _ _ _
          | cons p L =>
            have nt : toldP m rs ≠ ps := fun z => by
              have := tl.mp z
              rw [hL] at this
              cases this
            rw [hL] at fO
            have fO : tx.go (n + 9) "first_left" [.val (ordD m ps), .own D] = .ok (.val (.tuple [.int p.1, .int p.2]), [.val (ordD m ps), .val (.list D)]) := fO
            rw [decide_eq_false nt] at tV
            rw [decide_eq_false fun z => nt z.2] at eO
            rw [decide_eq_false fun z => nt (tR.mp z)] at tB
            have pin : p ∈ leftT m ps rs := by rw [hL]; exact List.mem_cons_self
            obtain ⟨pg, pa, _⟩ := mem_leftT.mp pin
            have pg' := mem_grid.mp pg
            obtain ⟨q, hq, hw⟩ := turn_row o1 pa ⟨pg'.1, pg'.2.1⟩ ⟨pg'.2.2.1, pg'.2.2.2⟩
            have fne : pEq [.list (rsD ((ext m ps m []).filter fun r => decide (r.idxOf p.2 < r.idxOf p.1))), .list []] = some (.val (.bool false)) := by
              rw [eqL0, decide_eq_false]
              rw [List.map_eq_nil_iff, List.filter_eq_nil_iff]
              intro h
              exact h q hq (by simpa using hw)
            have lcF := fun s7 s8 s9 s10 => lcF p s7 s8 s9 s10 pg
            generalize rsD ((ext m ps m []).filter fun r => decide (r.idxOf p.2 < r.idxOf p.1)) = F at lcF fne
            have isn : pIsN [.tuple [.int p.1, .int p.2], .none] = some (.val (.bool false)) := rfl
            have isnn : pIsNN [.tuple [.int p.1, .int p.2], .none] = some (.val (.bool true)) := rfl
            simp [fO, bY, isn, eO, nzF, tV, x_ord0, x_ord1, pl6, -x_lcT]
            rw [lc16]
            simp [l0, pl7, isn, isnn, setAll, R6, -x_lcT]
            rw [lcF]
            simp [fne, D6, -x_lcT]
            rw [lcR]
            simp [e6, tB, nzF, isn, B6, -x_lcT]
            rw [lcS]
            simp [aB, p0, g1, li, xx]
            exact kp _ _ _ _ _ _ _ _ _
        · subst e
          subst e'
          have t5 := r_take (n + 8) b6 R.length (by omega) (by omega)
          have q5 := mod_in b6 (show (0 : Int) < R.length by omega)
          obtain ⟨N, hN⟩ := Int.eq_ofNat_of_zero_le q5.1
          rw [hN] at t5 q5
          have hN' : N < (ext m ps m []).length := by omega
          have px : atI R (N : Int) = some (.tuple (nsD (ext m ps m [])[N])) := by
            rw [← hR]
            exact x_ixn (by rw [List.getElem?_map, List.getElem?_eq_getElem hN']; rfl)
          have px : pIx [.list R, .int (N : Int)] = some (.val (.tuple (nsD (ext m ps m [])[N]))) := by
            show (atI R (N : Int)).map Slot.val = _
            rw [px]
            rfl
          have mem := List.getElem_mem hN'
          generalize (ext m ps m [])[N] = q at px mem
          simp [t5, px]
          exact ⟨_, rs ++ [q], rfl, by simp, by simp [hl], fun r h => (List.mem_append.mp h).elim (hm r) fun h => by rw [List.mem_singleton.mp h]; exact mem⟩
    · subst e
      subst e'
      obtain ⟨hj, rfl⟩ := rngD_get hd
      obtain ⟨q, f1, f3⟩ := nth j hj
      obtain ⟨hk, ek⟩ := List.getElem?_eq_some_iff.mp f3
      simp [f1]
      refine ⟨rfl, ?_⟩
      rw [List.take_succ_eq_append_getElem hk, ek]
      simp
theorem main_ok (ns : List Int) (h : ns.length ≤ 63) : (tx.run 40 "law" [.scr ns]).wp (fun r => r.1 = .val (.bool true)) fun _ => False := by
  rw [← go_run]
  exact main_go 30 ns
end Dn.M14

open PySem PySem.W PyProof.Rows
set_option maxHeartbeats 0 in
theorem PySem.Challenge.cw_rowsorder_k14_whole_rows_tell_holds : PySem.Challenge.rw_rowsorder_k14_whole_rows_tell.Holds := by
  w_on; o_law; k_head; (case hw => w_witness2)
  k_fill
  refine Dn.walkG (l := PySem.Challenge.rw_rowsorder_k14_whole_rows_tell) (n := 63) (k := 42) (x := "script") (C := fun w => L2N.CX (PySem.Challenge.rw_rowsorder_k14_whole_rows_tell).prog w) (sp := fun w => Dn.M14.kLaw _) rfl (by decide) rfl ⟨rfl, by decide, by decide⟩ (fun w h Y => PySem.W.kIn_of Y) ?F (fun _ _ a ns hl _ hS => ⟨a, ns, rfl, hS, hl, fun _ => rfl⟩) (fun _ _ _ _ _ h => Dn.noExc h)
  case F =>
    intro w mg fa h KX G hmg
    refine' Dn.M14.all_mk KX G hmg ?fact_a0 ?fact_l0 ?fact_c0 ?fact_k0 ?fact_a1 ?fact_l1 ?fact_c1 ?fact_k1 ?fact_a2 ?fact_l2 ?fact_c2 ?fact_k2 ?fact_a3 ?fact_l3 ?fact_c3 ?fact_k3 ?fact_a4 ?fact_l4 ?fact_c4 ?fact_k4 ?fact_a5 ?fact_l5 ?fact_c5 ?fact_k5 ?fact_a6 ?fact_l6 ?fact_c6 ?fact_k6 ?fact_a7 ?fact_l7 ?fact_c7 ?fact_k7 ?fact_a8 ?fact_l8 ?fact_c8 ?fact_k8 ?fact_a9 ?fact_l9 ?fact_c9 ?fact_k9 ?fact_a10 ?fact_l10 ?fact_c10 ?fact_k10 ?fact_a11 ?fact_l11 ?fact_c11 ?fact_k11 ?fact_a12 ?fact_l12 ?fact_c12 ?fact_k12 ?fact_a13 ?fact_l13 ?fact_c13 ?fact_k13 ?fact_a14 ?fact_l14 ?fact_c14 ?fact_k14 ?fact_a15 ?fact_l15 ?fact_c15 ?fact_k15 ?fact_a16 ?fact_l16 ?fact_c16 ?fact_k16 ?fact_a17 ?fact_l17 ?fact_c17 ?fact_k17 ?fact_a18 ?fact_l18 ?fact_c18 ?fact_k18 ?fact_a19 ?fact_l19 ?fact_c19 ?fact_k19 ?fact_a20 ?fact_l20 ?fact_c20 ?fact_k20 ?fact_a21 ?fact_l21 ?fact_c21 ?fact_k21 ?fact_a22 ?fact_l22 ?fact_c22 ?fact_k22 ?fact_a23 ?fact_l23 ?fact_c23 ?fact_k23 ?fact_a24 ?fact_l24 ?fact_c24 ?fact_k24 ?fact_a25 ?fact_l25 ?fact_c25 ?fact_k25 ?fact_a26 ?fact_l26 ?fact_c26 ?fact_k26 ?fact_a27 ?fact_l27 ?fact_c27 ?fact_k27 ?fact_a28 ?fact_l28 ?fact_c28 ?fact_k28 ?fact_a29 ?fact_l29 ?fact_c29 ?fact_k29 ?fact_a30 ?fact_l30 ?fact_c30 ?fact_k30 ?fact_a31 ?fact_l31 ?fact_c31 ?fact_k31 ?fact_g0 ?fact_z0 ?fact_z1 ?fact_z2 ?fact_z3 ?fact_z4 ?fact_z5 ?fact_z6 ?fact_z7 ?fact_z8 ?fact_z9 ?fact_z10 ?fact_z11 ?fact_z12 ?fact_z13 ?fact_z14 ?fact_z15 (Dn.M14.main_ok)
    (case fact_a0 => k_is)
    (case fact_l0 => k_is)
    (case fact_c0 => k_is)
    (case fact_k0 => k_is)
    (case fact_a1 => k_is)
    (case fact_l1 => k_is)
    (case fact_c1 => k_is)
    (case fact_k1 => k_is)
    (case fact_a2 => k_is)
    (case fact_l2 => k_is)
    (case fact_c2 => k_is)
    (case fact_k2 => k_is)
    (case fact_a3 => k_is)
    (case fact_l3 => k_is)
    (case fact_c3 => k_is)
    (case fact_k3 => k_is)
    (case fact_a4 => k_is)
    (case fact_l4 => k_is)
    (case fact_c4 => k_is)
    (case fact_k4 => k_is)
    (case fact_a5 => k_is)
    (case fact_l5 => k_is)
    (case fact_c5 => k_is)
    (case fact_k5 => k_is)
    (case fact_a6 => k_is)
    (case fact_l6 => k_is)
    (case fact_c6 => k_is)
    (case fact_k6 => k_is)
    (case fact_a7 => k_is)
    (case fact_l7 => k_is)
    (case fact_c7 => k_is)
    (case fact_k7 => k_is)
    (case fact_a8 => k_is)
    (case fact_l8 => k_is)
    (case fact_c8 => k_is)
    (case fact_k8 => k_is)
    (case fact_a9 => k_is)
    (case fact_l9 => k_is)
    (case fact_c9 => k_is)
    (case fact_k9 => k_is)
    (case fact_a10 => k_is)
    (case fact_l10 => k_is)
    (case fact_c10 => k_is)
    (case fact_k10 => k_is)
    (case fact_a11 => k_is)
    (case fact_l11 => k_is)
    (case fact_c11 => k_is)
    (case fact_k11 => k_is)
    (case fact_a12 => k_is)
    (case fact_l12 => k_is)
    (case fact_c12 => k_is)
    (case fact_k12 => k_is)
    (case fact_a13 => k_is)
    (case fact_l13 => k_is)
    (case fact_c13 => k_is)
    (case fact_k13 => k_is)
    (case fact_a14 => k_is)
    (case fact_l14 => k_is)
    (case fact_c14 => k_is)
    (case fact_k14 => k_is)
    (case fact_a15 => k_is)
    (case fact_l15 => k_is)
    (case fact_c15 => k_is)
    (case fact_k15 => k_is)
    (case fact_a16 => k_is)
    (case fact_l16 => k_is)
    (case fact_c16 => k_is)
    (case fact_k16 => k_is)
    (case fact_a17 => k_is)
    (case fact_l17 => k_is)
    (case fact_c17 => k_is)
    (case fact_k17 => k_is)
    (case fact_a18 => k_is)
    (case fact_l18 => k_is)
    (case fact_c18 => k_is)
    (case fact_k18 => k_is)
    (case fact_a19 => k_is)
    (case fact_l19 => k_is)
    (case fact_c19 => k_is)
    (case fact_k19 => k_is)
    (case fact_a20 => k_is)
    (case fact_l20 => k_is)
    (case fact_c20 => k_is)
    (case fact_k20 => k_is)
    (case fact_a21 => k_is)
    (case fact_l21 => k_is)
    (case fact_c21 => k_is)
    (case fact_k21 => k_is)
    (case fact_a22 => k_is)
    (case fact_l22 => k_is)
    (case fact_c22 => k_is)
    (case fact_k22 => k_is)
    (case fact_a23 => k_is)
    (case fact_l23 => k_is)
    (case fact_c23 => k_is)
    (case fact_k23 => k_is)
    (case fact_a24 => k_is)
    (case fact_l24 => k_is)
    (case fact_c24 => k_is)
    (case fact_k24 => k_is)
    (case fact_a25 => k_is)
    (case fact_l25 => k_is)
    (case fact_c25 => k_is)
    (case fact_k25 => k_is)
    (case fact_a26 => k_is)
    (case fact_l26 => k_is)
    (case fact_c26 => k_is)
    (case fact_k26 => k_is)
    (case fact_a27 => k_is)
    (case fact_l27 => k_is)
    (case fact_c27 => k_is)
    (case fact_k27 => k_is)
    (case fact_a28 => k_is)
    (case fact_l28 => k_is)
    (case fact_c28 => k_is)
    (case fact_k28 => k_is)
    (case fact_a29 => k_is)
    (case fact_l29 => k_is)
    (case fact_c29 => k_is)
    (case fact_k29 => k_is)
    (case fact_a30 => k_is)
    (case fact_l30 => k_is)
    (case fact_c30 => k_is)
    (case fact_k30 => k_is)
    (case fact_a31 => k_is)
    (case fact_l31 => k_is)
    (case fact_c31 => k_is)
    (case fact_k31 => k_is)
    (case fact_g0 => k_is)
    (case fact_z0 => k_is)
    (case fact_z1 => k_is)
    (case fact_z2 => k_is)
    (case fact_z3 => k_is)
    (case fact_z4 => k_is)
    (case fact_z5 => k_is)
    (case fact_z6 => k_is)
    (case fact_z7 => k_is)
    (case fact_z8 => k_is)
    (case fact_z9 => k_is)
    (case fact_z10 => k_is)
    (case fact_z11 => k_is)
    (case fact_z12 => k_is)
    (case fact_z13 => k_is)
    (case fact_z14 => k_is)
    (case fact_z15 => k_is)


import PyProof.Rows.All
import HandS.ForMost
import HandS.ForExc
import HandS.TupSets
import KE.SortData
import HandS.IsInst
import HandS.Wide
import HandS.ExcCtx
import HandS.HotCalls
import HandS.ExcIs
import KE.KeyNested
import HandS.ExcInit
import HandS.ExcField
import HandS.TupAny
import HandS.Deep
import HandS.Text
import HandS.AnyAll
import HandS.Strs
import HandS.More
import HandS.Conv
import HandS.WideBits
import HandS.SetFor
import HandS.Zip
import HandS.TupLe
import KE.GoesMore
import HandS.Style
import KE.KDictDisplayH
import HandS.ExcValue
import HandS.Flow
import HandS.JoinGen
import PySem.Challenge.RW_rowsorder_k73_lists_counted
set_option Elab.async false
set_option linter.all false
set_option maxRecDepth 100000
/-! DenW: sets of as many as 64 pairs. -/
namespace Dn
open PySem PySem.Spec L2
open PyProof.Rows hiding St
section
variable {P : Program} {w : World} {A : Around} {E : Value → Shared → Prop} {s : Shared} {a : Addr} {L : List (Addr × List Int)} {es : Array (Int × Value)} {ep : Nat} {t : SetTable}
/-- the set as it stands, however many it has -/
def SetW (P : Program) (w : World) (h : Heap) (a : Addr) (L : List (Addr × List Int)) (es : Array (Int × Value)) (ep : Nat) (t : SetTable) : Prop :=
  ((∃ o, h.get? a = some o ∧ o.ExactSet ∧ o.data = .set es ep t) ∧ es.toList = rowsOf P w L ∧ TabOk t (L.map fun p => thash P w p.2)) ∧ (L.map (·.2)).Nodup ∧ (∀ p ∈ L, IsT P w h p.2 p.1) ∧ (t.plain = true ∧ (w.params.followText "set-order" = true ∨ t.led = true)) ∧ L.length * 5 < t.mask * 3
theorem SetW.of {h : Heap} (R : SetTR P w h a L es ep t) : SetW P w h a L es ep t := ⟨⟨R.ob, R.rows, R.tab⟩, R.nd, R.tup, ⟨R.plain, R.led⟩, R.room⟩
theorem SetW.tr {h : Heap} (R : SetW P w h a L es ep t) (l : L.length < 64) : SetTR P w h a L es ep t := ⟨R.1.1, R.1.2.1, R.1.2.2, R.2.1, R.2.2.1, R.2.2.2.1.1, R.2.2.2.1.2, R.2.2.2.2, l⟩
theorem SetW.keep {h h' : Heap} (R : SetW P w h a L es ep t) (ha : ∀ o, h.get? a = some o → h'.get? a = some o) (ht : ∀ p ∈ L, IsT P w h' p.2 p.1) : SetW P w h' a L es ep t :=
  ⟨⟨R.1.1.imp fun o q => ⟨ha o q.1, q.2⟩, R.1.2⟩, R.2.1, ht, R.2.2.2⟩
theorem SetW.fits {h : Heap} (R : SetW P w h a L es ep t) : es.size = L.length ∧ t.fits es.size = true := by
  have z : es.size = L.length := by
    have q := congrArg List.length R.1.2.1
    rw [Array.length_toList] at q
    rw [q]
    exact List.length_map _
  refine ⟨z, ?_⟩
  have q1 := R.1.2.2.sz
  have q2 := R.2.2.2.2
  rw [List.length_map] at q1
  unfold SetTable.fits SetTable.fill
  rw [R.1.2.2.dm, z, q1]
  simp
  omega
/-- what is there is found -/
theorem there_at (R : SetW P w s.heap a L es ep t) {x : Addr} {k : List Int} (hx : IsT P w s.heap k x) (hm : k ∈ L.map (·.2)) (un : A.units < cLine) {Q : SetFound → Shared → Prop} (hin : Q (.there none) s) : wpAny (model P w) A (setSearch a (.ref x) (thash P w k) true) Q E s := by
  have ft := R.fits
  obtain ⟨⟨⟨o, ho, hex, hd⟩, rows, tab⟩, nd, tup, ⟨pl, ld⟩, room⟩ := R
  obtain ⟨p0, hp0, ek⟩ := List.mem_map.mp hm
  obtain ⟨i0, li0, e0⟩ := List.getElem_of_mem hp0
  have row : ∀ {i : Nat} {p : Addr × List Int}, L[i]? = some p → es[i]? = some (thash P w p.2, Value.ref p.1) := fun {i p} q => by
    have z : es.toList[i]? = (rowsOf P w L)[i]? := by rw [rows]
    rw [Array.getElem?_toList] at z
    rw [z]
    show (L.map _)[i]? = _
    rw [List.getElem?_map, q] <;> rfl
  have hL0 : L[i0]? = some p0 := by rw [List.getElem?_eq_getElem li0, e0]
  have psz : t.place.toList.length = L.length := by
    rw [Array.length_toList, tab.sz]
    exact List.length_map _
  have mk : t.mask ≤ 127 := by
    rcases tab.mok with e | e | e <;> omega
  obtain ⟨K, hKf, hK, hKb⟩ := tab.first (by rw [List.length_map]; omega) (thash P w k)
  have K6 : K < 99999 := by
    have : SetTable.turns t.mask ≤ 142 := by
      unfold SetTable.turns
      omega
    omega
  have j0 := List.getElem?_eq_getElem (l := t.place.toList) (i := i0) (by omega)
  generalize t.place.toList[i0] = jj at j0
  obtain ⟨c0, hc0, ec0⟩ := tab.before hK (i := i0) (j := jj) (by rw [List.getElem?_map, hL0, ← ek] <;> rfl) j0
  generalize hst0 : t.probeStart (thash P w k) = b0
  have wy : ∀ c, way t.mask (thash P w k) c = (nth t.mask b0 c).j := fun c => by rw [← hst0]; rfl
  have dum : ∀ c, (nth t.mask b0 c).dummy = none := fun c => by
    have key : ∀ (n : Nat) (p : SetTable.Probe), p.dummy = none → (nth t.mask p n).dummy = none := fun n => by
      induction n with
      | zero => exact fun p z => z
      | succ n ih => exact fun p z => ih _ (by unfold adv; split <;> exact z)
    exact key c b0 (by rw [← hst0]; rfl)
  have walk : ∀ (f c : Nat) (st : Option SetTable.Probe), st.getD b0 = nth t.mask b0 c → c ≤ c0 → c0 - c < f → wpAny (model P w) A (setSearchFrom a (.ref x) (thash P w k) true f st) Q E s := by
    intro f
    induction f with
    | zero => exact fun c st _ _ z => absurd z (Nat.not_lt_zero _)
    | succ f ih =>
      intro c st hst hc hf
      rw [setSearchFrom_succ]
      refine wpAny_bind (wpAny_setState_of ho hd ft.2 ?_)
      dsimp only
      have g0 : ¬ t.gaveWay = true := by
        unfold SetTable.gaveWay
        rw [mask_odd tab.mok]
        decide
      refine wp_if_neg g0 ?_
      try refine wpAny_bind (wpAny_pure ?_)
      have sh : ∀ q, nth t.mask (nth t.mask b0 c) q = nth t.mask b0 (c + q) := fun q => (nth_add t.mask c b0 q).symm
      have dlt : c0 - c < K - c := by omega
      have spec := go_spec t tab.ris tab.dm (fun i => (es[i]?.map (·.1)).getD 0) (thash P w k) (10 * SetTable.turns t.mask) (K - c) (nth t.mask b0 c) (dum c) (by omega)
        (fun q hq => by rw [sh, ← wy]; exact hKb (c + q) (by omega)) (by rw [sh, ← wy, show c + (K - c) = K by omega]; exact hK)
      have h0 : (fun i => (es[i]?.map (·.1)).getD 0) i0 = thash P w k := by
        show (es[i0]?.map (·.1)).getD 0 = _
        rw [row hL0, ← ek] <;> rfl
      have j1 : t.place.toList[i0]? = some (nth t.mask (nth t.mask b0 c) (c0 - c)).j := by
        rw [sh, ← wy, show c + (c0 - c) = c0 by clear spec; omega, ec0]
        exact j0
      rcases spec with ⟨q, i, hq, hi, hh, hno, hpr⟩ | ⟨hno, _⟩
      · have pr : t.probe (fun i => (es[i]?.map (·.1)).getD 0) (thash P w k) (st.getD (t.probeStart (thash P w k))) = some (.candidate (nth t.mask (nth t.mask b0 c) q).j i (nth t.mask (nth t.mask b0 c) (q + 1))) := by
          rw [hst0, hst]
          exact hpr
        rw [pr]
        dsimp only
        have le : q ≤ c0 - c := Nat.le_of_not_lt fun z => hno (c0 - c) i0 z j1 h0
        have il : i < L.length := by
          have := (List.getElem?_eq_some_iff.mp hi).1
          omega
        obtain ⟨p, hp⟩ : ∃ p, L[i]? = some p := ⟨_, List.getElem?_eq_getElem il⟩
        have pt := tup p (List.mem_of_getElem? hp)
        have rest : wpAny (model P w) A (searchRest a (.ref x) (thash P w k) true f es t (nth t.mask (nth t.mask b0 c) q).j i (nth t.mask (nth t.mask b0 c) (q + 1))) Q E s := by
          unfold searchRest
          rw [row hp]
          dsimp only
          refine wpAny_bind (wpAny_holding (wpAny_eqBool_tuple un pt hx ?_))
          refine wpAny_bind (wpAny_setState_of ho hd ft.2 ?_)
          dsimp only
          by_cases same : p.2 = k
          · exact wp_if_pos (by simp [same]) (wpAny_pure hin)
          · refine wp_if_neg (by simp [same]) ?_
            try refine wpAny_bind (wpAny_pure ?_)
            rw [sameMem]
            dsimp only
            have live := slot_live tab.ris hi
            simp only [if_true, live, row hp]
            refine wpAny_bind (wpAny_isSame_ref_self (wpAny_bind (wpAny_pure ?_)))
            simp only [if_true]
            refine wp_if_neg (by simp [same]) ?_
            have lt : q < c0 - c := Nat.lt_of_le_of_ne le fun z => by
              rw [← z] at j1
              have := slot_live tab.ris j1
              rw [live] at this
              injection this with this
              rw [← this, hp] at hL0
              exact same (by rw [Option.some.inj hL0]; exact ek)
            exact ih (c + (q + 1)) _ (sh (q + 1)) (by omega) (by omega)
        by_cases l : t.led = true
        · refine wp_if_neg (by simp [l]) ?_
          try refine wpAny_bind (wpAny_pure ?_)
          exact rest
        · refine wp_if_pos (by simp [l]) (wpAny_bind (seen_tup hx (fun y hy => ?_) ?_))
          · obtain ⟨e, he, rfl⟩ := List.mem_map.mp hy
            have he1 : e ∈ es.toList := by
              have z : e ∈ es ∧ e.1 = thash P w k := by simpa using he
              simpa using z.1
            rw [rows] at he1
            obtain ⟨p2, hp2, rfl⟩ := List.mem_map.mp he1
            exact ⟨p2.2, p2.1, rfl, tup p2 hp2⟩
          · refine wp_if_neg (by decide) ?_
            try refine wpAny_bind (wpAny_pure ?_)
            exact rest
      · exact absurd h0 (hno (c0 - c) i0 dlt j1)
  unfold setSearch
  exact walk 100000 0 none rfl (Nat.zero_le _) (by omega)
/-- one more: as many as 64, whatever was there -/
theorem addW_at (R : SetW P w s.heap a L es ep t) {x : Addr} {k : List Int} (hx : IsT P w s.heap k x) (un : A.units < cLine) (l : L.length ≤ 64) (l2 : k ∉ L.map (·.2) → L.length < 64) {Q : Bool → Shared → Prop}
    (fin : ∀ b g L' es' ep' t', Heap.SameBut a s.heap g → SetW P w g a L' es' ep' t' → (k ∈ L.map (·.2) → L' = L) → (k ∉ L.map (·.2) → L'.Perm ((x, k) :: L)) → Q b { s with heap := g }) : wpAny (model P w) A (setAddHashed a (.ref x) (thash P w k)) Q E s := by
  by_cases small : L.length + 1 < 64
  · exact add_at (R.tr (by omega)) hx un small fun b g L' es' ep' t' sb R' c1 c2 => fin b g L' es' ep' t' sb (SetW.of R') c1 c2
  have ft := R.fits
  have R0 := R
  obtain ⟨⟨⟨o, ho, hex, hd⟩, rows, tab⟩, nd, tup, ⟨pl, ld⟩, room⟩ := R
  unfold setAddHashed
  rw [show (100000 : Nat) = 99999 + 1 from rfl, setAddHashedIn_succ]
  refine wpAny_holding (wpAny_bind (wpAny_setState_of ho hd ft.2 ?_))
  dsimp only
  refine wp_if_neg (by simp [byScan, Value.scannable]) ?_
  try refine wpAny_bind (wpAny_pure ?_)
  by_cases hm : k ∈ L.map (·.2)
  · exact wpAny_bind (there_at R0 hx hm un (wpAny_pure (fin false s.heap L es ep t (.refl a s.heap) R0 (fun _ => rfl) fun z => absurd hm z)))
  have l3 := l2 hm
  have mk : t.mask = 127 := by
    rcases tab.mok with e | e | e <;> omega
  refine wpAny_bind (search_at (R0.tr l3) hx un (fun z => absurd z hm) fun K _ hK hb => ?_)
  dsimp only
  refine wpAny_bind (wpAny_setState_of ho hd ft.2 ?_)
  dsimp only
  obtain ⟨q1, q2, q3, q4, q5, q6, q7, q8, q9⟩ := tab.put hK hb
  rw [List.length_map] at q9
  rw [← q6] at pl
  rw [← q5] at ld
  have room' : (L.length + 1) * 5 < (t.put (way t.mask (thash P w k) K)).1.mask * 3 := by rw [q4, mk]; omega
  generalize t.put (way t.mask (thash P w k) K) = pt at *
  obtain ⟨u, i⟩ := pt
  dsimp only at *
  subst q1
  generalize SetTable.below t.place (way t.mask (thash P w k) K) = i at *
  have e1 : (SetTable.insertAt es i (thash P w k, Value.ref x)).toList = rowsOf P w (L.take i ++ (x, k) :: L.drop i) := by
    rw [SetTable.toList_insertAt, rows_put, rows]
  have pm := put_perm L i (x, k)
  have e2 : ((L.take i ++ (x, k) :: L.drop i).map fun p => thash P w p.2) = (L.map fun p => thash P w p.2).take i ++ thash P w k :: (L.map fun p => thash P w p.2).drop i := by
    rw [List.map_append, List.map_cons, List.map_take, List.map_drop]
  rw [← e2] at q3
  have e3 : (SetTable.insertAt es i (thash P w k, Value.ref x)).size = L.length + 1 := by
    have z := congrArg List.length e1
    rw [Array.length_toList] at z
    rw [z]
    exact (List.length_map _).trans pm.length_eq
  generalize SetTable.insertAt es i (thash P w k, Value.ref x) = es1 at e1 e3 ⊢
  generalize L.take i ++ (x, k) :: L.drop i = L1 at pm q3 e1
  have nf : ¬ u.tooFull = true := by
    unfold SetTable.tooFull
    rw [decide_eq_true_eq, q9]
    omega
  have sb : Heap.SameBut a s.heap (s.heap.update a (Obj.putSet es1 u)) := .update ..
  have ho1 := store_at (es' := es1) (t' := u) ho hd
  have done : ∀ b, Q b { s with heap := s.heap.update a (Obj.putSet es1 u) } := fun b => by
    refine fin b _ L1 es1 (ep + 1) u sb ⟨⟨⟨_, ho1, ⟨hex.1, hex.2.1, hex.2.2⟩, rfl⟩, e1, q3⟩, ?_, fun p hp => ?_, ⟨pl, ld⟩, by rw [pm.length_eq]; exact room'⟩ (fun z => absurd z hm) fun _ => pm
    · refine (pm.map (·.2)).nodup_iff.mpr ?_
      rw [List.map_cons]
      exact List.nodup_cons.mpr ⟨hm, nd⟩
    · rcases List.mem_cons.mp (pm.mem_iff.mp hp) with e | hp
      · rw [e]; exact isT_same hx ho hd sb
      · exact isT_same (tup p hp) ho hd sb
  first
    | (refine wpAny_bind ?_; refine wp_if_pos pl ?_; refine hashBy_tup hx ?_)
    | refine wp_if_pos pl (wpAny_bind (hashBy_tup hx ?_))
  simp only [if_true]
  refine wpAny_bind (wpAny_storeSet_of ho hd ?_ (by rw [e3, sizeLine_eq]; omega))
  first
    | exact wp_if_neg (by simp [nf]) (wpAny_pure (done true))
    | (refine wpAny_bind ?_; exact wp_if_neg (by simp [nf]) (wpAny_pure (wpAny_pure (done true))))
end
/-! ### sorted -/
theorem perm_map_inv {α β : Type} {f : α → β} {vs ws : List β} (h : vs.Perm ws) : ∀ L : List α, ws = L.map f → ∃ L1 : List α, L1.Perm L ∧ vs = L1.map f := by
  induction h with
  | nil => exact fun L e => ⟨[], by rw [List.map_eq_nil_iff.mp e.symm], rfl⟩
  | cons x _ ih =>
    intro L e
    match L with
    | [] => cases e
    | y :: L =>
      injection e with e1 e2
      obtain ⟨L1, p, q⟩ := ih L e2
      exact ⟨y :: L1, p.cons y, by rw [List.map_cons, q, e1]⟩
  | swap x y l =>
    intro L e
    match L with
    | [] => cases e
    | [_] => cases e
    | u :: v :: L =>
      injection e with e1 e2
      injection e2 with e2 e3
      exact ⟨v :: u :: L, .swap u v L, by rw [List.map_cons, List.map_cons, e1, e2, e3]⟩
  | trans _ _ ih1 ih2 =>
    intro L e
    obtain ⟨L2, p2, q2⟩ := ih2 L e
    obtain ⟨L1, p1, q1⟩ := ih1 L2 q2
    exact ⟨L1, p1.trans p2, q1⟩
/-- a pair's data -/
def encK (q : Addr × List Int) : PyData := .tuple [.int (q.2.getD 0 0), .int (q.2.getD 1 0)]
def leK (p q : Addr × List Int) : Bool := PySem.W.dataLe false encK p q
theorem leK_eq (p q : Addr × List Int) : leK p q = decide (p.2.getD 0 0 < q.2.getD 0 0 ∨ p.2.getD 0 0 = q.2.getD 0 0 ∧ p.2.getD 1 0 ≤ q.2.getD 1 0) := congrFun (congrFun (PySem.W.dataLe_ii (β := Addr × List Int) (fun q => q.2.getD 0 0) (fun q => q.2.getD 1 0)) p) q
theorem each_refs : ∀ L : List (Addr × List Int), PySem.W.EachIs (fun v (b : Addr × List Int) => v = Value.ref b.1) (L.map fun q => Value.ref q.1) L
  | [] => .nil
  | q :: L => .cons rfl (each_refs L)
theorem refs_each : ∀ {vs : List Value} {L : List (Addr × List Int)}, PySem.W.EachIs (fun v (b : Addr × List Int) => v = Value.ref b.1) vs L → vs = L.map fun q => Value.ref q.1
  | _, _, .nil => rfl
  | _, _, .cons h t => by rw [h, refs_each t, List.map_cons]
section
variable {P : Program} {w : World} {A : Around} {E : Value → Shared → Prop} {s : Shared} {a : Addr} {L : List (Addr × List Int)} {es : Array (Int × Value)} {ep : Nat} {t : SetTable}
theorem sorted_setW (R : SetW P w s.heap a L es ep t) (hh : A.handled = none) (un : A.units + 200 < cLine) (l : L.length ≤ 64) (two : ∀ p ∈ L, ∃ x y, p.2 = [x, y]) {Q : Value → Shared → Prop}
    (fin : ∀ u p (out : Array Value) (c : Nat) (L' : List (Addr × List Int)), (∀ b o, s.heap.get? b = some o → u.heap.get? b = some o) → u.gens = s.gens → u.os = s.os → s.heap.objs.size ≤ p → u.heap.get? p = some (seqObj "list" out c) →
      out.toList = L'.map (fun q => Value.ref q.1) → L'.Perm L → L'.Pairwise (fun q r => leK q r = true) → Q (.ref p) u) : wpAny (model P w) A (call (.builtin "sorted") [.ref a]) Q E s := by
  have ft := R.fits
  obtain ⟨⟨⟨o, ho, hex, hd⟩, rows, tab⟩, nd, tup, ⟨pl, ld⟩, room⟩ := R
  refine Calls.call_function_entry kind_sorted plain_sorted entry_sorted (args_sorted1 _) ?_
  unfold Builtin.«sorted»
  refine wpAny_bind (m := checkCount "sorted" 1 1 _) (wpAny_pure ?_)
  refine wpAny_bind (collect_set (A := A.in1) hh ⟨o, ho, hex.1, hd⟩ ft.2 (by rw [ft.1]; unfold scanBound; omega) tab.ris ld fun u vs k1 hz g1 o1 pm => ?_)
  obtain ⟨L1, p1, rfl⟩ := perm_map_inv pm L (f := fun q => Value.ref q.1) (by
    rw [rows]
    show List.map _ (L.map _) = _
    rw [List.map_map] <;> rfl)
  have l1 : L1.length ≤ 64 := by rw [p1.length_eq]; exact l
  refine wpAny_bind (wpAny_newList ?_ (by rw [List.length_map, sizeLine_eq]; omega))
  have hn : (u.heap.push (seqObj "list" (L1.map fun q => Value.ref q.1).toArray 0)).get? u.heap.objs.size = some (seqObj "list" (L1.map fun q => Value.ref q.1).toArray 0) := Heap.get?_push_size _ rfl
  have rd : ∀ q ∈ L1, ∃ as, Reads (u.heap.push (seqObj "list" (L1.map fun q => Value.ref q.1).toArray 0)) (.ref q.1) (encK q) as ∧ u.heap.objs.size ∉ as := fun q hq => by
    have hq := p1.mem_iff.mp hq
    have it := tup q hq
    obtain ⟨x, y, e⟩ := two q hq
    obtain ⟨oq, its, n, h1, h2, h3, h4⟩ := it
    have h1' := k1 q.1 oq h1
    have ne : u.heap.objs.size ≠ q.1 := Nat.ne_of_gt (Heap.lt_size h1')
    rw [e] at h4
    have enc : encK q = .tuple [.int x, .int y] := by unfold encK; rw [e] <;> rfl
    rw [enc]
    refine ⟨[], ?_, by simp⟩
    generalize hv : its.toList = vs at h4
    cases h4 with
    | cons z1 h4 =>
      cases h4 with
      | cons z2 h4 =>
        cases h4
        obtain ⟨t1, rfl⟩ := Value.isInt_shape z1
        obtain ⟨t2, rfl⟩ := Value.isInt_shape z2
        exact .tuple (Heap.get?_push_of_some _ h1') h2 h3 (by rw [hv]; exact .cons (.int x t1) (.cons (.int y t2) .nil))
  have rds : ∀ L2 : List (Addr × List Int), (∀ q ∈ L2, q ∈ L1) → PySem.W.EachIs (fun v (b : Addr × List Int) => ∃ as, Reads (u.heap.push (seqObj "list" (L1.map fun q => Value.ref q.1).toArray 0)) v (encK b) as ∧ u.heap.objs.size ∉ as) (L2.map fun q => Value.ref q.1) L2 := fun L2 => by
    induction L2 with
    | nil => exact fun _ => .nil
    | cons q L2 ih => exact fun h => .cons (rd q (h q List.mem_cons_self)) (ih fun y hy => h y (List.mem_cons_of_mem _ hy))
  have hal : PySem.W.AllAlike (L1.map encK) := fun d hd e he => by
    obtain ⟨p, _, rfl⟩ := List.mem_map.mp hd
    obtain ⟨q, _, rfl⟩ := List.mem_map.mp he
    simp [PySem.W.alike, PySem.W.alikeAll, encK]
  have hk : PySem.W.Sortable (L1.map encK) := .inl fun d hd => by
    obtain ⟨p, _, rfl⟩ := List.mem_map.mp hd
    exact ⟨_, _, rfl⟩
  refine wpAny_bind (wpAny_holding (PySem.W.list_sort_data (s := { u with heap := u.heap.push (seqObj "list" (L1.map fun q => Value.ref q.1).toArray 0) }) (enc := encK) hn (each_refs L1) (rds L1 fun q hq => hq) hal hk (by rw [sizeLine_eq]; omega) (fun b _ => ?_) fun out lo eo => ?_))
  · have : (encK b).depth ≤ 2 := by simp [encK, PyData.depth, PyData.depthAll]
    show A.units + 1 + 1 + (encK b).depth < cLine
    omega
  · obtain ⟨c, hc⟩ := sortedHeap_at (vs := L1.map fun q => Value.ref q.1) (out := out.toArray) hn
    refine wpAny_pure ⟨_, rfl, fin _ u.heap.objs.size out.toArray c (L1.mergeSort leK) (fun b o e => ?_) g1 o1 hz hc ?_ ((List.mergeSort_perm L1 leK).trans p1) ?_⟩
    · have e1 := k1 b o e
      have lt := Heap.lt_size e1
      show (sortedHeap (u.heap.push (seqObj "list" (L1.map fun q => Value.ref q.1).toArray 0)) u.heap.objs.size (L1.map fun q => Value.ref q.1) out.toArray).get? b = some o
      rw [sortedHeap_old (Nat.ne_of_lt lt) (by rw [size_push']; exact Nat.lt_succ_of_lt lt)]
      exact Heap.get?_push_of_some _ e1
    · exact refs_each eo
    · exact List.pairwise_mergeSort (le := leK) (fun x y z h g => by
        rw [leK_eq, decide_eq_true_eq] at *
        omega) (fun x y => by
        rw [leK_eq, leK_eq, Bool.or_eq_true, decide_eq_true_eq, decide_eq_true_eq]
        omega) L1
end
/-! ### as an object of the layer -/
def SetW0 (P : Program) (w : World) (h : Heap) (a : Addr) (L : List (Addr × List Int)) : Prop := L.length ≤ 64 ∧ ∃ (es : Array (Int × Value)) (ep : Nat) (t : SetTable),
  ((∃ o, h.get? a = some o ∧ o.ExactSet ∧ o.data = .set es ep t) ∧ es.toList = rowsOf P w L ∧ TabOk t (L.map fun p => thash P w p.2)) ∧ (L.map (·.2)).Nodup ∧ (t.plain = true ∧ (w.params.followText "set-order" = true ∨ t.led = true)) ∧ L.length * 5 < t.mask * 3
def SetTW (P : Program) (w : World) (a : Addr) (L : List (Addr × List Int)) : HO := .ext fun h => SetW0 P w h a L
section
variable {P : Program} {w : World} {h : Heap} {a : Addr} {L : List (Addr × List Int)} {es : Array (Int × Value)} {ep : Nat} {t : SetTable}
theorem SetW.w0 (R : SetW P w h a L es ep t) (l : L.length ≤ 64) : SetW0 P w h a L := ⟨l, es, ep, t, R.1, R.2.1, R.2.2.2⟩
theorem setTW_new {H : Hp} (R : SetW0 P w h a L) : ObjOk P w H h a (SetTW P w a L) := by
  have ⟨l, es, ep, t, ⟨⟨o, ho, r⟩, q1⟩, q2⟩ := R
  refine ⟨R, ⟨o, ho⟩, fun h1 h2 p k => ?_⟩
  have ⟨l', es', ep', t', ⟨⟨o', ho', r'⟩, z1⟩, z2⟩ := (p : SetW0 P w h1 a L)
  exact ⟨l', es', ep', t', ⟨⟨o', k o' ho', r'⟩, z1⟩, z2⟩
end
/-- sorted(set), the pairs -/
def rSortedW (K : PySem.W.Frag) (P : Program) (w : World) : List V → Hp → VK → Prop := fun vs H Q => ∃ (a : Addr) (L : List (Addr × List Int)), vs = [V.ref a] ∧ H a = some (SetTW P w a L) ∧ (∀ p ∈ L, SqT K H p.1 (p.2.map V.int)) ∧ (∀ p ∈ L, ∃ x y, p.2 = [x, y]) ∧
  ∀ (L' : List (Addr × List Int)) (p : Addr), L'.Perm L → (L'.map (·.2)).Nodup → L'.Pairwise (fun q r => leK q r = true) → H p = none → Q (.ref p) (upd H p (.lst (L'.map fun q => V.ref q.1)))
theorem call_sortedW {X : Cx} (hc : X.calm = true) (hu : X.A.units + 200 < cLine) : CallR X (.builtin "sorted") (rSortedW X.K X.prog X.w) := by
  intro pins s σ H vs us Q I r ⟨a, L, e, ha, hk, two, q⟩
  subst e
  obtain ⟨l, es, ep, t, g1, g2, g3⟩ := (show SetW0 X.prog X.w s.heap a L from (I.hok a _ ha).1)
  have R : SetW X.prog X.w s.heap a L es ep t := ⟨g1, g2, fun p hp => I.isT (hk p hp), g3⟩
  rw [Vals.ref1 r]
  refine sorted_setW R (I.ok.hd hc) hu l two fun u p out c L' k g o hp hg hout pm pw => ?_
  have hlen : (L'.map fun q => V.ref q.1).length ≤ sizeLine := by rw [List.length_map, pm.length_eq, sizeLine_eq]; omega
  have hn : H p = none := I.hok.fresh hp
  have J : Inv X pins σ (upd H p (.lst (L'.map fun q => V.ref q.1))) { s with heap := u.heap, gens := u.gens, drawn := u.drawn, toks := u.toks } :=
    I.call (ch := []) (Un.laid k hp hn) (I.hok.laid k hp ⟨hlen, out.toList, c, by rw [hout]; exact vals_of_refs L', hg⟩) (by rw [g]; exact I.bare) (fun _ z => nomatch z)
  have e : u = { s with heap := u.heap, gens := u.gens, drawn := u.drawn, toks := u.toks } := by
    cases u
    cases s
    cases o
    rfl
  rw [e]
  exact ⟨.ref p, _, J, rfl, q L' p pm ((pm.map (·.2)).nodup_iff.mpr g2) pw hn⟩
end Dn

/-! DenS: set(xs), xs a list or a tuple of pairs, not many of them different. -/
namespace Dn
open PySem PySem.Spec L2
open PyProof.Rows hiding St

section
variable {P : Program} {w : World} {A : Around} {E : Value → Shared → Prop} {s : Shared}
/-- the set's loop, where few items are different -/
theorem fold_few {I : Addr} {fp wr : List Addr} {G : Array GenState → Array GenState → Prop} {n : Nat} {Pv : Nat → Value → Prop} {Sx : Nat → Shared → Prop} {R : Result → Shared → Prop}
    (W : WalksS P w A.in1 I fp wr G n Pv Sx) (D : Addr) (nD : D ∉ fp) (ks : List (Addr × List Int)) (ln : n = ks.length) (few : ∀ L : List (Addr × List Int), (L.map (·.2)).Nodup → (∀ p ∈ L, p ∈ ks) → L.length ≤ 64) (vl : ∀ i v, Pv i v → ∃ p, ks[i]? = some p ∧ v = .ref p.1)
    (g0 : Heap) (kt : ∀ p ∈ ks, IsT P w g0 p.2 p.1) (d0 : g0.get? D = none) (w0 : ∀ b ∈ wr, g0.get? b = none) (un : A.in1.units < cLine) :
    ∀ (m i : Nat) (s : Shared), n - i = m → i ≤ n → Sx i s → (∀ b o, g0.get? b = some o → s.heap.get? b = some o) → (∃ L es ep t, SetW P w s.heap D L es ep t ∧ Got ks i L) →
      (∀ s' L es ep t, Moved (D :: wr) G s s' → SetW P w s'.heap D L es ep t → Got ks n L → (∀ b o, g0.get? b = some o → s'.heap.get? b = some o) → R (.ok (.ret .none)) s') →
      codeAny (model P w) A (.builtin "set.update.loop" ⟨[.ref D, .ref I], []⟩) R s := by
  have nw : D ∉ wr := fun z => nD (W.sub _ z)
  have up : ∀ b ∈ wr, b ∈ D :: wr := fun b z => List.mem_cons_of_mem _ z
  have stay : ∀ {a b : Shared}, Moved wr G a b → (∀ c o, g0.get? c = some o → a.heap.get? c = some o) → ∀ c o, g0.get? c = some o → b.heap.get? c = some o := fun mv k c o e =>
    mv.heap c o (fun z => by rw [w0 c z] at e; cases e) (k c o e)
  intro m
  induction m with
  | zero =>
    intro i s em le st k ⟨L, es, ep, t, S, got⟩ fin
    obtain rfl : i = n := by omega
    refine codeAny_builtin F.entry_set_update_loop ?_
    rw [Around.under_plainId F.plain_set_update_loop _]
    show wpAny _ A.in1 (pyNext (.ref I) >>= _) _ _ s
    refine wpAny_bind (W.done s _ _ st fun u mv => ?_)
    show wpAny _ A.in1 (ret Value.none) _ _ u
    have k' := stay mv k
    exact wpAny_pure (fin u L es ep t (mv.mono up) (S.keep (fun o e => mv.heap D o nw e) fun p hp => isT_keep (kt p (List.mem_of_mem_take (got.sub p hp))) k') got k')
  | succ m ih =>
    intro i s em le st k ⟨L, es, ep, t, S, got⟩ fin
    have lt : i < n := by omega
    refine codeAny_builtin F.entry_set_update_loop ?_
    rw [Around.under_plainId F.plain_set_update_loop _]
    show wpAny _ A.in1 (pyNext (.ref I) >>= _) _ _ s
    refine wpAny_bind (W.item i s _ _ lt st fun v u pv st' mv => ?_)
    obtain ⟨p, hp, ev⟩ := vl i v pv
    subst ev
    have k' := stay mv k
    have inL : ∀ q ∈ L, q ∈ ks := fun q z => List.mem_of_mem_take (got.sub q z)
    have S' : SetW P w u.heap D L es ep t := S.keep (fun o e => mv.heap D o nw e) fun q z => isT_keep (kt q (inL q z)) k'
    have px : IsT P w u.heap p.2 p.1 := isT_keep (kt p (List.mem_of_getElem? hp)) k'
    show wpAny _ A.in1 (holding [Value.ref p.1] (setAdd D (.ref p.1)) >>= _) _ _ u
    refine wpAny_bind (wpAny_holding ?_)
    unfold setAdd
    refine wpAny_holding (wpAny_bind (wpAny_pyHash_tuple un px ?_))
    have inK : p ∈ ks := List.mem_of_getElem? hp
    refine addW_at (s := { u with toks := u.toks + (p.2.length + 1) }) S' px un (few L S.2.1 inL) (fun hm => ?_) fun b g' L' es' ep' t' sb S2 c1 c2 => ?_
    case refine_1 =>
      have z := few (p :: L) (by rw [List.map_cons]; exact List.nodup_cons.mpr ⟨hm, S.2.1⟩) fun q hq => (List.mem_cons.mp hq).elim (fun e => by rw [e]; exact inK) (inL q)
      rw [List.length_cons] at z
      exact z
    have got' : Got ks (i + 1) L' := by
      by_cases c : p.2 ∈ L.map (·.2)
      · rw [c1 c]; exact got.same hp c
      · exact got.more hp (c2 c)
    have k2 : ∀ b o, g0.get? b = some o → g'.get? b = some o := fun b o e => (sb.2 b (fun z => by rw [z, d0] at e; cases e)).trans (k' b o e)
    refine wpAny_pure ⟨plainId_quiet F.plain_set_update_loop _, ih (i + 1) _ (by omega) lt (W.frame _ u _ _ st' (Nat.le_add_right _ _) fun b z o e => ?_) k2 ⟨L', es', ep', t', S2, got'⟩ fun u2 L2 es2 ep2 t2 mv2 S3 got2 k3 => ?_⟩
    · rw [sb.2 b (fun y : b = D => nD (by rw [← y]; exact z))]; exact e
    · refine fin u2 L2 es2 ep2 t2 (Moved.trans W.gtrans ((mv.mono up).then_heap (Nat.le_add_right _ _) fun b o z e => ?_) mv2) S3 got2 k3
      rw [sb.2 b (fun y : b = D => z (by rw [y]; exact List.mem_cons_self))]; exact e

set_option maxHeartbeats 3200000 in
theorem set_of_list {l : Addr} {items : Array Value} (ks : List (Addr × List Int)) {Q : Value → Shared → Prop} (hh : A.handled = none) (src : s.heap.IsList l items) (itm : items.toList = ks.map fun p => Value.ref p.1)
    (kt : ∀ p ∈ ks, IsT P w s.heap p.2 p.1) (few : ∀ L : List (Addr × List Int), (L.map (·.2)).Nodup → (∀ p ∈ L, p ∈ ks) → L.length ≤ 64) (un : A.units + 3 < cLine)
    (fin : ∀ (g : Heap) (tk : Nat) L es ep t, SetW P w g s.heap.objs.size L es ep t → Got ks ks.length L → (∀ b o, s.heap.get? b = some o → g.get? b = some o) → Q (.ref s.heap.objs.size) { s with heap := g, toks := tk }) :
    wpAny (model P w) A (call (.type "set") [.ref l]) Q E s := by
  have sz : items.size = ks.length := by rw [← Array.length_toList, itm, List.length_map]
  obtain ⟨cm, tm, mro⟩ := F.called_set.mro
  have hmade := F.called_set.made
  have hsub := F.called_set.sub
  refine wpAny_call (codeAny_of_tree ?_)
  show wpAny _ _ (callAny (.type "set") _) _ _ _
  refine wpAny_pure ⟨Code.quiet_builtin _ (by decide +kernel), codeAny_builtin F.entry_type_call ?_⟩
  rw [Around.under_plain (weight_type_call_type "set" [.ref l] []) rfl]
  have a1 := F.called_set.notType
  have a2 := F.called_set.canCreate
  have a3 := F.typeCall_set_1 (.ref l)
  repeat (any_goals (first | assumption | wp_step))
  refine codeAny_mono (code_set_led1 (.ref l) (E := E) (Q₁ := fun obj s₁ => obj = .ref s.heap.objs.size ∧ s₁ = { s with heap := s.heap.push { cls := .type "set", dict := none, data := .set #[] 0 (.fresh 0 0 (!w.params.followText "set-order")) } }) ⟨rfl, rfl⟩) fun r s₁ hr => ?_
  cases r with
  | error e => exact hr
  | ok fl =>
    cases fl with
    | ret obj =>
      obtain ⟨rfl, rfl⟩ := hr
      have gS : (s.heap.push { cls := .type "set", dict := none, data := .set #[] 0 (.fresh 0 0 (!w.params.followText "set-order")) }).get? s.heap.objs.size = some { cls := .type "set", dict := none, data := .set #[] 0 (.fresh 0 0 (!w.params.followText "set-order")) } := Heap.get?_push_size _ rfl
      have gT : Shared.TypeIs { s with heap := s.heap.push { cls := .type "set", dict := none, data := .set #[] 0 (.fresh 0 0 (!w.params.followText "set-order")) } } (.ref s.heap.objs.size) "set" := ⟨_, gS, rfl⟩
      have a4 := F.called_set.init.lookup
      have a5 := F.called_set.init.bind (.ref s.heap.objs.size)
      repeat (any_goals (first | assumption | wp_step))
      refine codeAny_mono (codeAny_call_builtin (R := wants (fun r s₂ => r = .none ∧ ∃ g tk L es ep t, s₂ = { s with heap := g, toks := tk } ∧ SetW P w g s.heap.objs.size L es ep t ∧ Got ks ks.length L ∧ (∀ b o, s.heap.get? b = some o → g.get? b = some o)) E) F.called_set.init.plain F.entry_set_init (check_set_init_1 gT ?_)) fun r₂ s₂ hr₂ => ?_
      · obtain ⟨⟨ocls, odict, odata, oslots⟩, ol, kcl, kn, kdt⟩ := src
        simp only at kcl kdt
        subst kcl; subst kdt
        have ol' : (s.heap.push { cls := .type "set", dict := none, data := .set #[] 0 (.fresh 0 0 (!w.params.followText "set-order")) }).get? l = some { cls := .type "list", dict := odict, data := .seq items kn, slots := oslots } := Heap.get?_push_of_some _ ol
        have b1 := F.sub_list_set
        have b2 := F.sub_list_frozenset
        have b3 : (Value.type "list" == Value.type "dict") = false := by decide
        have src1 : (s.heap.push { cls := .type "set", dict := none, data := .set #[] 0 (.fresh 0 0 (!w.params.followText "set-order")) }).IsList l items := ⟨_, ol', rfl, kn, rfl⟩
        unfold Builtin.«set.__init__» noKeywords Builtin.Frozenset.updateFrom
        generalize pI : pyIter = PI
        wp_walk
        subst pI
        refine wpAny_pyIter_list src1 ?_
        refine wpAny_bind (wpAny_runValue ?_)
        have lS : l < s.heap.objs.size := Heap.lt_size ol
        have h3 : A.in1.in1.in1.handled = none := by simp [hh]
        have sz1 : (s.heap.push { cls := .type "set", dict := none, data := .set #[] 0 (.fresh 0 0 (!w.params.followText "set-order")) }).objs.size = s.heap.objs.size + 1 := Heap.size_push ..
        have neI : l ≠ (s.heap.push { cls := .type "set", dict := none, data := .set #[] 0 (.fresh 0 0 (!w.params.followText "set-order")) }).objs.size := by rw [sz1]; exact Nat.ne_of_lt (Nat.lt_succ_of_lt lS)
        have nS : s.heap.objs.size ∉ [(s.heap.push { cls := .type "set", dict := none, data := .set #[] 0 (.fresh 0 0 (!w.params.followText "set-order")) }).objs.size, l] := by
          rw [sz1]
          simp only [List.mem_cons, List.not_mem_nil, or_false, not_or]
          exact ⟨Nat.ne_of_lt (Nat.lt_succ_self _), Nat.ne_of_gt lS⟩
        have vl : ∀ (i : Nat) (v : Value), items[i]? = some v → ∃ p, ks[i]? = some p ∧ v = .ref p.1 := fun i v hv => by
          have q : items.toList[i]? = some v := by rw [Array.getElem?_toList]; exact hv
          rw [itm, List.getElem?_map] at q
          obtain ⟨p, hp, e⟩ := Option.map_eq_some_iff.mp q
          exact ⟨p, hp, e.symm⟩
        have no : ∀ b, s.heap.objs.size ≤ b → s.heap.get? b = none := fun b hb => by
          cases q : s.heap.get? b with
          | none => rfl
          | some o => exact absurd (Nat.lt_of_lt_of_le (Heap.lt_size q) hb) (Nat.lt_irrefl _)
        refine fold_few ((Walks.list h3 _ l neI items).toS) s.heap.objs.size nS ks sz few vl s.heap kt (no _ (Nat.le_refl _)) (fun b hb => no b (by
            rw [List.mem_singleton.mp hb, sz1]; exact Nat.le_succ _)) un (items.size - 0) 0 _ (by omega) (Nat.zero_le _)
          ⟨⟨_, Heap.get?_push_size _ rfl, rfl, rfl⟩, (src1.push _)⟩ (fun b o e => Heap.get?_push_of_some _ (Heap.get?_push_of_some _ e)) ?c0 ?c1
        case c0 => exact ⟨[], #[], 0, _, SetW.of (setTR_fresh ((Heap.get?_push_of_some _ gS).trans rfl)), Got.zero ks⟩
        case c1 =>
          intro u L es ep t mv S' got' kp
          obtain ⟨g, g2, d', tk', os'⟩ := u
          obtain rfl : g2 = s.gens := mv.gens
          obtain rfl : d' = s.drawn := mv.drawn
          obtain rfl : os' = s.os := mv.os
          show wpAny _ _ _ _ _ _
          refine wpAny_pure ?_
          show wpAny _ _ (ret Value.none) _ _ _
          rw [sz] at got'
          exact wpAny_pure ⟨rfl, g, tk', L, es, ep, t, rfl, S', got', kp⟩
      · cases r₂ with
        | error e => exact hr₂
        | ok fl₂ =>
          cases fl₂ with
          | ret r =>
            obtain ⟨rfl, g, tk, L, es, ep, t, rfl, S', got', k'⟩ := hr₂
            repeat (any_goals (first | assumption | wp_step))
            exact fin _ _ _ _ _ _ S' got' k'
          | _ => exact hr₂.elim
    | _ => exact hr.elim

set_option maxHeartbeats 3200000 in
theorem set_of_tuple {l : Addr} {items : Array Value} (ks : List (Addr × List Int)) {Q : Value → Shared → Prop} (hh : A.handled = none) (src : s.heap.IsTuple l items) (itm : items.toList = ks.map fun p => Value.ref p.1)
    (kt : ∀ p ∈ ks, IsT P w s.heap p.2 p.1) (few : ∀ L : List (Addr × List Int), (L.map (·.2)).Nodup → (∀ p ∈ L, p ∈ ks) → L.length ≤ 64) (un : A.units + 3 < cLine)
    (fin : ∀ (g : Heap) (tk : Nat) L es ep t, SetW P w g s.heap.objs.size L es ep t → Got ks ks.length L → (∀ b o, s.heap.get? b = some o → g.get? b = some o) → Q (.ref s.heap.objs.size) { s with heap := g, toks := tk }) :
    wpAny (model P w) A (call (.type "set") [.ref l]) Q E s := by
  have sz : items.size = ks.length := by rw [← Array.length_toList, itm, List.length_map]
  obtain ⟨cm, tm, mro⟩ := F.called_set.mro
  have hmade := F.called_set.made
  have hsub := F.called_set.sub
  refine wpAny_call (codeAny_of_tree ?_)
  show wpAny _ _ (callAny (.type "set") _) _ _ _
  refine wpAny_pure ⟨Code.quiet_builtin _ (by decide +kernel), codeAny_builtin F.entry_type_call ?_⟩
  rw [Around.under_plain (weight_type_call_type "set" [.ref l] []) rfl]
  have a1 := F.called_set.notType
  have a2 := F.called_set.canCreate
  have a3 := F.typeCall_set_1 (.ref l)
  repeat (any_goals (first | assumption | wp_step))
  refine codeAny_mono (code_set_led1 (.ref l) (E := E) (Q₁ := fun obj s₁ => obj = .ref s.heap.objs.size ∧ s₁ = { s with heap := s.heap.push { cls := .type "set", dict := none, data := .set #[] 0 (.fresh 0 0 (!w.params.followText "set-order")) } }) ⟨rfl, rfl⟩) fun r s₁ hr => ?_
  cases r with
  | error e => exact hr
  | ok fl =>
    cases fl with
    | ret obj =>
      obtain ⟨rfl, rfl⟩ := hr
      have gS : (s.heap.push { cls := .type "set", dict := none, data := .set #[] 0 (.fresh 0 0 (!w.params.followText "set-order")) }).get? s.heap.objs.size = some { cls := .type "set", dict := none, data := .set #[] 0 (.fresh 0 0 (!w.params.followText "set-order")) } := Heap.get?_push_size _ rfl
      have gT : Shared.TypeIs { s with heap := s.heap.push { cls := .type "set", dict := none, data := .set #[] 0 (.fresh 0 0 (!w.params.followText "set-order")) } } (.ref s.heap.objs.size) "set" := ⟨_, gS, rfl⟩
      have a4 := F.called_set.init.lookup
      have a5 := F.called_set.init.bind (.ref s.heap.objs.size)
      repeat (any_goals (first | assumption | wp_step))
      refine codeAny_mono (codeAny_call_builtin (R := wants (fun r s₂ => r = .none ∧ ∃ g tk L es ep t, s₂ = { s with heap := g, toks := tk } ∧ SetW P w g s.heap.objs.size L es ep t ∧ Got ks ks.length L ∧ (∀ b o, s.heap.get? b = some o → g.get? b = some o)) E) F.called_set.init.plain F.entry_set_init (check_set_init_1 gT ?_)) fun r₂ s₂ hr₂ => ?_
      · obtain ⟨⟨ocls, odict, odata, oslots⟩, ol, kcl, kn, kdt⟩ := src
        simp only at kcl kdt
        subst kcl; subst kdt
        have ol' : (s.heap.push { cls := .type "set", dict := none, data := .set #[] 0 (.fresh 0 0 (!w.params.followText "set-order")) }).get? l = some { cls := .type "tuple", dict := odict, data := .seq items kn, slots := oslots } := Heap.get?_push_of_some _ ol
        have b1 := F.sub_tuple_set
        have b2 := F.sub_tuple_frozenset
        have b3 : (Value.type "tuple" == Value.type "dict") = false := by decide
        have src1 : (s.heap.push { cls := .type "set", dict := none, data := .set #[] 0 (.fresh 0 0 (!w.params.followText "set-order")) }).IsTuple l items := ⟨_, ol', rfl, kn, rfl⟩
        unfold Builtin.«set.__init__» noKeywords Builtin.Frozenset.updateFrom
        generalize pI : pyIter = PI
        wp_walk
        subst pI
        refine wpAny_pyIter_tuple src1 ?_
        refine wpAny_bind (wpAny_runValue ?_)
        have lS : l < s.heap.objs.size := Heap.lt_size ol
        have h3 : A.in1.in1.in1.handled = none := by simp [hh]
        have sz1 : (s.heap.push { cls := .type "set", dict := none, data := .set #[] 0 (.fresh 0 0 (!w.params.followText "set-order")) }).objs.size = s.heap.objs.size + 1 := Heap.size_push ..
        have neI : l ≠ (s.heap.push { cls := .type "set", dict := none, data := .set #[] 0 (.fresh 0 0 (!w.params.followText "set-order")) }).objs.size := by rw [sz1]; exact Nat.ne_of_lt (Nat.lt_succ_of_lt lS)
        have nS : s.heap.objs.size ∉ [(s.heap.push { cls := .type "set", dict := none, data := .set #[] 0 (.fresh 0 0 (!w.params.followText "set-order")) }).objs.size, l] := by
          rw [sz1]
          simp only [List.mem_cons, List.not_mem_nil, or_false, not_or]
          exact ⟨Nat.ne_of_lt (Nat.lt_succ_self _), Nat.ne_of_gt lS⟩
        have vl : ∀ (i : Nat) (v : Value), items[i]? = some v → ∃ p, ks[i]? = some p ∧ v = .ref p.1 := fun i v hv => by
          have q : items.toList[i]? = some v := by rw [Array.getElem?_toList]; exact hv
          rw [itm, List.getElem?_map] at q
          obtain ⟨p, hp, e⟩ := Option.map_eq_some_iff.mp q
          exact ⟨p, hp, e.symm⟩
        have no : ∀ b, s.heap.objs.size ≤ b → s.heap.get? b = none := fun b hb => by
          cases q : s.heap.get? b with
          | none => rfl
          | some o => exact absurd (Nat.lt_of_lt_of_le (Heap.lt_size q) hb) (Nat.lt_irrefl _)
        refine fold_few ((Walks.tuple h3 _ l neI items).toS) s.heap.objs.size nS ks sz few vl s.heap kt (no _ (Nat.le_refl _)) (fun b hb => no b (by
            rw [List.mem_singleton.mp hb, sz1]; exact Nat.le_succ _)) un (items.size - 0) 0 _ (by omega) (Nat.zero_le _)
          ⟨⟨_, Heap.get?_push_size _ rfl, rfl, rfl⟩, (src1.push _)⟩ (fun b o e => Heap.get?_push_of_some _ (Heap.get?_push_of_some _ e)) ?c0 ?c1
        case c0 => exact ⟨[], #[], 0, _, SetW.of (setTR_fresh ((Heap.get?_push_of_some _ gS).trans rfl)), Got.zero ks⟩
        case c1 =>
          intro u L es ep t mv S' got' kp
          obtain ⟨g, g2, d', tk', os'⟩ := u
          obtain rfl : g2 = s.gens := mv.gens
          obtain rfl : d' = s.drawn := mv.drawn
          obtain rfl : os' = s.os := mv.os
          show wpAny _ _ _ _ _ _
          refine wpAny_pure ?_
          show wpAny _ _ (ret Value.none) _ _ _
          rw [sz] at got'
          exact wpAny_pure ⟨rfl, g, tk', L, es, ep, t, rfl, S', got', kp⟩
      · cases r₂ with
        | error e => exact hr₂
        | ok fl₂ =>
          cases fl₂ with
          | ret r =>
            obtain ⟨rfl, g, tk, L, es, ep, t, rfl, S', got', k'⟩ := hr₂
            repeat (any_goals (first | assumption | wp_step))
            exact fin _ _ _ _ _ _ S' got' k'
          | _ => exact hr₂.elim
    | _ => exact hr.elim
end
end Dn

/-! Den1: values by content, slots, what a run of a text gives, and what stands for it in the heap. -/
namespace Dn
open PySem PySem.Spec L2
open PyProof.Rows hiding St

/-! ### slots -/
/-- a name's content: unset; a thing that never changes again; a list, a dict of its own; the script; a thing of a kind of its own -/
inductive Slot where
  | un | val (d : PyData) | own (ds : List PyData) | odc (t : Bool) (es : List (PyData × PyData)) | scr (ns : List Int) | obj (k : Nat) (ds : List PyData)
abbrev Env := List Slot
def Slot.isOwn : Slot → Bool
  | .own _ => true
  | .odc _ _ => true
  | .obj _ _ => true
  | _ => false

/-! ### outcomes -/
structure Exc where
  cls : Str
  arg : Option PyData
/-- any: whichever number comes; exs: a refusal, told with the slots as they stand -/
inductive Out (α : Type) where
  | ok (a : α) | exc (x : Exc) | stuck | any (g : Nat → Out α) | exs (x : Exc) (ρ : Env)
namespace Out
def bindR {α β : Type} : Out α → (α → Out β) → Out β
  | .ok a, f => f a
  | .exc x, _ => .exc x
  | .stuck, _ => .stuck
  | .any g, f => .any fun n => bindR (g n) f
  | .exs x ρ, _ => .exs x ρ
/-- not by recursion: so it is quickly looked at -/
def bind {α β : Type} (c : Out α) (f : α → Out β) : Out β := match c with
  | .ok a => f a
  | .exc x => .exc x
  | .stuck => .stuck
  | .any g => .any fun n => bindR (g n) f
  | .exs x ρ => .exs x ρ
theorem bindR_eq {α β : Type} (c : Out α) (f : α → Out β) : bindR c f = bind c f := by
  cases c <;> rfl
instance : Monad Out where
  pure := .ok
  bind := Out.bind
def wp {α : Type} (c : Out α) (P : α → Prop) (E : Exc → Prop) : Prop := match c with
  | .ok a => P a
  | .exc x => E x
  | .stuck => False
  | .any _ => False
  | .exs _ _ => False
/-- .. where a number may come, a refusal may be told with the slots -/
def wpx {α : Type} : Out α → (α → Prop) → (Exc → Prop) → (Exc → Env → Prop) → Prop
  | .ok a, P, _, _ => P a
  | .exc x, _, E, _ => E x
  | .stuck, _, _, _ => False
  | .any g, P, E, S => ∀ n, wpx (g n) P E S
  | .exs x ρ, _, _, S => S x ρ
end Out
@[simp] theorem bind_ok {α β : Type} (a : α) (f : α → Out β) : (Out.ok a >>= f) = f a := rfl
@[simp] theorem bind_exc {α β : Type} (x : Exc) (f : α → Out β) : ((Out.exc x : Out α) >>= f) = .exc x := rfl
@[simp] theorem bind_stuck {α β : Type} (f : α → Out β) : ((Out.stuck : Out α) >>= f) = .stuck := rfl
@[simp] theorem pure_ok {α : Type} (a : α) : (pure a : Out α) = .ok a := rfl
theorem wp_bind {α β : Type} {c : Out α} {f : α → Out β} {P : β → Prop} {E : Exc → Prop} (h : (c >>= f).wp P E) : c.wp (fun a => (f a).wp P E) E := by
  cases c with
  | ok a => exact h
  | exc x => exact h
  | stuck => exact h
  | any g => exact h
  | exs x ρ => exact h
theorem wp_mono {α : Type} {c : Out α} {P P' : α → Prop} {E E' : Exc → Prop} (h : c.wp P E) (hP : ∀ a, P a → P' a) (hE : ∀ x, E x → E' x) : c.wp P' E' := by
  cases c with
  | ok a => exact hP a h
  | exc x => exact hE x h
  | stuck => exact h
  | any g => exact h
  | exs x ρ => exact h
theorem wpx_bind {α β : Type} {c : Out α} {f : α → Out β} {P : β → Prop} {E : Exc → Prop} {S : Exc → Env → Prop} (h : (c.bind f).wpx P E S) : c.wpx (fun a => (f a).wpx P E S) E S := by
  rw [← Out.bindR_eq] at h
  induction c with
  | ok a => exact h
  | exc x => exact h
  | stuck => exact h
  | any g ih => exact fun n => ih n (h n)
  | exs x ρ => exact h
theorem wpx_mono {α : Type} {c : Out α} {P P' : α → Prop} {E E' : Exc → Prop} {S S' : Exc → Env → Prop} (h : c.wpx P E S) (hP : ∀ a, P a → P' a) (hE : ∀ x, E x → E' x) (hS : ∀ x ρ, S x ρ → S' x ρ) : c.wpx P' E' S' := by
  induction c with
  | ok a => exact hP a h
  | exc x => exact hE x h
  | stuck => exact h
  | any g ih => exact fun n => ih n (h n)
  | exs x ρ => exact hS x ρ h
/-- nothing of that kind -/
def calm' {α : Type} : Out α → Out α
  | .ok a => .ok a
  | .exc x => .exc x
  | _ => .stuck
def guard' {α : Type} (b : Bool) (c : Out α) : Out α := if b then c else .stuck
theorem wp_guard {α : Type} {b : Bool} {c : Out α} {P : α → Prop} {E : Exc → Prop} (h : (guard' b c).wp P E) : b = true ∧ c.wp P E := by
  unfold guard' at h
  cases b with
  | true => exact ⟨rfl, h⟩
  | false => exact h.elim
@[simp] theorem guard_true {α : Type} (c : Out α) : guard' true c = c := rfl

/-! ### what stands in the heap -/
def Ex (H H' : Hp) : Prop := ∀ a o, H a = some o → H' a = some o
theorem Ex.refl (H : Hp) : Ex H H := fun _ _ h => h
theorem Ex.trans {H H1 H2 : Hp} (a : Ex H H1) (b : Ex H1 H2) : Ex H H2 := fun x o h => b x o (a x o h)
theorem Ex.new {H : Hp} {p : Addr} {o : HO} (h : H p = none) : Ex H (upd H p o) := fun a u e => by
  rw [upd_ne (ne_of_none e h)]
  exact e
theorem Ex.put {H H' : Hp} {p : Addr} {o : HO} (e : Ex H H') (h : H p = none) : Ex H (upd H' p o) := fun a u ha => by
  rw [upd_ne (ne_of_none ha h)]
  exact e a u ha
theorem Ex.free {H H' : Hp} (e : Ex H H') {p : Addr} (h : H' p = none) : H p = none := by
  cases q : H p with
  | none => rfl
  | some o => rw [e p o q] at h; cases h
theorem Ex.rd {H H' : Hp} {a : Addr} {u : HO} (e : Ex H H') (h : Rd H a u) : Rd H' a u := by
  rcases h with h | ⟨o, h⟩
  · exact .inl (e a _ h)
  · exact .inr ⟨o, e a _ h⟩
theorem Ex.sqL {K : PySem.W.Frag} {H H' : Hp} {a : Addr} {xs : List V} (e : Ex H H') (h : SqL K H a xs) : SqL K H' a xs := by
  rcases h with h | h
  · exact .inl (e.rd h)
  · exact .inr h
def keyD : Key → PyData
  | .inl i => .int i
  | .inr s => .str s
mutual
inductive Rp (K : PySem.W.Frag) (H : Hp) : PyData → V → Prop
  | non : Rp K H .none .non
  | bl (b : Bool) : Rp K H (.bool b) (.bl b)
  | int (i : Int) : Rp K H (.int i) (.int i)
  | str (x : Str) : Rp K H (.str x) (.str x)
  | lst {a : Addr} {vs : List V} {ds : List PyData} : H a = some (.lst vs) → RpAll K H ds vs → Rp K H (.list ds) (.ref a)
  | tup {a : Addr} {o : Obj} {vs : List V} {ds : List PyData} : H a = some (.frz o (.tup vs)) → o.dict = none → RpAll K H ds vs → Rp K H (.tuple ds) (.ref a)
  | dK {a : Addr} {kvs : List (Key × V)} {es : List (PyData × PyData)} : H a = some (.dK kvs) → RpK K H es kvs → Rp K H (.dict es) (.ref a)
  | dT {a : Addr} {o : Obj} {kvs : List (Key × V)} {es : List (PyData × PyData)} : H a = some (.frz o (.dK kvs)) → RpK K H es kvs → Rp K H (.dict es) (.ref a)
inductive RpAll (K : PySem.W.Frag) (H : Hp) : List PyData → List V → Prop
  | nil : RpAll K H [] []
  | cons {v : V} {vs : List V} {d : PyData} {ds : List PyData} : Rp K H d v → RpAll K H ds vs → RpAll K H (d :: ds) (v :: vs)
inductive RpK (K : PySem.W.Frag) (H : Hp) : List (PyData × PyData) → List (Key × V) → Prop
  | nil : RpK K H [] []
  | cons {k : Key} {v : V} {vs : List (Key × V)} {d : PyData} {ds : List (PyData × PyData)} : Rp K H d v → RpK K H ds vs → RpK K H ((keyD k, d) :: ds) ((k, v) :: vs)
end
section
variable {K : PySem.W.Frag} {H H' : Hp}
mutual
theorem Rp.mono (e : Ex H H') : ∀ (d : PyData) (v : V), Rp K H d v → Rp K H' d v
  | .none, _, h => by cases h; exact .non
  | .bool b, _, h => by cases h; exact .bl b
  | .int i, _, h => by cases h; exact .int i
  | .str x, _, h => by cases h; exact .str x
  | .list ds, _, h => by
    cases h with
    | lst hs ha => exact .lst (e _ _ hs) (RpAll.mono e ds _ ha)
  | .tuple ds, _, h => by
    cases h with
    | tup hs hd ha => exact .tup (e _ _ hs) hd (RpAll.mono e ds _ ha)
  | .dict es, _, h => by
    cases h with
    | dK hs ha => exact .dK (e _ _ hs) (RpK.mono e es _ ha)
    | dT hs ha => exact .dT (e _ _ hs) (RpK.mono e es _ ha)
theorem RpAll.mono (e : Ex H H') : ∀ (ds : List PyData) (vs : List V), RpAll K H ds vs → RpAll K H' ds vs
  | [], _, h => by cases h; exact .nil
  | d :: ds, _, h => by
    cases h with
    | cons h1 h2 => exact .cons (Rp.mono e d _ h1) (RpAll.mono e ds _ h2)
theorem RpK.mono (e : Ex H H') : ∀ (ds : List (PyData × PyData)) (vs : List (Key × V)), RpK K H ds vs → RpK K H' ds vs
  | [], _, h => by cases h; exact .nil
  | (kd, d) :: ds, _, h => by
    cases h with
    | cons h1 h2 => exact .cons (Rp.mono e d _ h1) (RpK.mono e ds _ h2)
end
end

/-! ### dicts whose keys are tuples of whole numbers and of such tuples, by their own entries -/
mutual
/-- hash of a key without texts -/
def hashN : NestedKey → Int
  | .none => 0
  | .num i => hashInt i
  | .text _ => 0
  | .tup ks => reduceHash (Builtin.Tuple.tupleHashOf (hashNs ks))
def hashNs : List NestedKey → List Int
  | [] => []
  | k :: ks => hashN k :: hashNs ks
end
mutual
/-- whole numbers and tuples alone -/
def numN : NestedKey → Bool
  | .none => false
  | .num _ => true
  | .text _ => false
  | .tup ks => numNs ks
def numNs : List NestedKey → Bool
  | [] => true
  | k :: ks => numN k && numNs ks
end
mutual
theorem hashN_eq (w : World) : ∀ k : NestedKey, numN k = true → NestedKey.hash w k = hashN k
  | .none, h => by simp [numN] at h
  | .num i, _ => by simp [NestedKey.hash, hashN]
  | .text _, h => by simp [numN] at h
  | .tup ks, h => by
    rw [numN] at h
    rw [NestedKey.hash, hashN, hashNs_eq w ks h]
theorem hashNs_eq (w : World) : ∀ ks : List NestedKey, numNs ks = true → NestedKey.hashes w ks = hashNs ks
  | [], _ => by simp [NestedKey.hashes, hashNs]
  | k :: ks, h => by
    rw [numNs, Bool.and_eq_true] at h
    rw [NestedKey.hashes, hashNs, hashN_eq w k h.1, hashNs_eq w ks h.2]
end
def okN (k : NestedKey) : Bool := numN k && decide (k.depth ≤ 8)
/-- the kind of such keys -/
def numKind (P : Program) (w : World) : HeapKind P w NestedKey where
  is := fun h k a => (nestedKind P w).is h k a ∧ okN k = true
  hash := hashN
  draws := fun k => k.draws
  room := fun A => A.units + 8 < cLine
  inj := fun hx hy => (nestedKind P w).inj hx.1 hy.1
  keeps := fun x ho hd hs => ⟨(nestedKind P w).keeps x.1 ho hd hs, x.2⟩
  pyHash := fun {A E s k a Q} hu hk h => (nestedKind P w).pyHash (k := k) hu hk.1 (by
    have : numN k = true := by
      have := hk.2
      unfold okN at this
      rw [Bool.and_eq_true] at this
      exact this.1
    show Q (NestedKey.hash w k) _
    rw [hashN_eq w k this]
    exact h)
  eqBool := fun hu hx hy h => (nestedKind P w).eqBool hu hx.1 hy.1 h
  quiet := fun hk h => (nestedKind P w).quiet hk.1 h
theorem numKind_room {P : Program} {w : World} {A : Around} (hu : A.units + 9 < cLine) : (numKind P w).room A.in1 := by
  show A.in1.units + 8 < cLine
  rw [Around.in1_units]
  omega
def entI (x : NestedKey × Addr × Value) : DictEntry := ⟨hashN x.1, .ref x.2.1, x.2.2⟩
def TabI (a : Addr) (kvs : List (NestedKey × Addr × V)) (h : Heap) : Prop := kvs.length ≤ sizeLine ∧ (a == sysModules) = false ∧ ∃ xs : List (NestedKey × Addr × Value),
  Paired (fun (p : NestedKey × Addr × V) (q : NestedKey × Addr × Value) => p.1 = q.1 ∧ p.2.1 = q.2.1 ∧ RelV p.2.2 q.2.2) kvs xs ∧
  ∃ o es ep, h.get? a = some o ∧ o.ExactDict ∧ o.data = .dict es ep ∧ es.toList = xs.map entI ∧ (xs.map (·.1)).Nodup
def tabO (a : Addr) (kvs : List (NestedKey × Addr × V)) : HO := .ext (TabI a kvs)
/-- such an object stands at its own address -/
theorem tabO_at {P : Program} {w : World} {H : Hp} {h : Heap} {a b : Addr} {kvs : List (NestedKey × Addr × V)} (ok : ObjOk P w H h b (tabO a kvs)) : a = b := by
  obtain ⟨h1, ⟨o, ho⟩, st⟩ := ok
  refine Decidable.byContradiction fun ne => ?_
  have h2 := st h (h.update a fun o => { o with data := .freed }) h1 fun o e => by
    rw [Heap.get?_update_ne h b a _ (Ne.symm ne)]
    exact e
  obtain ⟨_, _, xs, _, o2, es, ep, e2, _, e3, _⟩ := h2
  have fr : (h.update a fun o => { o with data := .freed }).get? a = none := by
    show (match (h.objs.modify a fun o => { o with data := .freed })[a]? with
      | some ⟨_, _, .freed, _⟩ => none
      | o => o) = none
    rw [Array.getElem?_modify]
    cases h.objs[a]? with
    | none => simp
    | some o => simp
  rw [fr] at e2
  cases e2
theorem tabO_ok {P : Program} {w : World} {H : Hp} {h : Heap} {a : Addr} {kvs : List (NestedKey × Addr × V)} (t : TabI a kvs h) : ObjOk P w H h a (tabO a kvs) := by
  have st : ∀ h1 h2 : Heap, TabI a kvs h1 → (∀ o, h1.get? a = some o → h2.get? a = some o) → TabI a kvs h2 := by
    rintro h1 h2 ⟨z, y, xs, r, o, es, ep, e, c⟩ k
    exact ⟨z, y, xs, r, o, es, ep, k o e, c⟩
  refine ⟨t, ?_, st⟩
  obtain ⟨_, _, _, _, o, _, _, e, _⟩ := t
  exact ⟨o, e⟩
theorem tabO_of {P : Program} {w : World} {H : Hp} {h : Heap} {a b : Addr} {kvs : List (NestedKey × Addr × V)} (ok : ObjOk P w H h b (tabO a kvs)) : a = b ∧ TabI b kvs h := by
  have e := tabO_at ok
  subst e
  exact ⟨rfl, ok.1⟩
inductive RpI (K : PySem.W.Frag) (H : Hp) : List (PyData × PyData) → List (NestedKey × Addr × V) → Prop
  | nil : RpI K H [] []
  | cons {k : NestedKey} {b : Addr} {v : V} {vs : List (NestedKey × Addr × V)} {d : PyData} {ds : List (PyData × PyData)} : okN k = true → Rp K H k.data (.ref b) → Rp K H d v → RpI K H ds vs → RpI K H ((k.data, d) :: ds) ((k, b, v) :: vs)
theorem RpI.mono {K : PySem.W.Frag} {H H' : Hp} (e : Ex H H') : ∀ {ds : List (PyData × PyData)} {vs : List (NestedKey × Addr × V)}, RpI K H ds vs → RpI K H' ds vs
  | _, _, .nil => .nil
  | _, _, .cons hk h0 h1 h2 => .cons hk (Rp.mono e _ _ h0) (Rp.mono e _ _ h1) (RpI.mono e h2)

/-! ### things of kinds of their own -/
/-- a desk's class, as the module names it -/
def deskF (v1 v2 v3 : V) : List (Str × V) := [("order", v1), ("kept", v2), ("past", v3)]
/-- 0: a desk (its address, its past's, its order, its rows); 1: a desk's past (its address, what it holds); 2: a list of two desks -/
def ObjIs (K : PySem.W.Frag) (F : Hp) (a : Addr) (o : HO) : Nat → List PyData → Prop
  | 0, [.int c, .int p, d1, d2] => c = (a : Int) ∧ ∃ (C dx b q : Addr) (v1 v2 : V), PySem.W.nsIn K mainGlobals "Desk" = some (some (.ref C)) ∧ o = .ins C dx (deskF v1 v2 (.ref q)) ∧ F dx = some (.own b) ∧ p = (q : Int) ∧ Rp K F d1 v1 ∧ Rp K F d2 v2
  | 1, .int p :: ds => p = (a : Int) ∧ ∃ vs, o = .lst vs ∧ RpAll K F ds vs
  | 2, [.int b, .int c] => ∃ x y : Addr, b = (x : Int) ∧ c = (y : Int) ∧ o = .lst [.ref x, .ref y]
  | _, _ => False
theorem ObjIs.mono {K : PySem.W.Frag} {F F' : Hp} {a : Addr} {o : HO} {k : Nat} {ds : List PyData} (e : Ex F F') (h : ObjIs K F a o k ds) : ObjIs K F' a o k ds := by
  unfold ObjIs at h ⊢
  split at h
  · obtain ⟨h0, C, dx, b, q, v1, v2, h1, h2, h3, h4, h5, h6⟩ := h
    exact ⟨h0, C, dx, b, q, v1, v2, h1, h2, e _ _ h3, h4, h5.mono e, h6.mono e⟩
  · obtain ⟨h0, vs, h1, h2⟩ := h
    exact ⟨h0, vs, h1, h2.mono e⟩
  · exact h
  · exact h.elim

/-! ### a slot's content in the heap -/
/-- an own object's content -/
def OwnIs (K : PySem.W.Frag) (F : Hp) (a : Addr) (o : HO) : Slot → Prop
  | .own ds => ∃ vs, o = .lst vs ∧ RpAll K F ds vs
  | .odc false es => ∃ kvs, o = .dK kvs ∧ RpK K F es kvs
  | .odc true es => ∃ a kvs, o = tabO a kvs ∧ RpI K F es kvs
  | .obj k ds => ObjIs K F a o k ds
  | _ => False
theorem OwnIs.mono {K : PySem.W.Frag} {F F' : Hp} {a : Addr} {o : HO} {s : Slot} (e : Ex F F') (h : OwnIs K F a o s) : OwnIs K F' a o s := by
  cases s with
  | own ds => obtain ⟨vs, r, q⟩ := h; exact ⟨vs, r, q.mono e⟩
  | odc t es =>
    cases t with
    | false => obtain ⟨vs, r, q⟩ := h; exact ⟨vs, r, q.mono e⟩
    | true => obtain ⟨a, vs, r, q⟩ := h; exact ⟨a, vs, r, q.mono e⟩
  | obj k ds => exact ObjIs.mono e h
  | un => exact h
  | val d => exact h
  | scr ns => exact h
/-- frozen -/
def Slot.ice : Slot → Slot
  | .own ds => .val (.list ds)
  | .odc false es => .val (.dict es)
  | s => s
/-- it may be frozen -/
def Slot.soft : Slot → Bool
  | .odc true _ => false
  | .obj _ _ => false
  | _ => true
theorem OwnIs.ice {K : PySem.W.Frag} {F : Hp} {o : HO} {s : Slot} {a : Addr} (hF : F a = some o) (h : OwnIs K F a o s) (hs : s.soft = true) : ∃ d, s.ice = .val d ∧ Rp K F d (.ref a) := by
  cases s with
  | own ds => obtain ⟨vs, rfl, q⟩ := h; exact ⟨_, rfl, .lst hF q⟩
  | odc t es =>
    cases t with
    | false => obtain ⟨vs, rfl, q⟩ := h; exact ⟨_, rfl, .dK hF q⟩
    | true => cases hs
  | obj k ds => cases hs
  | un => exact h.elim
  | val d => exact h.elim
  | scr ns => exact h.elim

/-! ### the frame: what a run keeps -/
/-- K the written part; F0, H0: the frozen and the whole heap at the frame's entry; L i a: the object at a is lent to it by its slot i; vs: the first slots' values, which stay -/
structure Bd where
  K : PySem.W.Frag
  F0 : Hp
  H0 : Hp
  L : Nat → Addr → Prop
  vs : List V
def Bd.La (B : Bd) (a : Addr) : Prop := ∃ i, B.L i a
/-- the frame's promises to its caller -/
structure Kept (B : Bd) (F H : Hp) : Prop where
  ff : Ex B.F0 F
  ex : Ex F H
  keep : ∀ a o, B.H0 a = some o → ¬ B.La a → H a = some o
  nof : ∀ a, B.H0 a ≠ none → B.F0 a = none → ¬ B.La a → F a = none
  live : ∀ a, B.H0 a ≠ none → H a ≠ none
/-- the slots -/
structure Sl (B : Bd) (F H : Hp) (ρ : Env) (σ : St) : Prop where
  len : ρ.length = σ.length
  val : ∀ (i : Nat) (d : PyData), ρ[i]? = some (Slot.val d) → ∃ v, σ[i]? = some (some v) ∧ Rp B.K F d v
  scr : ∀ (i : Nat) (ns : List Int), ρ[i]? = some (Slot.scr ns) → ∃ a, σ[i]? = some (some (.ref a)) ∧ SqL B.K F a (ns.map V.int)
  own : ∀ (i : Nat) (s : Slot), ρ[i]? = some s → s.isOwn = true → ∃ a o, σ[i]? = some (some (.ref a)) ∧ F a = none ∧ H a = some o ∧ OwnIs B.K F a o s ∧ (B.L i a ∨ B.H0 a = none)
  par : ∀ (i : Nat) (v : V), B.vs[i]? = some v → σ[i]? = some (some v)
  dis : ∀ (i j : Nat) (s t : Slot) (a : Addr), i ≠ j → ρ[i]? = some s → s.isOwn = true → ρ[j]? = some t → t.isOwn = true → σ[i]? = some (some (.ref a)) → σ[j]? ≠ some (some (.ref a))
structure Rel (B : Bd) (F H : Hp) (ρ : Env) (σ : St) : Prop where
  kept : Kept B F H
  sl : Sl B F H ρ σ
/-- a result: v stands for s; an own one stands apart from the slots -/
def Res (B : Bd) (F H : Hp) (ρ : Env) (σ : St) (s : Slot) (v : V) : Prop := match s with
  | .val d => Rp B.K F d v
  | .un => False
  | .scr _ => False
  | s => ∃ a o, v = .ref a ∧ F a = none ∧ H a = some o ∧ OwnIs B.K F a o s ∧ B.H0 a = none ∧ ∀ (i : Nat) (t : Slot), ρ[i]? = some t → t.isOwn = true → σ[i]? ≠ some (some (.ref a))

section
variable {B : Bd} {F H F' H' : Hp} {ρ ρ' : Env} {σ σ' : St} {s : Slot} {v : V} {a : Addr} {o : HO}
theorem own_of_ownIs {K : PySem.W.Frag} (h : OwnIs K F a o s) : s.isOwn = true := by
  cases s <;> first | rfl | exact h.elim
theorem Res.of_own (hs : s.isOwn = true) : Res B F H ρ σ s v ↔ ∃ a o, v = .ref a ∧ F a = none ∧ H a = some o ∧ OwnIs B.K F a o s ∧ B.H0 a = none ∧ ∀ (i : Nat) (t : Slot), ρ[i]? = some t → t.isOwn = true → σ[i]? ≠ some (some (.ref a)) := by
  cases s <;> first | exact Iff.rfl | cases hs

/-- new objects in the heap, nothing else -/
theorem Kept.grow (k : Kept B F H) (e : Ex H H') : Kept B F H' := ⟨k.ff, k.ex.trans e, fun a o h n => e _ _ (k.keep a o h n), k.nof, fun a h => by
  have := k.live a h
  cases q : H a with
  | none => exact absurd q this
  | some o => rw [e a o q]; exact fun z => by cases z⟩
theorem Sl.grow (k : Sl B F H ρ σ) (e : Ex H H') : Sl B F H' ρ σ := ⟨k.len, k.val, k.scr, fun i s h hs => let ⟨a, o, h1, h2, h3, h4, h5⟩ := k.own i s h hs; ⟨a, o, h1, h2, e _ _ h3, h4, h5⟩, k.par, k.dis⟩
theorem Rel.grow (k : Rel B F H ρ σ) (e : Ex H H') : Rel B F H' ρ σ := ⟨k.kept.grow e, k.sl.grow e⟩
theorem Res.grow (h : Res B F H ρ σ s v) (e : Ex H H') : Res B F H' ρ σ s v := by
  cases s with
  | val d => exact h
  | un => exact h
  | scr _ => exact h
  | own ds => obtain ⟨a, o, h1, h2, h3, h4⟩ := h; exact ⟨a, o, h1, h2, e _ _ h3, h4⟩
  | odc t es => obtain ⟨a, o, h1, h2, h3, h4⟩ := h; exact ⟨a, o, h1, h2, e _ _ h3, h4⟩
  | obj k ds => obtain ⟨a, o, h1, h2, h3, h4⟩ := h; exact ⟨a, o, h1, h2, e _ _ h3, h4⟩
/-- an object that is none of the caller's is frozen -/
theorem Kept.freeze (k : Kept B F H) (hF : F a = none) (hH : H a = some o) (hn : B.La a ∨ B.H0 a = none) : Kept B (upd F a o) H := by
  refine ⟨k.ff.trans (.new hF), fun b u h => ?_, k.keep, fun b h1 h2 h3 => ?_, k.live⟩
  · by_cases e : b = a
    · subst e; rw [upd_same] at h; rw [← h]; exact hH
    · rw [upd_ne e] at h; exact k.ex _ _ h
  · by_cases e : b = a
    · subst e
      rcases hn with z | z
      · exact absurd z h3
      · exact absurd z h1
    · rw [upd_ne e]; exact k.nof b h1 h2 h3
/-- .. where no slot owns it -/
theorem Sl.freeze (k : Sl B F H ρ σ) (hF : F a = none) (hd : ∀ (i : Nat) (t : Slot), ρ[i]? = some t → t.isOwn = true → σ[i]? ≠ some (some (.ref a))) : Sl B (upd F a o) H ρ σ := by
  have e : Ex F (upd F a o) := .new hF
  refine ⟨k.len, fun i d h => ?_, fun i ns h => ?_, fun i s h hs => ?_, k.par, k.dis⟩
  · obtain ⟨v, h1, h2⟩ := k.val i d h; exact ⟨v, h1, h2.mono e⟩
  · obtain ⟨v, h1, h2⟩ := k.scr i ns h; exact ⟨v, h1, e.sqL h2⟩
  · obtain ⟨b, u, h1, h2, h3, h4, h5⟩ := k.own i s h hs
    have ne : b ≠ a := fun z => by subst z; exact hd i s h hs h1
    exact ⟨b, u, h1, by rw [upd_ne ne]; exact h2, h3, h4.mono e, h5⟩
/-- a result frozen -/
theorem Res.freeze (k : Rel B F H ρ σ) (h : Res B F H ρ σ s v) (sf : s.soft = true) : ∃ F' d, Rel B F' H ρ σ ∧ Ex F F' ∧ s.ice = .val d ∧ Rp B.K F' d v := by
  cases hs : s.isOwn with
  | true =>
    obtain ⟨a, o, rfl, hF, hH, hO, h0, hd⟩ := (Res.of_own hs).mp h
    have e : Ex F (upd F a o) := .new hF
    obtain ⟨d, e1, e2⟩ := (hO.mono e).ice (upd_same (H := F) (a := a) (o := o)) sf
    exact ⟨upd F a o, d, ⟨k.kept.freeze hF hH (.inr h0), k.sl.freeze hF hd⟩, e, e1, e2⟩
  | false =>
    cases s with
    | val d => exact ⟨F, d, k, .refl F, rfl, h⟩
    | un => exact h.elim
    | scr _ => exact h.elim
    | own _ => cases hs
    | odc _ _ => cases hs
    | obj _ _ => cases hs
theorem set_get {α : Type} {l : List α} {i j : Nat} {x y : α} (h : (l.set i x)[j]? = some y) : (j = i ∧ y = x ∧ i < l.length) ∨ (j ≠ i ∧ l[j]? = some y) := by
  by_cases e : j = i
  · subst e
    by_cases hl : j < l.length
    · rw [List.getElem?_set_self hl] at h; exact .inl ⟨rfl, (Option.some.inj h).symm, hl⟩
    · rw [List.getElem?_eq_none (by rw [List.length_set]; omega)] at h; cases h
  · rw [List.getElem?_set_ne (Ne.symm e)] at h; exact .inr ⟨e, h⟩
/-- a slot that owns is frozen where it stands -/
theorem Rel.iceAt (k : Rel B F H ρ σ) {i : Nat} (h : ρ[i]? = some s) (hs : s.isOwn = true) (sf : s.soft = true) : ∃ F' d v, Rel B F' H (ρ.set i s.ice) σ ∧ Ex F F' ∧ s.ice = .val d ∧ σ[i]? = some (some v) ∧ Rp B.K F' d v := by
  obtain ⟨a, o, h1, h2, h3, h4, h5⟩ := k.sl.own i s h hs
  have e : Ex F (upd F a o) := .new h2
  obtain ⟨d, e1, e2⟩ := (h4.mono e).ice (upd_same (H := F) (a := a) (o := o)) sf
  have dis : ∀ (j : Nat) (t : Slot), (ρ.set i s.ice)[j]? = some t → t.isOwn = true → ρ[j]? = some t ∧ j ≠ i := fun j t q qs => by
    rcases set_get q with ⟨_, z, _⟩ | ⟨z1, z2⟩
    · rw [z, e1] at qs; cases qs
    · exact ⟨z2, z1⟩
  refine ⟨upd F a o, d, .ref a, ⟨k.kept.freeze h2 h3 (h5.imp (fun z => ⟨i, z⟩) id), ?_⟩, e, e1, h1, e2⟩
  refine ⟨by rw [List.length_set]; exact k.sl.len, fun j d' q => ?_, fun j ns q => ?_, fun j t q qs => ?_, k.sl.par, fun j m t u b ne q qs q' qs' e3 => ?_⟩
  · rcases set_get q with ⟨z, z2, _⟩ | ⟨z, z2⟩
    · rw [e1] at z2
      cases z2
      rw [z]
      exact ⟨_, h1, e2⟩
    · obtain ⟨v, q1, q2⟩ := k.sl.val j d' z2
      exact ⟨v, q1, q2.mono e⟩
  · rcases set_get q with ⟨z, z2, _⟩ | ⟨z, z2⟩
    · rw [e1] at z2; cases z2
    · obtain ⟨v, q1, q2⟩ := k.sl.scr j ns z2
      exact ⟨v, q1, e.sqL q2⟩
  · obtain ⟨q', ne⟩ := dis j t q qs
    obtain ⟨b, u, g1, g2, g3, g4, g5⟩ := k.sl.own j t q' qs
    have nb : b ≠ a := fun z => by subst z; exact k.sl.dis j i t s b ne q' qs h hs g1 h1
    exact ⟨b, u, g1, by rw [upd_ne nb]; exact g2, g3, g4.mono e, g5⟩
  · obtain ⟨g, _⟩ := dis j t q qs
    obtain ⟨g', _⟩ := dis m u q' qs'
    exact k.sl.dis j m t u b ne g qs g' qs' e3
end
end Dn

/-! DenG: defs called where no repr is under way: their promise, from their bodies, at a call, at the law's own call. -/
namespace Dn
open PySem PySem.Spec L2
open PyProof.Rows hiding St
/-- a def's promise to callers that stand in no repr -/
structure FnG (P : Program) (w : World) (K : PySem.W.Frag) (mg : Str → Option Value) (base : Heap) (C : CXT) (k : Nat) (f : Addr) (fd : FuncData) (ps : List Str) (sp : Sp) : Prop where
  len : ∀ us H Q E, sp us H Q E → us.length = ps.length
  run : ∀ (A : Around), A.guards = some [] → ∀ (outer : List PySem.Env) (s : Shared) (H : Hp) (args : Args) (us : List Value) (vs : List V) (Q : VK) (E : XK),
    Room k A → Env0 P w K mg base A outer s H → BindsTo s fd args (ps.zip us) → Vals vs us → sp vs H Q E → codeAny (model P w) A (.call (.ref f) args) (CR C outer P w H s Q E) s
section
variable {P : Program} {w : World} {K : PySem.W.Frag} {mg : Str → Option Value} {base : Heap} {C : CXT} {k : Nat} {f : Addr} {fd : FuncData} {ps N : List Str} {sp sp' : Sp}
theorem FnG.imp (F : FnG P w K mg base C k f fd ps sp) (h : ∀ us H Q E, sp' us H Q E → sp us H Q E) : FnG P w K mg base C k f fd ps sp' :=
  ⟨fun us H Q E q => F.len us H Q E (h _ _ _ _ q), fun A g outer s H args us vs Q E r e b v q => F.run A g outer s H args us vs Q E r e b v (h _ _ _ _ q)⟩
/-- from the body -/
theorem FnG.of_body {x qual : Str} {st : Stmt} (F : Fun K x qual st f fd) (S : FnScope N ps (defScope st)) (len : ∀ us H Q E, sp us H Q E → us.length = ps.length)
    (body : ∀ (cv : Value) (A : Around) (outer : List PySem.Env) (s : Shared) (H : Hp) (us : List V) (Q : VK) (E : XK), A.guards = some [] → Room k (A.deeper (envOfC qual (defScope st) s.heap.objs.size f cv)) → sp us H Q E →
      ∃ t, PSs (cxOf C P w K mg base N qual (defScope st) f cv A outer s H E) (defBody st) t ∧ t { nx := fun _ H' => Q .non H', rt := Q } (start N us) H) : FnG P w K mg base C (k + 1) f fd ps sp := by
  obtain ⟨oc, od, kV, doc, pm, an, cv, ct, osl, rfl, lk, code⟩ := F.ex
  refine ⟨len, fun A g outer s H args us vs Q E room e0 bind rel sat => ?_⟩
  have old := fun b o e => (e0.bs b o e).1
  have inK := e0.mod.kin.keeps old
  have far := e0.mod.nolimit.keeps old
  have kinds : ∀ y ∈ ps.zip us, (defScope st).names.lookup y.1 = some .local ∨ ((defScope st).names.lookup y.1 = some .cell ∧ ((cellsFrom (s.heap.objs.size + 1) (defScope st).names []).lookup y.1).isSome = true) := by
    intro y hy
    have my := (List.of_mem_zip (show (y.1, y.2) ∈ ps.zip us from hy)).1
    exact (S.par y.1 my).imp id fun q => ⟨q, PySem.W.cellsFrom_some _ _ _ (.inl q)⟩
  refine codeAny_call_function room.depth (inK _ _ lk) rfl S.co S.gen rfl (PySem.W.codeRec_of inK code) (bind _ _ _ _ (wpAny_newFunctionEnv_cells S.kind kinds fun env he s1 enter => ?_))
  subst he
  obtain ⟨t, ht, hq⟩ := body cv A outer s H vs Q E g (room.deeper _) sat
  have J : Inv (cxOf C P w K mg base N qual (defScope st) f cv A outer s H E) [] (start N vs) H s1 := inv_start S room.hd e0 (len _ _ _ _ sat) rel enter
  refine ⟨far.keeps enter.toInCall.keep, codeAny_func (wpAny_mono (ht.run [] s1 (start N vs) H _ J hq) (fun fl s' hs => ?_) fun _ _ hs => hs)⟩
  cases fl with
  | brk => exact hs.elim fun _ z => z.elim fun _ z => z.2.elim
  | cont => exact hs.elim fun _ z => z.elim fun _ z => z.2.elim
  | next =>
    obtain ⟨σ', H', I, q⟩ := hs
    exact ⟨.non, H', I.os, I.bare, I.base, I.hok, rfl, q⟩
  | ret u =>
    obtain ⟨v, σ', H', I, rv, q⟩ := hs
    exact ⟨v, H', I.os, I.bare, I.base, I.hok, rv, q⟩
end
/-- the call of a def by its name -/
theorem pe_callG {X : Cx} {k : Nat} {f : Addr} {fd : FuncData} {ps : List Str} {sp : Sp} {E : St → XK} {x : Str} {p pos : Pos} {e : Expr} {es : List Expr} {t : TA} {C : CXT} (F : FnG X.prog X.w X.K X.mg X.base C k f fd ps sp) (g : X.A.guards = some []) (room : Room k X.A)
    (hg : Gl X x) (hm : X.mg x = some (.ref f)) (hk : PySem.W.keepIn X.K (.ref f) = true) (hb : L2.Binds X.K fd ps []) (hx : ∀ σ, PassesAt C X σ (E σ)) (ha : PA X (e :: es) t) (hd : (x == ("__debug__" : Str)) = false)
    (hs : starEach (e :: es) X.env = (false, eval e X.env) :: starEach es X.env) (hp : (backTo pos (starEach es X.env)).any (·.1) = false) : PE X (.Call (.Name x p) (e :: es) [] pos) (tCallS sp E t) := by
  constructor
  intro pins s σ H Q I h
  refine wpAny_Call_Name_kw (ld_glob I hg hm (PySem.W.callWith_K (h₀ := X.base) I.ok.mod.kin hk (thn (ha.run pos pins s σ H _ I h) fun us s1 z => ?_) hs hp) hd)
  obtain ⟨vs, H1, I1, rel, q⟩ := z
  have b := hb s1 us I1.kIn (by rw [List.append_nil, ← rel.length]; exact F.len _ _ _ _ q)
  rw [List.append_nil] at b
  refine ⟨I1.kIn, wpAny_call (codeAny_mono (F.run X.A g X.stack s1 H1 ⟨us, []⟩ us vs Q (E σ) room I1.env0 b rel q) fun r s' hq => ?_)⟩
  match r, hq with
  | .error err, hq => exact hx σ pins H1 s1 err s' I1 hq
  | .ok (.ret u), hq => exact I1.after hq
  | .ok .next, hq => exact hq.elim
  | .ok .brk, hq => exact hq.elim
  | .ok .cont, hq => exact hq.elim
/-- the law's own call: before it nothing but the script is known -/
theorem lawG {P : Program} {w : World} {K : PySem.W.Frag} {mg mb : Str → Option Value} {C : CXT} {k : Nat} {fa a : Addr} {fd : FuncData} {x : Str} {sp : Sp} {s : Shared} {vs : List Value} {ns : List Int}
    (inK : K.In s.heap) (gns : s.heap.Ns mainGlobals mg) (bns : s.heap.Ns builtinsNs mb) (boot : ∀ y : Str, y ≠ "__name__" → mb y = bootBuiltins y) (nl : s.heap.NoLimit) (gens : s.gens = #[])
    (obj : s.heap.get? a = some { cls := .type "list", data := .seq vs.toArray }) (iv : IntsAre vs ns) (short : ns.length ≤ sizeLine) (room : Room k callerA)
    (F : ∀ base : Heap, K.In base → base.Ns mainGlobals mg → FnG P w K mg base C k fa fd [x] sp) (bind : ∀ (s : Shared) (u : Value), BindsTo s fd ⟨[u], []⟩ [(x, u)])
    (good : ∀ H : Hp, Only H → SqL K H a (ns.map V.int) → sp [.ref a] H (fun v _ => v = .bl true) fun _ _ _ => False)
    (none' : ∀ H e s', C [] H s (fun _ _ _ => False) e s' → False) :
    codeAny (model P w) callerA (.call (.ref fa) ⟨[.ref a], []⟩) (fun r s' => r = .ok (.ret (.bool true)) ∧ OldK s.heap s'.heap ∧ s'.os = s.os ∧ AllBare s'.gens) s := by
  have vi := vals_ints iv
  have from_ : ∀ H : Hp, (∀ b, H b = none ∨ (b = a ∧ ∃ o xs, H b = some (.frz o (.lst xs)))) → SqL K H a (ns.map V.int) → HOk P w H s.heap → (H a ≠ none → K.lookup a = none) →
      codeAny (model P w) callerA (.call (.ref fa) ⟨[.ref a], []⟩) (fun r s' => r = .ok (.ret (.bool true)) ∧ OldK s.heap s'.heap ∧ s'.os = s.os ∧ AllBare s'.gens) s := by
    intro H only sq ok out
    have only' : Only H := fun b => (only b).imp id fun q => q.2
    have no : ∀ {b : Addr}, b ≠ a → H b = none := fun {b} ne => (only b).elim id fun q => absurd q.1 ne
    have dict : ∀ {b : Addr} {o : Obj} {es : Array DictEntry} {ep : Nat}, s.heap.get? b = some o → o.data = .dict es ep → H b = none := by
      intro b o es ep e d
      refine no fun z => ?_
      rw [z, obj] at e
      cases e
      cases (show Data.seq vs.toArray _ = Data.dict es ep from d)
    have nsB : ∀ {b : Addr} {m : Str → Option Value}, s.heap.Ns b m → (hidT s.heap H).Ns b m := by
      rintro b m ⟨o, es, ep, e, d, r⟩
      exact ⟨o, es, ep, hidT_get e (dict e d), d, r⟩
    have kB : K.In (hidT s.heap H) := by
      intro b o e
      refine hidT_get (inK b o e) ?_
      rcases only b with z | ⟨rfl, _, _, z⟩
      · exact z
      · rw [out (by rw [z]; exact fun y => nomatch y)] at e
        cases e
    have mod : Mod K mg (hidT s.heap H) := by
      obtain ⟨mc, n1, n2⟩ := nl
      exact ⟨kB, nsB gns, ⟨mb, nsB bns, boot⟩, mc, nsB n1, n2⟩
    have e0 : Env0 P w K mg (hidT s.heap H) callerA [] s H := ⟨rfl, mod, fun b o => of_hidT, Nat.le_of_eq (hidT_size _ _), trivial, fun b z => absurd (show b ∈ ([] : List Addr) from z) List.not_mem_nil, ok, .of_eq gens⟩
    refine codeAny_mono ((F _ kB (nsB gns)).run callerA rfl [] s H ⟨[.ref a], []⟩ [.ref a] [.ref a] _ _ room e0 (bind s (.ref a)) (.cons rfl .nil) (good H only' sq)) fun r s' h => ?_
    match r, h with
    | .error e, h => exact (none' H e s' h).elim
    | .ok .next, h => exact h.elim
    | .ok .brk, h => exact h.elim
    | .ok .cont, h => exact h.elim
    | .ok (.ret u), ⟨v, H', os, bare, un, ok', rv, q⟩ =>
      have q : v = .bl true := q
      subst q
      have e : u = Value.bool true := rv
      subst e
      refine ⟨rfl, OldK.of_keep fun b o e => ?_, os, bare⟩
      rcases only b with z | ⟨_, ob, xs, z⟩
      · exact un.keep b o e z (fun y => absurd (show b ∈ ([] : List Addr) from y) List.not_mem_nil) List.not_mem_nil
      · have h1 := (ok b _ z).1
        have h2 := (ok' b _ (un.frzs b ob _ z)).1
        rw [e] at h1
        cases h1
        exact h2
  have size : vs.toArray.size ≤ sizeLine := by rw [List.size_toArray, iv.length]; exact short
  by_cases lk : K.lookup a = none
  · let ob : Obj := { cls := .type "list", data := .seq vs.toArray }
    let H : Hp := fun b => if b = a then some (.frz ob (.lst (ns.map V.int))) else none
    have at_ : H a = some (.frz ob (.lst (ns.map V.int))) := if_pos rfl
    refine from_ H (fun b => ?_) (.inl (.inr ⟨ob, at_⟩)) (fun b u z => ?_) fun _ => lk
    · by_cases e : b = a
      · exact .inr ⟨e, ob, _, if_pos e⟩
      · exact .inl (if_neg e)
    · have e : b = a := Decidable.byContradiction fun e => by
        have := (if_neg e : H b = none).symm.trans z
        cases this
      subst e
      have := at_.symm.trans z
      cases this
      exact ⟨obj, by rw [List.length_map]; exact short, vs, _, vi, obj⟩
  · obtain ⟨o, lk⟩ := Option.ne_none_iff_exists'.mp lk
    have e := inK a o lk
    rw [obj] at e
    cases e
    exact from_ (fun _ => none) (fun _ => .inl rfl) (.inr ⟨_, vs.toArray, _, lk, rfl, rfl, rfl, size, by simpa using vi⟩) (fun b u z => by cases (show (none : Option HO) = some u from z)) fun z => absurd rfl z
/-- what the head leaves, from the law's promise -/
theorem walkG {l : PySem.W.OpenLaw} {n k : Nat} {q : Program} {loose : List Str} {XP : (Str → Option Value) → Heap → Prop} {YP : World → Heap → Prop} {d : DefRec} {K : Params → PySem.W.Frag} {C : World → CXT} {sp : World → Sp} {x : Str}
    (most : l.most = some n) (n2 : n ≤ sizeLine) (nodef : d.params.defaults = []) (room : Room k callerA) (inY : ∀ (w : World) (h : Heap), YP w h → (K w.params).In h)
    (F : ∀ (w : World) (mg : Str → Option Value) (fa : Addr) (h : Heap), (K w.params).In h → h.Ns mainGlobals mg → mg d.name = some (.ref fa) →
      ∃ fd : FuncData, (∀ (s : Shared) (u : Value), BindsTo s fd ⟨[u], []⟩ [(x, u)]) ∧ ∀ base : Heap, (K w.params).In base → base.Ns mainGlobals mg → FnG l.prog w (K w.params) mg base (C w) k fa fd [x] (sp w))
    (good : ∀ (w : World) (H : Hp) (a : Addr) (ns : List Int), ns.length ≤ n → Only H → SqL (K w.params) H a (ns.map V.int) → sp w [.ref a] H (fun v _ => v = .bl true) fun _ _ _ => False)
    (none' : ∀ (w : World) (H : Hp) (s : Shared) (e : Value) (s' : Shared), C w [] H s (fun _ _ _ => False) e s' → False) :
    PySem.W.WalkO q loose XP YP l.row.toRowW d [] (fun f vs => PySem.call f vs) := by
  refine Att.attach_call most nodef fun w s₀ s₁ mg mb fa o pm cd doc a vs ns G Y ho hd hcd hmg obj iv len gens => ?_
  have inK := inY w _ Y
  obtain ⟨fd, bind, ok⟩ := F w mg fa _ inK G.T.g hmg
  exact lawG inK G.T.g G.T.b G.T.builtins G.T.nolimit gens obj iv (Nat.le_trans len n2) room ok bind (fun H h1 h2 => good w H a ns len h1 h2) fun H e s' => none' w H s₁ e s'
end Dn

/-! Den2: the judgements; names, constants, displays, operations on values, tests, calls. -/
namespace Dn
open PySem PySem.Spec L2
open PyProof.Rows hiding St

/-! ### growth by new things -/
structure Grow (F H F' H' : Hp) : Prop where
  ff : Ex F F'
  hh : Ex H H'
  fh : Ex F' H'
  ap : ∀ a, H a ≠ none → F a = none → F' a = none
theorem Grow.refl {F H : Hp} (e : Ex F H) : Grow F H F H := ⟨.refl F, .refl H, e, fun _ _ h => h⟩
theorem Grow.new {F H : Hp} {p : Addr} {o : HO} (e : Ex F H) (h : H p = none) : Grow F H (upd F p o) (upd H p o) := by
  refine ⟨.new (e.free h), .new h, fun a u q => ?_, fun a h1 h2 => ?_⟩
  · by_cases z : a = p
    · subst z; rw [upd_same] at q ⊢; exact q
    · rw [upd_ne z] at q ⊢; exact e _ _ q
  · by_cases z : a = p
    · subst z; exact absurd h h1
    · rw [upd_ne z]; exact h2
theorem Grow.trans {F H F1 H1 F2 H2 : Hp} (a : Grow F H F1 H1) (b : Grow F1 H1 F2 H2) : Grow F H F2 H2 :=
  ⟨a.ff.trans b.ff, a.hh.trans b.hh, b.fh, fun x h1 h2 => b.ap x (fun z => by
    cases q : H x with
    | none => exact h1 q
    | some o => rw [a.hh x o q] at z; cases z) (a.ap x h1 h2)⟩
section
variable {B : Bd} {F H F' H' : Hp} {ρ : Env} {σ : St}
theorem some_of_ne {o : Option HO} (h : o ≠ none) : ∃ u, o = some u := by
  cases o with
  | none => exact absurd rfl h
  | some u => exact ⟨u, rfl⟩
theorem Ex.live {H H' : Hp} (e : Ex H H') {a : Addr} (h : H a ≠ none) : H' a ≠ none := by
  obtain ⟨o, q⟩ := some_of_ne h
  rw [e a o q]
  exact fun z => by cases z
theorem Rel.add (k : Rel B F H ρ σ) (g : Grow F H F' H') : Rel B F' H' ρ σ := by
  refine ⟨⟨k.kept.ff.trans g.ff, g.fh, fun a o h n => g.hh _ _ (k.kept.keep a o h n), fun a h1 h2 h3 => g.ap a (k.kept.live a h1) (k.kept.nof a h1 h2 h3), fun a h => g.hh.live (k.kept.live a h)⟩,
    ⟨k.sl.len, fun i d h => ?_, fun i ns h => ?_, fun i s h hs => ?_, k.sl.par, k.sl.dis⟩⟩
  · obtain ⟨v, h1, h2⟩ := k.sl.val i d h; exact ⟨v, h1, h2.mono g.ff⟩
  · obtain ⟨v, h1, h2⟩ := k.sl.scr i ns h; exact ⟨v, h1, g.ff.sqL h2⟩
  · obtain ⟨a, o, h1, h2, h3, h4, h5⟩ := k.sl.own i s h hs
    exact ⟨a, o, h1, g.ap a (by rw [h3]; exact fun z => by cases z) h2, g.hh _ _ h3, h4.mono g.ff, h5⟩
end

/-! ### the weakest conditions themselves as readings -/
section
variable {X : Cx}
def wE (X : Cx) (e : Expr) : TE := fun σ H Q => ∀ pins s, Inv X pins σ H s → wpAny (model X.prog X.w) X.A (eval e X.env) (EP X pins σ Q) X.xe s
theorem pe_w {e : Expr} : PE X e (wE X e) := ⟨fun pins s σ H Q I h => h pins s I⟩
theorem _root_.L2.PE.w {e : Expr} {t : TE} {σ : St} {H : Hp} {Q : VK} (h : PE X e t) (q : t σ H Q) : wE X e σ H Q := fun pins s I => h.run pins s σ H Q I q
def wT (X : Cx) (e : Expr) : TT := fun σ H Q => ∀ pins s, Inv X pins σ H s → wpAny (model X.prog X.w) X.A (isTrue e X.env (eval e X.env)) (TP X pins σ Q) X.xe s
theorem pt_w {e : Expr} : PT X e (wT X e) := ⟨fun pins s σ H Q I h => h pins s I⟩
theorem _root_.L2.PT.w {e : Expr} {t : TT} {σ : St} {H : Hp} {Q : Bool → Hp → Prop} (h : PT X e t) (q : t σ H Q) : wT X e σ H Q := fun pins s I => h.run pins s σ H Q I q
def wW (X : Cx) (e : Expr) : TT := fun σ H Q => ∀ (whole : Sem Value) pins s, Inv X pins σ H s → wpAny (model X.prog X.w) X.A (isTrue e X.env whole) (TP X pins σ Q) X.xe s
theorem _root_.L2.PW.w {e : Expr} {t : TT} {σ : St} {H : Hp} {Q : Bool → Hp → Prop} (h : PW X e t) (q : t σ H Q) : wW X e σ H Q := fun wh pins s I => h.run wh pins s σ H Q I q
def wA (X : Cx) (es : List Expr) : TA := fun σ H Q => ∀ pos pins s, Inv X pins σ H s → wpAny (model X.prog X.w) X.A (spliced (backTo pos (starEach es X.env))) (AP X pins σ Q) X.xe s
theorem _root_.L2.PA.w {es : List Expr} {t : TA} {σ : St} {H : Hp} {Q : List V → Hp → Prop} (h : PA X es t) (q : t σ H Q) : wA X es σ H Q := fun pos pins s I => h.run pos pins s σ H Q I q
def wEs (X : Cx) : List Expr → TA
  | [], _, H, Q => Q [] H
  | e :: es, σ, H, Q => wE X e σ H fun x H1 => wEs X es σ H1 fun xs H2 => Q (x :: xs) H2
theorem wE.mono {e : Expr} {σ : St} {H : Hp} {Q Q' : VK} (h : wE X e σ H Q) (q : ∀ v H', Q v H' → Q' v H') : wE X e σ H Q' := fun pins s I =>
  thn (h pins s I) fun u s' ⟨v, H', I', r, z⟩ => ⟨v, H', I', r, q v H' z⟩
theorem wEs.mono : ∀ {es : List Expr} {σ : St} {H : Hp} {Q Q' : List V → Hp → Prop}, wEs X es σ H Q → (∀ v H', Q v H' → Q' v H') → wEs X es σ H Q'
  | [], _, _, _, _, h, q => q _ _ h
  | _ :: _, _, _, _, _, h, q => wE.mono h fun _ _ z => wEs.mono z fun _ _ y => q _ _ y
def wS (X : Cx) (st : Stmt) : TS := fun D σ H => ∀ pins s, Inv X pins σ H s → wpAny (model X.prog X.w) X.A (exec st X.env) (SP X pins D) X.xe s
theorem ps_w {st : Stmt} : PS X st (wS X st) := ⟨fun pins s σ H D I h => h pins s I⟩
theorem _root_.L2.PS.w {st : Stmt} {t : TS} {σ : St} {H : Hp} {D : Ends} (h : PS X st t) (q : t D σ H) : wS X st D σ H := fun pins s I => h.run pins s σ H D I q
def wSs (X : Cx) (st : List Stmt) : TS := fun D σ H => ∀ pins s, Inv X pins σ H s → wpAny (model X.prog X.w) X.A (execs st X.env) (SP X pins D) X.xe s
theorem pss_w {st : List Stmt} : PSs X st (wSs X st) := ⟨fun pins s σ H D I h => h pins s I⟩
theorem _root_.L2.PSs.w {st : List Stmt} {t : TS} {σ : St} {H : Hp} {D : Ends} (h : PSs X st t) (q : t D σ H) : wSs X st D σ H := fun pins s I => h.run pins s σ H D I q
end

/-! ### the text's place -/
abbrev Calls := Str → List Slot → Out (Slot × List Slot)
/-- what is known of a text's names -/
structure Ctx where
  N : List Str
  sc : Scope
  np : Nat
  fns : List (Str × Nat)
  gints : List (Str × Int)
  gstrs : List (Str × Str)
  blts : List Str
  exs : List (Str × Str)
  /-- defs and methods that take a desk first: the name, how many are handed over, the method's own name -/
  dk : List (Str × Nat × Option Str)
  /-- classes of refusals with an __init__ of their own -/
  ini : List Str

/-- lent objects -/
def lent (as : List Slot) (vs : List V) : Nat → Addr → Prop := fun i a => ∃ s : Slot, as[i]? = some s ∧ s.isOwn = true ∧ vs[i]? = some (.ref a)
/-- a callee's ground -/
abbrev bdOf (K : PySem.W.Frag) (F H : Hp) (as : List Slot) (vs : List V) : Bd := ⟨K, F, H, lent as vs, vs⟩
/-- what an argument has become -/
def OutIs (K : PySem.W.Frag) (F H : Hp) (a : Addr) (s : Slot) : Prop := (∃ d, s = .val d ∧ Rp K F d (.ref a)) ∨ (s.isOwn = true ∧ ∃ o, F a = none ∧ H a = some o ∧ OwnIs K F a o s)
/-- a call's result: H the heap at the call -/
def RetIs (K : PySem.W.Frag) (H F' H' : Hp) (s : Slot) (v : V) : Prop := (∃ d, s = .val d ∧ Rp K F' d v) ∨ (s.isOwn = true ∧ ∃ a o, v = .ref a ∧ F' a = none ∧ H' a = some o ∧ OwnIs K F' a o s ∧ H a = none)
/-- how an exception is told -/
def XcIs (mg : Str → Option Value) (x : Exc) (cls : Value) (d : Option Addr) (K : PySem.W.Frag) (F : Hp) (H : Hp) : Prop := mg x.cls = some cls ∧ match x.arg with
  | none => d = none
  | some v => ∃ a u, d = some a ∧ H a = some (.xd [("at", u)]) ∧ Rp K F v u
structure Back (K : PySem.W.Frag) (F H : Hp) (as : List Slot) (vs : List V) (F' H' : Hp) (r : Slot) (outs : List Slot) (v : V) : Prop where
  kept : Kept (bdOf K F H as vs) F' H'
  outs : ∀ (i : Nat) (s : Slot) (a : Addr), as[i]? = some s → s.isOwn = true → vs[i]? = some (.ref a) → ∃ s', outs[i]? = some s' ∧ OutIs K F' H' a s'
  ret : RetIs K H F' H' r v
/-- a def's promise by what it gives -/
def SpF (mg : Str → Option Value) (K : PySem.W.Frag) (n : Nat) (φ : List Slot → Out (Slot × List Slot)) : Sp := fun vs H Q E =>
  vs.length = n ∧ ∃ (F : Hp) (as : List Slot), Ex F H ∧ as.length = n ∧ Sl (bdOf K F H as vs) F H as (vs.map some) ∧ (∀ s ∈ as, s ≠ .un) ∧
    (φ as).wp (fun r => ∀ v F' H', Back K F H as vs F' H' r.1 r.2 v → Q v H') (fun x => ∀ F' H' cls d, Kept (bdOf K F H as vs) F' H' → XcIs mg x cls d K F' H' → E cls d H')

/-- what arguments have become when a refusal leaves -/
def OutsOk (K : PySem.W.Frag) (F H : Hp) (as : List Slot) (vs : List V) (outs : List Slot) : Prop := ∀ (i : Nat) (s : Slot) (a : Addr), as[i]? = some s → s.isOwn = true → vs[i]? = some (.ref a) → ∃ s', outs[i]? = some s' ∧ OutIs K F H a s'
/-- .. where k things stand beside those that are handed over (a desk's past) -/
def SpD (mg : Str → Option Value) (K : PySem.W.Frag) (n k : Nat) (φ : List Slot → Out (Slot × List Slot)) : Sp := fun vs H Q E =>
  vs.length = n ∧ ∃ (qs : List V) (F : Hp) (as : List Slot), qs.length = k ∧ Ex F H ∧ as.length = n + k ∧ Sl (bdOf K F H as (vs ++ qs)) F H as ((vs ++ qs).map some) ∧ (∀ s ∈ as, s ≠ .un) ∧
    (φ as).wpx (fun r => ∀ v F' H', Back K F H as (vs ++ qs) F' H' r.1 r.2 v → Q v H') (fun x => ∀ F' H' cls d, Kept (bdOf K F H as (vs ++ qs)) F' H' → XcIs mg x cls d K F' H' → E cls d H')
      (fun x outs => ∀ F' H' cls d, Kept (bdOf K F H as (vs ++ qs)) F' H' → OutsOk K F' H' as (vs ++ qs) outs → XcIs mg x cls d K F' H' → E cls d H')
/-- a desk, made -/
def spInit (C : Addr) : Sp := fun vs H Q _ => ∃ (p dx : Addr), vs = [.ref p] ∧ H p = some (.ins C dx []) ∧ H dx = some (.own p) ∧ p ≠ dx ∧
  ∀ (H' : Hp) (q l t1 t2 : Addr) (o1 o2 : Obj), H q = none → H l = none → H t1 = none → H t2 = none → q ≠ l → q ≠ t1 → q ≠ t2 → l ≠ t1 → l ≠ t2 → t1 ≠ t2 → o1.dict = none → o2.dict = none →
    H' p = some (.ins C dx (deskF (.ref t1) (.ref l) (.ref q))) → H' q = some (.lst []) → H' l = some (.lst []) → H' t1 = some (.frz o1 (.tup [.int 1, .ref t2])) → H' t2 = some (.frz o2 (.tup [])) → (∀ b o, H b = some o → b ≠ p → H' b = some o) → Q .non H'
/-- what is known of desks -/
def DeskCtx (l : List (Str × Nat × Option Str)) (Φ : Calls) (X : Cx) : Prop := ∃ (C f0 : Addr) (fd0 : FuncData), PySem.W.nsIn X.K mainGlobals "Desk" = some (some (.ref C)) ∧ X.mg "Desk" = some (.ref C) ∧ Cls X.K C ∧ NoAttr X.K C "order" ∧ NoAttr X.K C "kept" ∧ NoAttr X.K C "past" ∧
  Mk X.K C f0 ∧ Binds X.K fd0 ["self"] [] ∧ FnG X.prog X.w X.K X.mg X.base (L2N.CX X.prog X.w) 1 f0 fd0 ["self"] (spInit C) ∧ Room 2 X.A ∧
  (∀ p ∈ l, p.2.2 = none → ∃ (f : Addr) (fd : FuncData) (ps : List Str) (k : Nat), X.mg p.1 = some (.ref f) ∧ ps.length = p.2.1 ∧ PySem.W.keepIn X.K (.ref f) = true ∧ Binds X.K fd ps [] ∧ FnG X.prog X.w X.K X.mg X.base (L2N.CX X.prog X.w) k f fd ps (SpD X.mg X.K p.2.1 1 (Φ p.1)) ∧ Room k X.A) ∧
  (∀ p ∈ l, ∀ m, p.2.2 = some m → ∃ (f : Addr) (fd : FuncData) (ps : List Str) (k : Nat), Meth X.K C m f ∧ ps.length = p.2.1 ∧ Binds X.K fd ps [] ∧ FnG X.prog X.w X.K X.mg X.base (L2N.CX X.prog X.w) k f fd ps (SpD X.mg X.K p.2.1 1 (Φ p.1)) ∧ Room k X.A)

/-- what a class of the text's own refusals says -/
structure ExF (K : PySem.W.Frag) (C : Addr) : Prop where
  ok : PySem.W.excIn K C [.type "ValueError", .type "Exception", .type "BaseException", .type "object"] "ValueError.__new__" = true
  kp : PySem.W.keepIn K (.ref C) = true
  bs : PySem.W.subIn K (.ref C) (.type "BaseException") = some true
  tp : PySem.W.typeIn K (.ref C) = some (.type "type")
  is : ExcC K C
/-- the def that tells a refusal's mark -/
def FnM (P : Program) (w : World) (K : PySem.W.Frag) (mg : Str → Option Value) (base : Heap) (f : Addr) (fd : FuncData) (exs : List (Str × Str)) : Prop := ∀ p ∈ exs, ∀ D : Addr, mg p.1 = some (.ref D) →
  ∀ (A : Around) (outer : List PySem.Env) (s : Shared) (H : Hp) (q : Addr × Obj) (args : Args) (Q : VK) (E : XK), L2H.RoomH 1 A → L2H.Hot1 A q → L2H.PinOk outer H s q → Env0 P w K mg base A outer s H → BindsTo s fd args [("e", .ref q.1)] →
    q.2.cls = .ref D → q.2.dict = none → (∃ vs, q.2.data = .fields vs) → (∀ H', Ex H H' → Q (.str p.2) H') → codeAny (model P w) A (.call (.ref f) args) (CR (L2N.CX P w) outer P w H s Q E) s
/-- what the suite behind a refusal calls: the def that tells the mark -/
def HotM (P : Program) (w : World) (K : PySem.W.Frag) (mg : Str → Option Value) (base : Heap) (exs : List (Str × Str)) : Prop := ∃ (f : Addr) (fd : FuncData) (R : Addr),
  mg "_law_marks" = some (.ref f) ∧ PySem.W.keepIn K (.ref f) = true ∧ Binds K fd ["e"] [] ∧ mg "RankError" = some (.ref R) ∧ (∀ p ∈ exs, ∀ C : Addr, mg p.1 = some (.ref C) → PySem.W.exmOne K (.ref C) (.ref R) = some true) ∧ FnM P w K mg base f fd exs
/-- the refusals, by their places -/
def asksL : List Str := ["NoOrder", "NoMany", "NoPairs", "Ring", "NoThing", "NoRow", "NoRows", "NoNumber", "NoChain", "NoTurns", "NoPoints", "NoKind", "TooMany", "Bare", "NoLine", "NoText"]
def placeOf (x : Str) : Int := ((asksL.idxOf x : Nat) : Int)
/-- the def that says whether a refusal is of the class at a place, and no other -/
def FnL (P : Program) (w : World) (K : PySem.W.Frag) (mg : Str → Option Value) (base : Heap) (f : Addr) (fd : FuncData) (exs : List (Str × Str)) : Prop := ∀ p ∈ exs, ∀ D : Addr, mg p.1 = some (.ref D) →
  ∀ (A : Around) (outer : List PySem.Env) (s : Shared) (H : Hp) (q : Addr × Obj) (args : Args) (Q : VK) (E : XK) (k : Int) (u : Value), L2H.RoomH 2 A → L2H.Hot1 A q → L2H.PinOk outer H s q → Env0 P w K mg base A outer s H → RelV (.int k) u → BindsTo s fd args [("e", .ref q.1), ("place", u)] →
    q.2.cls = .ref D → q.2.dict = none → (∃ vs, q.2.data = .fields vs) → (∀ H', Ex H H' → Q (.bl (decide (k = placeOf p.1))) H') → codeAny (model P w) A (.call (.ref f) args) (CR (L2N.CX P w) outer P w H s Q E) s
def HotL (P : Program) (w : World) (K : PySem.W.Frag) (mg : Str → Option Value) (base : Heap) (exs : List (Str × Str)) : Prop := ∃ (f : Addr) (fd : FuncData) (R : Addr),
  mg "_law_only" = some (.ref f) ∧ PySem.W.keepIn K (.ref f) = true ∧ Binds K fd ["e", "place"] [] ∧ mg "RankError" = some (.ref R) ∧ (∀ p ∈ exs, ∀ C : Addr, mg p.1 = some (.ref C) → PySem.W.exmOne K (.ref C) (.ref R) = some true) ∧ FnL P w K mg base f fd exs
/-- refusals that are told by their places bear no mark -/
def kindL (exs : List (Str × Str)) : Bool := exs.all fun p => p.2 == ("" : Str)
def HotOk (P : Program) (w : World) (K : PySem.W.Frag) (mg : Str → Option Value) (base : Heap) (exs : List (Str × Str)) : Prop := if kindL exs = true then HotL P w K mg base exs else HotM P w K mg base exs
theorem HotOk.m {P : Program} {w : World} {K : PySem.W.Frag} {mg : Str → Option Value} {base : Heap} {exs : List (Str × Str)} (k : kindL exs = false) : HotOk P w K mg base exs = HotM P w K mg base exs := if_neg (by rw [k]; decide)
theorem HotOk.l {P : Program} {w : World} {K : PySem.W.Frag} {mg : Str → Option Value} {base : Heap} {exs : List (Str × Str)} (k : kindL exs = true) : HotOk P w K mg base exs = HotL P w K mg base exs := if_pos k
/-! ### refusals with an __init__ of their own -/
def spIni (C : Addr) (f : Str) : Sp := fun vs H Q _ => ∃ (p : Addr) (v : V), vs = [.ref p, v] ∧ H p = some (exo p C none) ∧ ∀ dx, H dx = none → dx ≠ p → Q .non (upd (upd H dx (exd dx [(f, v)])) p (exo p C (some dx)))
/-- the def that tells the mark of a refusal that has its dict -/
def FnMD (P : Program) (w : World) (K : PySem.W.Frag) (mg : Str → Option Value) (base : Heap) (f : Addr) (fd : FuncData) (D : Addr) (m : Str) : Prop :=
  ∀ (A : Around) (outer : List PySem.Env) (s : Shared) (H : Hp) (q : Addr × Obj) (args : Args) (Q : VK) (E : XK) (dd : Addr) (od : Obj), L2H.RoomH 1 A → L2H.Hot1 A q → L2H.PinOk outer H s q → Env0 P w K mg base A outer s H → BindsTo s fd args [("e", .ref q.1)] →
    q.2.cls = .ref D → q.2.dict = some dd → s.heap.get? dd = some od → (∃ vs, q.2.data = .fields vs) → (∀ H', Ex H H' → Q (.str m) H') → codeAny (model P w) A (.call (.ref f) args) (CR (L2N.CX P w) outer P w H s Q E) s
/-- a def of one whole number, called while a refusal is held -/
def FnWH (P : Program) (w : World) (K : PySem.W.Frag) (mg : Str → Option Value) (base : Heap) (f : Addr) (fd : FuncData) (y : Str) (b : Bool) : Prop :=
  ∀ (A : Around) (outer : List PySem.Env) (s : Shared) (H : Hp) (q : Addr × Obj) (args : Args) (Q : VK) (E : XK) (k : Int) (u : Value), L2H.RoomH 1 A → L2H.Hot1 A q → L2H.PinOk outer H s q → Env0 P w K mg base A outer s H → RelV (.int k) u → BindsTo s fd args [(y, u)] →
    (∀ H', Ex H H' → Q (.bl b) H') → codeAny (model P w) A (.call (.ref f) args) (CR (L2N.CX P w) outer P w H s Q E) s
def HotI (P : Program) (w : World) (K : PySem.W.Frag) (mg : Str → Option Value) (base : Heap) (C : Addr) : Prop := ∃ (fM fW R : Addr) (dM dW : FuncData), mg "_law_marks" = some (.ref fM) ∧ PySem.W.keepIn K (.ref fM) = true ∧ Binds K dM ["e"] [] ∧ FnMD P w K mg base fM dM C "text" ∧
  mg "_law_whole" = some (.ref fW) ∧ PySem.W.keepIn K (.ref fW) = true ∧ Binds K dW ["thing"] [] ∧ FnWH P w K mg base fW dW "thing" true ∧ mg "RankError" = some (.ref R) ∧ PySem.W.exmOne K (.ref C) (.ref R) = some true
def IniOk (P : Program) (w : World) (K : PySem.W.Frag) (mg : Str → Option Value) (base : Heap) (x : Str) : Prop := ∃ (C fI : Addr) (fd : FuncData), mg x = some (.ref C) ∧ OexC K C ∧ PySem.W.findIn K (.ref C) "__init__" = some (some (.ref fI)) ∧ PySem.W.typeIn K (.ref fI) = some (.type "function") ∧
  FnG P w K mg base (L2N.CX P w) 1 fI fd ["self", "at"] (spIni C "at") ∧ Binds K fd ["self", "at"] [] ∧ XfC K C ∧ PySem.W.findIn K (.ref C) "at" = some none ∧ HotI P w K mg base C

structure CtxOk (Γ : Ctx) (Φ : Calls) (X : Cx) : Prop where
  nm : X.N = Γ.N
  sc : X.env.scope = Γ.sc
  nd : Γ.N.Nodup
  calm : X.calm = true
  room : Room 0 X.A
  grd : X.A.guards = some []
  fns : ∀ p ∈ Γ.fns, ∃ (f : Addr) (fd : FuncData) (ps : List Str) (k : Nat), X.mg p.1 = some (.ref f) ∧ ps.length = p.2 ∧ PySem.W.keepIn X.K (.ref f) = true ∧ Binds X.K fd ps [] ∧ FnG X.prog X.w X.K X.mg X.base (L2N.CX X.prog X.w) k f fd ps (SpF X.mg X.K p.2 (Φ p.1)) ∧ Room k X.A
  gints : ∀ p ∈ Γ.gints, ∃ t, X.mg p.1 = some (.int p.2 t)
  gstrs : ∀ p ∈ Γ.gstrs, ∃ t, X.mg p.1 = some (.str p.2 t)
  blt : ∀ x ∈ Γ.blts, X.mg x = none
  exs : ∀ p ∈ Γ.exs, ∃ C : Addr, X.mg p.1 = some (.ref C) ∧ ExF X.K C
  hot : Γ.exs ≠ [] → L2H.RoomH 2 X.A ∧ HotOk X.prog X.w X.K X.mg X.base Γ.exs
  dk : Γ.dk ≠ [] → DeskCtx Γ.dk Φ X
  ini : ∀ x ∈ Γ.ini, IniOk X.prog X.w X.K X.mg X.base x ∧ Room 2 X.A ∧ L2H.RoomH 2 X.A

theorem takesN {X : Cx} : L2N.Takes X (fun _ _ _ _ => False) := fun _ _ x => by
  obtain ⟨_, _, _, _, _, _, _, _, _, _, _, _, _, _, _, _, z⟩ := x
  exact z.elim
/-! ### judgements -/
abbrev Den := Calls → Env → Out (Slot × Env)
abbrev DenO := Calls → Env → Out (PyData × Env)
abbrev DenOs := Calls → Env → Out (List PyData × Env)
/-- behind an expression -/
def EvP (B : Bd) (F H : Hp) (σ : St) (p : Bool) (Q : VK) : Slot × Env → Prop := fun r => ∀ v F' H', Rel B F' H' r.2 σ → Ex F F' → (p = true → Ex H H') → Res B F' H' r.2 σ r.1 v → Q v H'
def ExP (X : Cx) (B : Bd) (F : Hp) (σ : St) (W : WX) : Exc → Prop := fun x => ∀ F' H' cls d, Kept B F' H' → Ex F F' → XcIs X.mg x cls d X.K F' H' → W cls d σ H'
/-- an operand: its top stands in H, its parts in F -/
def Bp (K : PySem.W.Frag) (F H : Hp) (d : PyData) (v : V) : Prop := Rp K F d v ∨ ∃ a o s, v = .ref a ∧ H a = some o ∧ OwnIs K F a o s ∧ s.ice = .val d
inductive BpAll (K : PySem.W.Frag) (F H : Hp) : List PyData → List V → Prop
  | nil : BpAll K F H [] []
  | cons {d : PyData} {ds : List PyData} {v : V} {vs : List V} : Bp K F H d v → BpAll K F H ds vs → BpAll K F H (d :: ds) (v :: vs)
theorem Bp.mono {K : PySem.W.Frag} {F H F' H' : Hp} {d : PyData} {v : V} (f : Ex F F') (h : Ex H H') (b : Bp K F H d v) : Bp K F' H' d v := by
  rcases b with b | ⟨a, o, s, h1, h2, h3, h4⟩
  · exact .inl (b.mono f)
  · exact .inr ⟨a, o, s, h1, h _ _ h2, h3.mono f, h4⟩
/-- m: it may be borrowed -/
def Vp (m : Bool) (K : PySem.W.Frag) (F H : Hp) (d : PyData) (v : V) : Prop := if m = true then Bp K F H d v else Rp K F d v
theorem Vp.mono {m : Bool} {K : PySem.W.Frag} {F H F' H' : Hp} {d : PyData} {v : V} (f : Ex F F') (h : m = true → Ex H H') (b : Vp m K F H d v) : Vp m K F' H' d v := by
  cases m with
  | true => exact Bp.mono f (h rfl) b
  | false => exact Rp.mono f _ _ b
theorem Vp.bp {m : Bool} {K : PySem.W.Frag} {F H : Hp} {d : PyData} {v : V} (b : Vp m K F H d v) : Bp K F H d v := by
  cases m with
  | true => exact b
  | false => exact .inl b
def OpP (B : Bd) (F H : Hp) (σ : St) (p m : Bool) (Q : VK) : PyData × Env → Prop := fun r => ∀ v F' H', Rel B F' H' r.2 σ → Ex F F' → (p = true → Ex H H') → Vp m B.K F' H' r.1 v → Q v H'
def OpsP (B : Bd) (F H : Hp) (σ : St) (p : Bool) (Q : List V → Hp → Prop) : List PyData × Env → Prop := fun r => ∀ vs F' H', Rel B F' H' r.2 σ → Ex F F' → (p = true → Ex H H') → BpAll B.K F' H' r.1 vs → Q vs H'

/-- e means d -/
def SndE (Γ : Ctx) (e : Expr) (d : Den) (p : Bool) : Prop := ∀ (X : Cx) (Φ : Calls) (B : Bd) (F H : Hp) (ρ : Env) (σ : St) (Q : VK) (W : WX), CtxOk Γ Φ X → B.K = X.K → L2N.Takes X W → Rel B F H ρ σ →
  (d Φ ρ).wp (EvP B F H σ p Q) (ExP X B F σ W) → wE X e σ H Q
def SndO (Γ : Ctx) (e : Expr) (d : DenO) (p m : Bool) : Prop := ∀ (X : Cx) (Φ : Calls) (B : Bd) (F H : Hp) (ρ : Env) (σ : St) (Q : VK) (W : WX), CtxOk Γ Φ X → B.K = X.K → L2N.Takes X W → Rel B F H ρ σ →
  (d Φ ρ).wp (OpP B F H σ p m Q) (ExP X B F σ W) → wE X e σ H Q
def SndOs (Γ : Ctx) (es : List Expr) (d : DenOs) (p : Bool) : Prop := ∀ (X : Cx) (Φ : Calls) (B : Bd) (F H : Hp) (ρ : Env) (σ : St) (Q : List V → Hp → Prop) (W : WX), CtxOk Γ Φ X → B.K = X.K → L2N.Takes X W → Rel B F H ρ σ →
  (d Φ ρ).wp (OpsP B F H σ p Q) (ExP X B F σ W) → wEs X es σ H Q
/-- as a test -/
def SndT (Γ : Ctx) (e : Expr) (d : Den) (p : Bool) : Prop := ∀ (X : Cx) (Φ : Calls) (B : Bd) (F H : Hp) (ρ : Env) (σ : St) (Q : Bool → Hp → Prop) (W : WX), CtxOk Γ Φ X → B.K = X.K → L2N.Takes X W → Rel B F H ρ σ →
  (d Φ ρ).wp (fun r => ∃ b, r.1 = .val (.bool b) ∧ ∀ F' H', Rel B F' H' r.2 σ → Ex F F' → (p = true → Ex H H') → Q b H') (ExP X B F σ W) → wT X e σ H Q

section
variable {X : Cx} {B : Bd} {F F' H H' : Hp} {σ : St} {W : WX} {ρ : Env}
theorem ExP.mono (e : Ex F F') : ∀ x, ExP X B F σ W x → ExP X B F' σ W x := fun x h F2 H2 c d k e2 i => h F2 H2 c d k (e.trans e2) i
end

/-! ### names, constants -/
def dVar (i : Nat) : Den := fun _ ρ => match ρ[i]? with
  | some (.val d) => .ok (.val d, ρ)
  | some (.own ds) => .ok (.val (.list ds), ρ.set i (.val (.list ds)))
  | some (.odc false es) => .ok (.val (.dict es), ρ.set i (.val (.dict es)))
  | _ => .stuck
def dLit (d : PyData) : Den := fun _ ρ => .ok (.val d, ρ)
/-- a name as an operand: as it stands -/
def oVar (i : Nat) : DenO := fun _ ρ => match ρ[i]? with
  | some (.val d) => .ok (d, ρ)
  | some (.own ds) => .ok (.list ds, ρ)
  | some (.odc false es) => .ok (.dict es, ρ)
  | _ => .stuck
def oOf (d : Den) : DenO := fun Φ ρ => (d Φ ρ).bind fun r => match r.1 with
  | .val x => .ok (x, r.2)
  | .own ds => .ok (.list ds, r.2)
  | .odc false es => .ok (.dict es, r.2)
  | _ => .stuck

def visB (sc : Scope) (x : Str) : Bool := sc.names.lookup x == some .local || sc.names.lookup x == some .cell || sc.names.lookup x == some .free
theorem vis_of {sc : Scope} {x : Str} (h : visB sc x = true) : Vis sc x := by
  unfold visB at h
  simp only [Bool.or_eq_true, beq_iff_eq] at h
  rcases h with (h | h) | h
  · exact .inl h
  · exact .inr (.inl h)
  · exact .inr (.inr h)
def okName (x : Str) : Bool := !(x == ("__debug__" : Str)) && !(x == ("__classdict__" : Str)) && !(x == ("__name__" : Str))
theorem okName_d {x : Str} (h : okName x = true) : (x == ("__debug__" : Str)) = false := by
  unfold okName at h
  simp only [Bool.and_eq_true, Bool.not_eq_true'] at h
  exact h.1.1
theorem okName_c {x : Str} (h : okName x = true) : (x == ("__classdict__" : Str)) = false := by
  unfold okName at h
  simp only [Bool.and_eq_true, Bool.not_eq_true'] at h
  exact h.1.2
theorem okName_n {x : Str} (h : okName x = true) : x ≠ "__name__" := by
  unfold okName at h
  simp only [Bool.and_eq_true, Bool.not_eq_true'] at h
  intro e
  subst e
  simp at h

section
variable {Γ : Ctx} {x : Str} {pos : Pos} {i : Nat}
theorem snd_var (hN : Γ.N[i]? = some x) (hv : visB Γ.sc x = true) (hx : okName x = true) : SndE Γ (.Name x pos) (dVar i) true := by
  intro X Φ B F H ρ σ Q W C hK T R h
  have P : PE X (.Name x pos) (tVar i) := pe_var (by rw [C.nm]; exact hN) (by rw [C.sc]; exact vis_of hv) (okName_d hx) (okName_c hx)
  unfold dVar at h
  cases e : ρ[i]? with
  | none => rw [e] at h; exact h.elim
  | some s =>
    rw [e] at h
    cases s with
    | val d =>
      obtain ⟨v, h1, h2⟩ := R.sl.val i d e
      exact P.w ⟨v, h1, h v F H R (.refl F) (fun _ => .refl H) h2⟩
    | own ds =>
      obtain ⟨F', d, v, R', e1, e2, e3, e4⟩ := R.iceAt e rfl rfl
      cases e2
      exact P.w ⟨v, e3, h v F' H R' e1 (fun _ => .refl H) e4⟩
    | odc t es =>
      cases t with
      | true => exact h.elim
      | false =>
        obtain ⟨F', d, v, R', e1, e2, e3, e4⟩ := R.iceAt e rfl rfl
        cases e2
        exact P.w ⟨v, e3, h v F' H R' e1 (fun _ => .refl H) e4⟩
    | un => exact h.elim
    | obj _ _ => exact h.elim
    | scr ns => exact h.elim
theorem snd_oVar (hN : Γ.N[i]? = some x) (hv : visB Γ.sc x = true) (hx : okName x = true) : SndO Γ (.Name x pos) (oVar i) true true := by
  intro X Φ B F H ρ σ Q W C hK T R h
  have P : PE X (.Name x pos) (tVar i) := pe_var (by rw [C.nm]; exact hN) (by rw [C.sc]; exact vis_of hv) (okName_d hx) (okName_c hx)
  unfold oVar at h
  cases e : ρ[i]? with
  | none => rw [e] at h; exact h.elim
  | some s =>
    rw [e] at h
    cases s with
    | val d =>
      obtain ⟨v, h1, h2⟩ := R.sl.val i d e
      exact P.w ⟨v, h1, h v F H R (.refl F) (fun _ => .refl H) (.inl h2)⟩
    | own ds =>
      obtain ⟨a, o, e1, e2, e3, e4, e5⟩ := R.sl.own i _ e rfl
      exact P.w ⟨_, e1, h _ F H R (.refl F) (fun _ => .refl H) (.inr ⟨a, o, _, rfl, e3, e4, rfl⟩)⟩
    | odc t es =>
      cases t with
      | true => exact h.elim
      | false =>
        obtain ⟨a, o, e1, e2, e3, e4, e5⟩ := R.sl.own i _ e rfl
        exact P.w ⟨_, e1, h _ F H R (.refl F) (fun _ => .refl H) (.inr ⟨a, o, _, rfl, e3, e4, rfl⟩)⟩
    | un => exact h.elim
    | obj _ _ => exact h.elim
    | scr ns => exact h.elim
theorem snd_oOf {e : Expr} {d : Den} {p : Bool} (h : SndE Γ e d p) : SndO Γ e (oOf d) p false := by
  intro X Φ B F H ρ σ Q W C hK T R hq
  refine h X Φ B F H ρ σ Q W C hK T R (wp_mono (wp_bind (c := d Φ ρ) hq) (fun r q v F' H' R' e1 e2 hr => ?_) fun _ q => q)
  obtain ⟨s, ρ'⟩ := r
  have sf : s.soft = true := by
    cases s with
    | odc t es =>
      cases t with
      | true => exact q.elim
      | false => rfl
    | obj _ _ => exact q.elim
    | _ => rfl
  obtain ⟨F2, x, R2, e3, e4, e5⟩ := hr.freeze R' sf
  cases s with
  | val y => cases e4; exact q v F2 H' R2 (e1.trans e3) e2 e5
  | own ds => cases e4; exact q v F2 H' R2 (e1.trans e3) e2 e5
  | odc t es =>
    cases t with
    | true => cases sf
    | false => cases e4; exact q v F2 H' R2 (e1.trans e3) e2 e5
  | obj _ _ => cases sf
  | un => exact hr.elim
  | scr ns => exact hr.elim
def litOf : Const → Option PyData
  | .none => some .none
  | .bool b => some (.bool b)
  | .int i => some (.int i)
  | .str s => some (.str s)
  | _ => none
theorem snd_lit {c : Const} {d : PyData} {k : Nat} (hc : litOf c = some d) : SndE Γ (.Constant c k pos) (dLit d) true := by
  intro X Φ B F H ρ σ Q W C hK T R h
  have h' := fun v (r : Rp B.K F d v) => h v F H R (.refl F) (fun _ => .refl H) r
  cases c with
  | none => cases hc; exact PE.w pe_non (h' _ .non)
  | bool b => cases hc; exact PE.w pe_bl (h' _ (.bl b))
  | int i => cases hc; exact PE.w pe_int (h' _ (.int i))
  | str s => cases hc; exact PE.w pe_str (h' _ (.str s))
  | _ => cases hc
/-- a whole number, a text of the module -/
theorem snd_gint {n : Int} (hm : (x, n) ∈ Γ.gints) (hg : Γ.sc.names.lookup x = some .globalImplicit) (hx : okName x = true) : SndE Γ (.Name x pos) (dLit (.int n)) true := by
  intro X Φ B F H ρ σ Q W C hK T R h
  obtain ⟨t, e⟩ := C.gints _ hm
  exact PE.w (pe_glob (v := .int n) (by show X.env.scope.names.lookup x = _; rw [C.sc]; exact hg) e ⟨t, rfl⟩ (okName_d hx)) (h _ F H R (.refl F) (fun _ => .refl H) (.int n))
end

/-! ### lists of operands -/
def plainE : Expr → Bool
  | .Starred _ _ => false
  | _ => true
theorem star_of {e : Expr} {es : List Expr} {env : PySem.Env} (h : plainE e = true) : starEach (e :: es) env = (false, eval e env) :: starEach es env := by
  cases e <;> first | rfl | cases h
theorem plain_any {pos : Pos} {env : PySem.Env} : ∀ {es : List Expr}, es.all plainE = true → (backTo pos (starEach es env)).any (·.1) = false
  | [], _ => rfl
  | e :: es, h => by
    rw [List.all_cons, Bool.and_eq_true] at h
    rw [star_of h.1]
    show (false || (backTo pos (starEach es env)).any (·.1)) = false
    rw [plain_any h.2]
    rfl
theorem pa_ws {X : Cx} : ∀ {es : List Expr}, es.all plainE = true → PA X es (wEs X es)
  | [], _ => pa_nil
  | e :: es, h => by
    rw [List.all_cons, Bool.and_eq_true] at h
    exact pa_cons pe_w (pa_ws h.2) (star_of h.1)
def osNil : DenOs := fun _ ρ => .ok ([], ρ)
def osCons (a : DenO) (r : DenOs) : DenOs := fun Φ ρ => (a Φ ρ).bind fun x => (r Φ x.2).bind fun y => .ok (x.1 :: y.1, y.2)
section
variable {Γ : Ctx} {e : Expr} {es : List Expr} {a : DenO} {r : DenOs} {p m p' : Bool}
theorem snd_osNil : SndOs Γ [] osNil true := by
  intro X Φ B F H ρ σ Q W C hK T R h
  exact h [] F H R (.refl F) (fun _ => .refl H) .nil
theorem snd_osCons (h1 : SndO Γ e a p m) (h2 : SndOs Γ es r p') (hp : (p' || !m) = true) : SndOs Γ (e :: es) (osCons a r) (p && p') := by
  intro X Φ B F H ρ σ Q W C hK T R h
  refine h1 X Φ B F H ρ σ _ W C hK T R (wp_mono (wp_bind (c := a Φ ρ) h) (fun x q v F1 H1 R1 e1 e2 hv => ?_) fun _ q => q)
  refine h2 X Φ B F1 H1 x.2 σ _ W C hK T R1 (wp_mono (wp_bind (c := r Φ x.2) q) (fun y q' vs F2 H2 R2 e3 e4 hvs => ?_) (ExP.mono e1))
  refine q' (v :: vs) F2 H2 R2 (e1.trans e3) (fun z => ?_) (.cons (Vp.bp (m := m) (hv.mono e3 fun hm => ?_)) hvs)
  · rw [Bool.and_eq_true] at z
    exact (e2 z.1).trans (e4 z.2)
  · rw [hm] at hp
    simp only [Bool.not_true, Bool.or_false] at hp
    exact e4 hp
end

/-! ### lists of frozen things -/
def fsNil : DenOs := fun _ ρ => .ok ([], ρ)
def fsCons (a : Den) (r : DenOs) : DenOs := fun Φ ρ => (oOf a Φ ρ).bind fun x => (r Φ x.2).bind fun y => .ok (x.1 :: y.1, y.2)
def FsP (B : Bd) (F H : Hp) (σ : St) (p : Bool) (Q : List V → Hp → Prop) : List PyData × Env → Prop := fun r => ∀ vs F' H', Rel B F' H' r.2 σ → Ex F F' → (p = true → Ex H H') → RpAll B.K F' r.1 vs → Q vs H'
def SndFs (Γ : Ctx) (es : List Expr) (d : DenOs) (p : Bool) : Prop := ∀ (X : Cx) (Φ : Calls) (B : Bd) (F H : Hp) (ρ : Env) (σ : St) (Q : List V → Hp → Prop) (W : WX), CtxOk Γ Φ X → B.K = X.K → L2N.Takes X W → Rel B F H ρ σ →
  (d Φ ρ).wp (FsP B F H σ p Q) (ExP X B F σ W) → wEs X es σ H Q
section
variable {Γ : Ctx} {e : Expr} {es : List Expr} {a : Den} {r : DenOs} {p p' : Bool} {pos : Pos}
theorem snd_fsNil : SndFs Γ [] fsNil true := by
  intro X Φ B F H ρ σ Q W C hK T R h
  exact h [] F H R (.refl F) (fun _ => .refl H) .nil
theorem snd_fsCons (h1 : SndE Γ e a p) (h2 : SndFs Γ es r p') : SndFs Γ (e :: es) (fsCons a r) (p && p') := by
  intro X Φ B F H ρ σ Q W C hK T R h
  refine snd_oOf h1 X Φ B F H ρ σ _ W C hK T R (wp_mono (wp_bind (c := oOf a Φ ρ) h) (fun x q v F1 H1 R1 e1 e2 hv => ?_) fun _ q => q)
  refine h2 X Φ B F1 H1 x.2 σ _ W C hK T R1 (wp_mono (wp_bind (c := r Φ x.2) q) (fun y q' vs F2 H2 R2 e3 e4 hvs => ?_) (ExP.mono e1))
  refine q' (v :: vs) F2 H2 R2 (e1.trans e3) (fun z => ?_) (.cons (Rp.mono e3 _ _ hv) hvs)
  rw [Bool.and_eq_true] at z
  exact (e2 z.1).trans (e4 z.2)
/-- (a, b, ..) | [a, b, ..] -/
def dTup (a : DenOs) : Den := fun Φ ρ => (a Φ ρ).bind fun x => guard' (decide (x.1.length ≤ 1000)) (.ok (.val (.tuple x.1), x.2))
def dLst (a : DenOs) : Den := fun Φ ρ => (a Φ ρ).bind fun x => guard' (decide (x.1.length ≤ 1000)) (.ok (.own x.1, x.2))
theorem RpAll.length {K : PySem.W.Frag} {H : Hp} : ∀ {ds : List PyData} {vs : List V}, RpAll K H ds vs → ds.length = vs.length
  | [], _, h => by cases h; rfl
  | _ :: _, _, h => by
    cases h with
    | cons _ h2 => exact congrArg Nat.succ (RpAll.length h2)
theorem le_line {n : Nat} (h : n ≤ 1000000) : n ≤ sizeLine := Nat.le_trans h (by decide)
theorem lt_line {n : Nat} (h : n ≤ 1000000) : n < sizeLine := Nat.lt_of_le_of_lt h (by decide)
end
/-! ### operations on values -/
/-- what an operation's outcome must be good for -/
def PQ (K : PySem.W.Frag) (F H : Hp) (Q : VK) : Slot → Prop
  | .val d => ∀ v F' H', Grow F H F' H' → Rp K F' d v → Q v H'
  | .own ds => ∀ p vs, H p = none → RpAll K F ds vs → Q (.ref p) (upd H p (.lst vs))
  | .odc false es => ∀ p kvs, H p = none → RpK K F es kvs → Q (.ref p) (upd H p (.dK kvs))
  | .odc true es => ∀ p kvs, H p = none → RpI K F es kvs → Q (.ref p) (upd H p (tabO p kvs))
  | _ => True
/-- an operation on values -/
abbrev Prim := List PyData → Option Slot
def Rule (K : PySem.W.Frag) (r : List V → Hp → VK → Prop) (f : Prim) : Prop := ∀ (F H : Hp) (ds : List PyData) (vs : List V) (Q : VK) (s : Slot), Ex F H → BpAll K F H ds vs → f ds = some s → PQ K F H Q s → r vs H Q
def opt {α : Type} (o : Option α) : Out α := match o with
  | some a => .ok a
  | none => .stuck
@[simp] theorem opt_some {α : Type} (a : α) : opt (some a) = .ok a := rfl
/-- an operation on operands -/
def dP (f : Prim) (a : DenOs) : Den := fun Φ ρ => (a Φ ρ).bind fun x => (opt (f x.1)).bind fun s => .ok (s, x.2)
section
variable {X : Cx} {B : Bd} {F H F0 H0 : Hp} {ρ : Env} {σ : St} {Q : VK} {W : WX} {p : Bool}
/-- new things do no harm -/
theorem pq_of {s : Slot} (R : Rel B F H ρ σ) (e1 : Ex F0 F) (e2 : p = true → Ex H0 H) (h : EvP B F0 H0 σ p Q (s, ρ)) : PQ B.K F H Q s := by
  have nw : ∀ {a : Addr}, H a = none → B.H0 a = none := fun {a} hp => by
    cases q : B.H0 a with
    | none => rfl
    | some o => exact absurd hp (R.kept.live a (by rw [q]; exact fun z => by cases z))
  have ap : ∀ {a : Addr}, H a = none → ∀ (i : Nat) (t : Slot), ρ[i]? = some t → t.isOwn = true → σ[i]? ≠ some (some (.ref a)) := fun {a} hp i t q qs z => by
    obtain ⟨b, o, g1, g2, g3, _⟩ := R.sl.own i t q qs
    rw [g1] at z
    cases z
    rw [hp] at g3; cases g3
  cases s with
  | val d => exact fun v F' H' g r => h v F' H' (R.add g) (e1.trans g.ff) (fun z => (e2 z).trans g.hh) r
  | own ds => exact fun q vs hp r => h _ F _ (R.grow (.new hp)) e1 (fun z => (e2 z).trans (.new hp)) ⟨q, _, rfl, R.kept.ex.free hp, upd_same, ⟨vs, rfl, r⟩, nw hp, ap hp⟩
  | odc t es =>
    cases t with
    | false => exact fun q vs hp r => h _ F _ (R.grow (.new hp)) e1 (fun z => (e2 z).trans (.new hp)) ⟨q, _, rfl, R.kept.ex.free hp, upd_same, ⟨vs, rfl, r⟩, nw hp, ap hp⟩
    | true => exact fun q vs hp r => h _ F _ (R.grow (.new hp)) e1 (fun z => (e2 z).trans (.new hp)) ⟨q, _, rfl, R.kept.ex.free hp, upd_same, ⟨q, vs, rfl, r⟩, nw hp, ap hp⟩
  | un => exact trivial
  | obj _ _ => exact trivial
  | scr ns => exact trivial
end
section
variable {Γ : Ctx} {es : List Expr} {a : DenOs} {p : Bool} {pos : Pos}
/-- a tuple display, its object known (so it has no dict of its own) -/
def tTupF (t : TA) : TE := fun σ H Q => t σ H fun xs H1 => xs.length ≤ sizeLine ∧ ∀ p o, H1 p = none → o.dict = none → Q (.ref p) (upd H1 p (.frz o (.tup xs)))
theorem laid_tup {X : Cx} {pins : List (Addr × Obj)} {σ : St} {H : Hp} {s : Shared} {us : List Value} {xs : List V} {t' : Nat} (I : Inv X pins σ H s) (r : Vals xs us) (z : xs.length ≤ sizeLine) :
    Inv X pins σ (upd H s.heap.objs.size (.frz { cls := .type "tuple", data := .seq us.toArray } (.tup xs))) { s with heap := s.heap.push { cls := .type "tuple", data := .seq us.toArray }, toks := t' } :=
  I.laid (t' := t') (fun b u e => Heap.get?_push_of_some _ e) (Nat.le_refl _) ⟨Heap.get?_push_size _ rfl, z, us, r, ⟨_, Heap.get?_push_size _ rfl, rfl, _, rfl⟩⟩
theorem pe_tupF {X : Cx} {t : TA} {x1 : Nat} (h : PA X es t) : PE X (.Tuple es x1 pos) (tTupF t) := by
  refine ⟨fun pins s σ H Q I hq => ?_⟩
  refine wpAny_Tuple_spliced (thn (h.run pos pins s σ H _ I hq) fun us s1 ⟨xs, H1, I1, r, z, q⟩ => ⟨by rw [← r.length]; exact z, ?_⟩)
  exact ⟨.ref s1.heap.objs.size, _, laid_tup (t' := s1.toks) I1 r z, rfl, q _ _ (I1.hok.fresh (Nat.le_refl _)) rfl⟩
theorem snd_tup {k : Nat} (h : SndFs Γ es a p) (he : es.all plainE = true) : SndE Γ (.Tuple es k pos) (dTup a) p := by
  intro X Φ B F H ρ σ Q W C hK T R hq
  refine PE.w (pe_tupF (pa_ws he)) ?_
  refine h X Φ B F H ρ σ _ W C hK T R (wp_mono (wp_bind (c := a Φ ρ) hq) (fun x q vs F1 H1 R1 e1 e2 hv => ?_) fun _ q => q)
  obtain ⟨hl, q⟩ := wp_guard q
  have hl := of_decide_eq_true hl
  refine ⟨le_line (by have := hv.length; omega), fun t o ht ho => ?_⟩
  exact pq_of R1 e1 e2 q _ _ _ (Grow.new (o := .frz o (.tup vs)) R1.kept.ex ht) (.tup upd_same ho (hv.mono (.new (R1.kept.ex.free ht))))
theorem snd_lst (h : SndFs Γ es a p) (he : es.all plainE = true) : SndE Γ (.List es pos) (dLst a) p := by
  intro X Φ B F H ρ σ Q W C hK T R hq
  refine PE.w (pe_lst (pa_ws he)) ?_
  refine h X Φ B F H ρ σ _ W C hK T R (wp_mono (wp_bind (c := a Φ ρ) hq) (fun x q vs F1 H1 R1 e1 e2 hv => ?_) fun _ q => q)
  obtain ⟨hl, q⟩ := wp_guard q
  have hl := of_decide_eq_true hl
  refine ⟨le_line (by have := hv.length; omega), fun t ht => ?_⟩
  exact pq_of R1 e1 e2 q _ _ ht hv
end

/-! ### where an operation stands in the text -/
def rr2 (r : R2) : List V → Hp → VK → Prop := fun vs H Q => ∃ x y, vs = [x, y] ∧ r x y H Q
def rr1 (r : V → Hp → VK → Prop) : List V → Hp → VK → Prop := fun vs H Q => ∃ x, vs = [x] ∧ r x H Q
def rrm (r : V → List V → Hp → VK → Prop) : List V → Hp → VK → Prop := fun vs H Q => ∃ x xs, vs = x :: xs ∧ r x xs H Q
section
variable {Γ : Ctx} {f : Prim} {d : DenOs} {p : Bool} {pos apos ppos : Pos} {a b c : Expr} {es : List Expr}
theorem ops_run {r : PySem.W.Frag → List V → Hp → VK → Prop} {X : Cx} {Φ : Calls} {B : Bd} {F H : Hp} {ρ : Env} {σ : St} {Q : VK} {W : WX} (hr : ∀ K, Rule K (r K) f) (h : SndOs Γ es d p) (C : CtxOk Γ Φ X) (hK : B.K = X.K) (T : L2N.Takes X W) (R : Rel B F H ρ σ)
    (hq : (dP f d Φ ρ).wp (EvP B F H σ p Q) (ExP X B F σ W)) : wEs X es σ H fun vs H' => r X.K vs H' Q := by
  refine h X Φ B F H ρ σ _ W C hK T R (wp_mono (wp_bind (c := d Φ ρ) hq) (fun x q vs F1 H1 R1 e1 e2 hv => ?_) fun _ q => q)
  rw [← hK]
  cases g : f x.1 with
  | some s =>
    rw [g] at q
    exact hr B.K F1 H1 x.1 vs Q s R1.kept.ex hv g (pq_of R1 e1 e2 q)
  | none => rw [g] at q; exact q.elim
theorem two_w {X : Cx} {r : R2} {σ : St} {H : Hp} {Q : VK} (h : wEs X [a, b] σ H fun vs H' => rr2 r vs H' Q) : tOp r (wE X a) (wE X b) σ H Q :=
  wE.mono h fun x H1 h1 => wE.mono h1 fun y H2 ⟨x', y', e, q⟩ => by cases e; exact q
theorem snd_bin {op : Operator} {r : PySem.W.Frag → R2} (ho : ∀ (X : Cx), X.calm = true → Room 0 X.A → OpR X (binaryOp op) (r X.K)) (hr : ∀ K, Rule K (rr2 (r K)) f) (h : SndOs Γ [a, b] d p) : SndE Γ (.BinOp a op b pos) (dP f d) p := by
  intro X Φ B F H ρ σ Q W C hK T R hq
  exact PE.w (pe_op (ho X C.calm C.room) pe_w pe_w) (two_w (ops_run (r := fun K => rr2 (r K)) hr h C hK T R hq))
def notSet : Expr → Bool
  | .Set _ _ _ => false
  | _ => true
theorem nomark' {op : CmpOp} {b : Expr} (h : notSet b = true) : behindInMarks op b = false := by
  cases b <;> first | rfl | cases h
/-- one comparison, as a value and as a test -/
theorem snd_cmp {op : CmpOp} {r : PySem.W.Frag → R2} (ho : ∀ (X : Cx), X.calm = true → Room 0 X.A → OpR X (compareOp op) (r X.K)) (hr : ∀ K, Rule K (rr2 (r K)) f) (h : SndOs Γ [a, b] d p) (hb : notSet b = true) : SndE Γ (.Compare a [op] [b] pos) (dP f d) p := by
  intro X Φ B F H ρ σ Q W C hK T R hq
  exact PE.w (pe_cmpR (ho X C.calm C.room) pe_w pe_w (nomark' hb)) (two_w (ops_run (r := fun K => rr2 (r K)) hr h C hK T R hq))
/-- a test from a value, whatever gives it -/
theorem evp_test {B : Bd} {F H : Hp} {σ : St} {p : Bool} {Q : Bool → Hp → Prop} {r : Slot × Env} (h : ∃ b, r.1 = .val (.bool b) ∧ ∀ F' H', Rel B F' H' r.2 σ → Ex F F' → (p = true → Ex H H') → Q b H') : EvP B F H σ p (fun x H' => ∃ k, x = .bl k ∧ Q k H') r := by
  obtain ⟨b, e, q⟩ := h
  intro v F' H' R e1 e2 hr
  rw [e] at hr
  cases (show Rp B.K F' (.bool b) v from hr)
  exact ⟨b, rfl, q F' H' R e1 e2⟩
theorem snd_cmpT {op : CmpOp} {r : PySem.W.Frag → R2} (ho : ∀ (X : Cx), X.calm = true → Room 0 X.A → OpR X (compareOp op) (r X.K)) (hr : ∀ K, Rule K (rr2 (r K)) f) (h : SndOs Γ [a, b] d p) (hb : notSet b = true) : SndT Γ (.Compare a [op] [b] pos) (dP f d) p := by
  intro X Φ B F H ρ σ Q W C hK T R hq
  refine PT.w (pt_cmpR (ho X C.calm C.room) pe_w pe_w (nomark' hb)) ?_
  exact two_w (ops_run (r := fun K => rr2 (r K)) hr h C hK T R (wp_mono hq (fun _ z => evp_test z) fun _ z => z))
/-- forms whose test is the truth of their value -/
def plainT : Expr → Bool
  | .UnaryOp .Not _ _ => false
  | .BoolOp _ _ _ => false
  | .IfExp _ _ _ _ => false
  | .Compare _ _ _ _ => false
  | _ => true
theorem plainT_eq {e : Expr} {env : PySem.Env} (h : plainT e = true) (whole : Sem Value) : isTrue e env whole = (do let v ← whole; standAt e.pos; holding [v] (truthy v)) := by
  cases e with
  | UnaryOp op x p => cases op <;> first | rfl | cases h
  | BoolOp op x p => cases h
  | IfExp op x p => cases h
  | Compare op x p => cases h
  | _ => rfl
theorem snd_plainT {e : Expr} {d : Den} (h : SndE Γ e d p) (he : plainT e = true) : SndT Γ e d p := by
  intro X Φ B F H ρ σ Q W C hK T R hq
  refine PT.w (pt_val pe_w (plainT_eq he)) ?_
  exact h X Φ B F H ρ σ _ W C hK T R (wp_mono hq (fun _ z => evp_test z) fun _ z => z)

/-! ### and, or, not -/
def dNot (d : Den) : Den := fun Φ ρ => (d Φ ρ).bind fun x => match x.1 with
  | .val (.bool b) => .ok (.val (.bool !b), x.2)
  | _ => .stuck
def dAnd (d e : Den) : Den := fun Φ ρ => (d Φ ρ).bind fun x => match x.1 with
  | .val (.bool true) => e Φ x.2
  | .val (.bool false) => .ok (.val (.bool false), x.2)
  | _ => .stuck
def dOr (d e : Den) : Den := fun Φ ρ => (d Φ ρ).bind fun x => match x.1 with
  | .val (.bool true) => .ok (.val (.bool true), x.2)
  | .val (.bool false) => e Φ x.2
  | _ => .stuck
/-- t's outcome is a truth -/
theorem snd_not {d : Den} (h : SndE Γ a d p) : SndE Γ (.UnaryOp .Not a pos) (dNot d) p := by
  intro X Φ B F H ρ σ Q W C hK T R hq
  refine PE.w (pe_not pe_w) ?_
  refine h X Φ B F H ρ σ _ W C hK T R (wp_mono (wp_bind (c := d Φ ρ) hq) (fun x q v F1 H1 R1 e1 e2 hv => ?_) fun _ q => q)
  obtain ⟨s, ρ1⟩ := x
  cases s with
  | val y =>
    cases y with
    | bool b =>
      cases (show Rp B.K F1 (.bool b) v from hv)
      exact ⟨b, rfl, q _ F1 H1 R1 e1 e2 (Rp.bl _)⟩
    | _ => exact q.elim
  | _ => exact q.elim
theorem snd_notT {d : Den} (h : SndT Γ a d p) : SndT Γ (.UnaryOp .Not a pos) (dNot d) p := by
  intro X Φ B F H ρ σ Q W C hK T R hq
  refine PT.w (pt_not pt_w) ?_
  refine h X Φ B F H ρ σ _ W C hK T R (wp_mono (wp_bind (c := d Φ ρ) hq) (fun x q => ?_) fun _ q => q)
  obtain ⟨s, ρ1⟩ := x
  cases s with
  | val y =>
    cases y with
    | bool b =>
      obtain ⟨b', e, q⟩ := q
      cases e
      exact ⟨b, rfl, q⟩
    | _ => exact q.elim
  | _ => exact q.elim
theorem snd_one {op : BoolOp} {d : Den} (h : SndE Γ a d p) : SndE Γ (.BoolOp op [a] pos) d p := by
  intro X Φ B F H ρ σ Q W C hK T R hq
  exact PE.w (pe_one pe_w) (h X Φ B F H ρ σ Q W C hK T R hq)
theorem snd_and {d e : Den} {p' : Bool} (h : SndE Γ a d p) (h' : SndE Γ (.BoolOp .And (b :: es) pos) e p') : SndE Γ (.BoolOp .And (a :: b :: es) pos) (dAnd d e) (p && p') := by
  intro X Φ B F H ρ σ Q W C hK T R hq
  refine PE.w (pe_and pe_w pe_w) ?_
  refine h X Φ B F H ρ σ _ W C hK T R (wp_mono (wp_bind (c := d Φ ρ) hq) (fun x q v F1 H1 R1 e1 e2 hv => ?_) fun _ q => q)
  obtain ⟨s, ρ1⟩ := x
  cases s with
  | val y =>
    cases y with
    | bool c =>
      cases (show Rp B.K F1 (.bool c) v from hv)
      refine ⟨c, rfl, ?_⟩
      cases c with
      | true => exact iteT (h' X Φ B F1 H1 ρ1 σ _ W C hK T R1 (wp_mono q (fun y q' v F2 H2 R2 e3 e4 hv => q' v F2 H2 R2 (e1.trans e3) (fun z => by rw [Bool.and_eq_true] at z; exact (e2 z.1).trans (e4 z.2)) hv) (ExP.mono e1)))
      | false => exact iteF (q _ F1 H1 R1 e1 (fun z => by rw [Bool.and_eq_true] at z; exact e2 z.1) (Rp.bl _))
    | _ => exact q.elim
  | _ => exact q.elim
theorem w_of_pt {X : Cx} {op : BoolOp} : PW X (.BoolOp op es pos) (wT X (.BoolOp op es pos)) := ⟨fun wh pins s σ H Q I h => h pins s I⟩
theorem snd_oneT {op : BoolOp} {d : Den} (h : SndT Γ a d p) : SndT Γ (.BoolOp op [a] pos) d p := by
  intro X Φ B F H ρ σ Q W C hK T R hq
  cases op with
  | And => exact PT.w (PW.pt (pw_and1 pt_w)) (h X Φ B F H ρ σ Q W C hK T R hq)
  | Or => exact PT.w (PW.pt (pw_or1 pt_w)) (h X Φ B F H ρ σ Q W C hK T R hq)
theorem snd_andT {d e : Den} {p' : Bool} (h : SndT Γ a d p) (h' : SndT Γ (.BoolOp .And (b :: es) pos) e p') : SndT Γ (.BoolOp .And (a :: b :: es) pos) (dAnd d e) (p && p') := by
  intro X Φ B F H ρ σ Q W C hK T R hq
  refine PT.w (PW.pt (pw_and pt_w w_of_pt)) ?_
  refine h X Φ B F H ρ σ _ W C hK T R (wp_mono (wp_bind (c := d Φ ρ) hq) (fun x q => ?_) fun _ q => q)
  obtain ⟨s, ρ1⟩ := x
  cases s with
  | val y =>
    cases y with
    | bool c =>
      refine ⟨c, rfl, fun F1 H1 R1 e1 e2 => ?_⟩
      cases c with
      | true =>
        exact iteT (h' X Φ B F1 H1 ρ1 σ _ W C hK T R1 (wp_mono q (fun y ⟨c, e, q'⟩ => ⟨c, e, fun F2 H2 R2 e3 e4 => q' F2 H2 R2 (e1.trans e3) fun z => by rw [Bool.and_eq_true] at z; exact (e2 z.1).trans (e4 z.2)⟩) (ExP.mono e1)))
      | false =>
        obtain ⟨c, e, q⟩ := q
        cases e
        exact iteF (q F1 H1 R1 e1 fun z => by rw [Bool.and_eq_true] at z; exact e2 z.1)
    | _ => exact q.elim
  | _ => exact q.elim
theorem snd_orT {d e : Den} {p' : Bool} (h : SndT Γ a d p) (h' : SndT Γ (.BoolOp .Or (b :: es) pos) e p') : SndT Γ (.BoolOp .Or (a :: b :: es) pos) (dOr d e) (p && p') := by
  intro X Φ B F H ρ σ Q W C hK T R hq
  refine PT.w (PW.pt (pw_or pt_w w_of_pt)) ?_
  refine h X Φ B F H ρ σ _ W C hK T R (wp_mono (wp_bind (c := d Φ ρ) hq) (fun x q => ?_) fun _ q => q)
  obtain ⟨s, ρ1⟩ := x
  cases s with
  | val y =>
    cases y with
    | bool c =>
      refine ⟨c, rfl, fun F1 H1 R1 e1 e2 => ?_⟩
      cases c with
      | false =>
        exact iteF (h' X Φ B F1 H1 ρ1 σ _ W C hK T R1 (wp_mono q (fun y ⟨c, e, q'⟩ => ⟨c, e, fun F2 H2 R2 e3 e4 => q' F2 H2 R2 (e1.trans e3) fun z => by rw [Bool.and_eq_true] at z; exact (e2 z.1).trans (e4 z.2)⟩) (ExP.mono e1)))
      | true =>
        obtain ⟨c, e, q⟩ := q
        cases e
        exact iteT (q F1 H1 R1 e1 fun z => by rw [Bool.and_eq_true] at z; exact e2 z.1)
    | _ => exact q.elim
  | _ => exact q.elim
/-- a if t else b -/
def dIf (t a b : Den) : Den := fun Φ ρ => (t Φ ρ).bind fun x => match x.1 with
  | .val (.bool true) => a Φ x.2
  | .val (.bool false) => b Φ x.2
  | _ => .stuck
end
end Dn

/-! Den3: subscripts, slices, chains, built-in calls, methods, isinstance, calls of defs. -/
namespace Dn
open PySem PySem.Spec L2
open PyProof.Rows hiding St

/-! ### what an operand can be -/
section
variable {K : PySem.W.Frag} {F H : Hp} {v : V}
theorem ownIs_no {a : Addr} {o : HO} {s : Slot} {d : PyData} (h : OwnIs K F a o s) (e : s.ice = .val d) : (∃ ds vs, s = .own ds ∧ d = .list ds ∧ o = .lst vs ∧ RpAll K F ds vs) ∨ (∃ t es, s = .odc t es ∧ d = .dict es) := by
  cases s with
  | own ds => obtain ⟨vs, h1, h2⟩ := h; cases e; exact .inl ⟨ds, vs, rfl, rfl, h1, h2⟩
  | odc t es =>
    cases t with
    | true => cases e
    | false => cases e; exact .inr ⟨false, es, rfl, rfl⟩
  | obj _ _ => cases e
  | un => exact h.elim
  | val d => exact h.elim
  | scr ns => exact h.elim
theorem Bp.non (b : Bp K F H .none v) : v = .non := by
  rcases b with b | ⟨a, o, s, h1, h2, h3, h4⟩
  · cases b; rfl
  · rcases ownIs_no h3 h4 with ⟨_, _, _, z, _⟩ | ⟨_, _, _, z⟩ <;> cases z
theorem Bp.bool {k : Bool} (b : Bp K F H (.bool k) v) : v = .bl k := by
  rcases b with b | ⟨a, o, s, h1, h2, h3, h4⟩
  · cases b; rfl
  · rcases ownIs_no h3 h4 with ⟨_, _, _, z, _⟩ | ⟨_, _, _, z⟩ <;> cases z
theorem Bp.int {k : Int} (b : Bp K F H (.int k) v) : v = .int k := by
  rcases b with b | ⟨a, o, s, h1, h2, h3, h4⟩
  · cases b; rfl
  · rcases ownIs_no h3 h4 with ⟨_, _, _, z, _⟩ | ⟨_, _, _, z⟩ <;> cases z
theorem Bp.str {k : Str} (b : Bp K F H (.str k) v) : v = .str k := by
  rcases b with b | ⟨a, o, s, h1, h2, h3, h4⟩
  · cases b; rfl
  · rcases ownIs_no h3 h4 with ⟨_, _, _, z, _⟩ | ⟨_, _, _, z⟩ <;> cases z
theorem Bp.lst {ds : List PyData} (e : Ex F H) (b : Bp K F H (.list ds) v) : ∃ a vs, v = .ref a ∧ H a = some (.lst vs) ∧ RpAll K F ds vs := by
  rcases b with b | ⟨a, o, s, h1, h2, h3, h4⟩
  · cases b with
    | lst h1 h2 => exact ⟨_, _, rfl, e _ _ h1, h2⟩
  · rcases ownIs_no h3 h4 with ⟨_, vs, _, z, z2, z3⟩ | ⟨_, _, _, z⟩
    · cases z; subst z2; exact ⟨a, vs, h1, h2, z3⟩
    · cases z
theorem Bp.tup {ds : List PyData} (b : Bp K F H (.tuple ds) v) : ∃ a o vs, v = .ref a ∧ F a = some (.frz o (.tup vs)) ∧ o.dict = none ∧ RpAll K F ds vs := by
  rcases b with b | ⟨a, o, s, h1, h2, h3, h4⟩
  · cases b with
    | tup h1 h2 h3 => exact ⟨_, _, _, rfl, h1, h2, h3⟩
  · rcases ownIs_no h3 h4 with ⟨_, vs, _, z, z2, z3⟩ | ⟨_, _, _, z⟩ <;> cases z
theorem Bp.rp {d : PyData} (b : Bp K F H d v) (e : Ex F H) : Rp K H d v := by
  rcases b with b | ⟨a, o, s, rfl, h2, h3, h4⟩
  · exact Rp.mono e _ _ b
  · cases s with
    | own ds => obtain ⟨vs, z1, z2⟩ := h3; cases h4; subst z1; exact .lst h2 (z2.mono e)
    | odc t es =>
      cases t with
      | false => obtain ⟨vs, z1, z2⟩ := h3; cases h4; subst z1; exact .dK h2 (z2.mono e)
      | true => cases h4
    | obj _ _ => cases h4
    | un => exact h3.elim
    | val d => exact h3.elim
    | scr ns => exact h3.elim
theorem BpAll.one {d : PyData} {vs : List V} (h : BpAll K F H [d] vs) : ∃ v, vs = [v] ∧ Bp K F H d v := by
  cases h with
  | cons h1 h2 => cases h2; exact ⟨_, rfl, h1⟩
theorem BpAll.two {d e : PyData} {vs : List V} (h : BpAll K F H [d, e] vs) : ∃ v w, vs = [v, w] ∧ Bp K F H d v ∧ Bp K F H e w := by
  cases h with
  | cons h1 h2 =>
    obtain ⟨w, rfl, h3⟩ := h2.one
    exact ⟨_, w, rfl, h1, h3⟩
end

section
variable {Γ : Ctx} {f : Prim} {d : DenOs} {p : Bool} {pos apos ppos : Pos} {a b c : Expr} {es : List Expr}
/-! ### subscripts -/
def notSlice : Expr → Bool
  | .Slice _ _ _ _ => false
  | _ => true
theorem plainIx {b : Expr} (h : notSlice b = true) : PlainIx b := by
  intro o i
  cases b <;> first | rfl | cases h
theorem snd_ix {r : PySem.W.Frag → R2} (ho : ∀ (X : Cx), IxR X (r X.K)) (hr : ∀ K, Rule K (rr2 (r K)) f) (h : SndOs Γ [a, b] d p) (hb : notSlice b = true) : SndE Γ (.Subscript a b pos) (dP f d) p := by
  intro X Φ B F H ρ σ Q W C hK T R hq
  exact PE.w (pe_ix (ho X) pe_w pe_w (plainIx hb)) (two_w (ops_run (r := fun K => rr2 (r K)) hr h C hK T R hq))
/-- an item of the script -/
def dScrAt (i : Nat) (e : DenO) : Den := fun Φ ρ => match ρ[i]? with
  | some (.scr ns) => (e Φ ρ).bind fun x => match x.1 with
    | .int k => (opt (atI ns k)).bind fun n => .ok (.val (.int n), x.2)
    | _ => .stuck
  | _ => .stuck
theorem snd_scrAt {i : Nat} {x : Str} {xpos : Pos} {e : DenO} {m : Bool} (hN : Γ.N[i]? = some x) (hv : visB Γ.sc x = true) (hx : okName x = true) (h : SndO Γ b e p m) (hb : notSlice b = true) : SndE Γ (.Subscript (.Name x xpos) b pos) (dScrAt i e) p := by
  intro X Φ B F H ρ σ Q W C hK T R hq
  have P : PE X (.Name x xpos) (tVar i) := pe_var (by rw [C.nm]; exact hN) (by rw [C.sc]; exact vis_of hv) (okName_d hx) (okName_c hx)
  unfold dScrAt at hq
  cases e1 : ρ[i]? with
  | none => rw [e1] at hq; exact hq.elim
  | some s =>
    rw [e1] at hq
    cases s with
    | scr ns =>
      obtain ⟨l, e2, e3⟩ := R.sl.scr i ns e1
      refine PE.w (pe_ix ix_list P pe_w (plainIx hb)) ⟨_, e2, ?_⟩
      refine h X Φ B F H ρ σ _ W C hK T R (wp_mono (wp_bind (c := e Φ ρ) hq) (fun y q v F1 H1 R1 g1 g2 hv => ?_) fun _ q => q)
      obtain ⟨y, ρ1⟩ := y
      cases y with
      | int k =>
        have ev : v = .int k := hv.bp.int
        subst ev
        replace q : ((opt (atI ns k)).bind fun n => Out.ok (Slot.val (PyData.int n), ρ1)).wp (EvP B F H σ p Q) (ExP X B F σ W) := q
        cases g : atI ns k with
        | none => rw [g] at q; exact q.elim
        | some n =>
          rw [g] at q
          refine ⟨l, _, k, .int n, rfl, rfl, R1.kept.ex.sqL (g1.sqL (hK ▸ e3)), ?_, q _ F1 H1 R1 g1 g2 (Rp.int n)⟩
          unfold atI at g ⊢
          rw [List.length_map]
          cases z : ixN ns.length k with
          | none => rw [z] at g; cases g
          | some j =>
            rw [z] at g
            show (ns.map V.int)[j]? = _
            rw [List.getElem?_map, show ns[j]? = some n from g]
            rfl
      | _ => exact q.elim
    | _ => exact hq.elim
/-- the script's length -/
def dScrLen (i : Nat) : Den := fun _ ρ => match ρ[i]? with
  | some (.scr ns) => .ok (.val (.int ns.length), ρ)
  | _ => .stuck
theorem snd_scrLen {i : Nat} {x : Str} {xpos fpos : Pos} (hN : Γ.N[i]? = some x) (hv : visB Γ.sc x = true) (hx : okName x = true) (hg : Γ.sc.names.lookup ("len" : Str) = some .globalImplicit) (hf : ("len" : Str) ∈ Γ.blts) :
    SndE Γ (.Call (.Name "len" fpos) [.Name x xpos] [] pos) (dScrLen i) true := by
  intro X Φ B F H ρ σ Q W C hK T R hq
  have P : PE X (.Name x xpos) (tVar i) := pe_var (by rw [C.nm]; exact hN) (by rw [C.sc]; exact vis_of hv) (okName_d hx) (okName_c hx)
  unfold dScrLen at hq
  cases e1 : ρ[i]? with
  | none => rw [e1] at hq; exact hq.elim
  | some s =>
    rw [e1] at hq
    cases s with
    | scr ns =>
      obtain ⟨l, e2, e3⟩ := R.sl.scr i ns e1
      refine PE.w (pe_callB call_len_seq (by show X.env.scope.names.lookup ("len" : Str) = _; rw [C.sc]; exact hg) (C.blt _ hf) PySem.boot_len (pa_cons P pa_nil)) ⟨_, e2, l, _, rfl, .inl (R.kept.ex.sqL (hK ▸ e3)), ?_⟩
      have := hq (.int (ns.map V.int).length) F H R (.refl F) (fun _ => .refl H) (by rw [List.length_map]; exact Rp.int _)
      exact this
    | _ => exact hq.elim
/-! ### slices -/
def oPart (d : Option DenO) : Calls → Env → Out (Option Int × Env) := fun Φ ρ => match d with
  | none => .ok (none, ρ)
  | some d => (d Φ ρ).bind fun x => match x.1 with
    | .int k => .ok (some k, x.2)
    | _ => .stuck
def tO (X : Cx) : Option Expr → TO
  | none => tNoPart
  | some e => tPart (wE X e)
def SndP (Γ : Ctx) (e : Option Expr) (d : Option DenO) (p : Bool) : Prop := ∀ (X : Cx) (Φ : Calls) (B : Bd) (F H : Hp) (ρ : Env) (σ : St) (Q : Option Int → Hp → Prop) (W : WX), CtxOk Γ Φ X → B.K = X.K → L2N.Takes X W → Rel B F H ρ σ →
  (oPart d Φ ρ).wp (fun r => ∀ F' H', Rel B F' H' r.2 σ → Ex F F' → (p = true → Ex H H') → Q r.1 H') (ExP X B F σ W) → tO X e σ H Q
def dSl (f : PyData → Option Int → Option Int → Option Slot) (a : DenO) (lo hi : Option DenO) : Den := fun Φ ρ => (a Φ ρ).bind fun x => (oPart lo Φ x.2).bind fun l => (oPart hi Φ l.2).bind fun u => (opt (f x.1 l.1 u.1)).bind fun s => .ok (s, u.2)
def RuleS (K : PySem.W.Frag) (r : V → Option Int → Option Int → Hp → VK → Prop) (f : PyData → Option Int → Option Int → Option Slot) : Prop := ∀ (F H : Hp) (x : PyData) (v : V) (l u : Option Int) (Q : VK) (s : Slot), Ex F H → Bp K F H x v → f x l u = some s → PQ K F H Q s → r v l u H Q
/-! ### a < b < c, whole numbers -/
def dCh (f g : Int → Int → Bool) (a b c : DenO) : Den := fun Φ ρ => (a Φ ρ).bind fun x => (b Φ x.2).bind fun y => match x.1, y.1 with
  | .int i, .int j => if f i j then (c Φ y.2).bind fun z => match z.1 with
      | .int k => .ok (.val (.bool (g j k)), z.2)
      | _ => .stuck
    else .ok (.val (.bool false), y.2)
  | _, _ => .stuck
def IntCmp (op : CmpOp) (f : Int → Int → Bool) : Prop := ∀ X : Cx, OpR X (compareOp op) (rI0 fun i j => .bl (f i j))
theorem lastM {op op' : CmpOp} {b c : Expr} (h : notSet c = true) : lastMarks [op, op'] [b, c] = false := nomark' (op := op') h
theorem ch_run {op op' : CmpOp} {f g : Int → Int → Bool} {x y z : DenO} {m1 m2 m3 p1 p2 p3 : Bool} {X : Cx} {Φ : Calls} {B : Bd} {F H : Hp} {ρ : Env} {σ : St} {Q : VK} {W : WX}
    (ha : SndO Γ a x p1 m1) (hb : SndO Γ b y p2 m2) (hc : SndO Γ c z p3 m3) (C : CtxOk Γ Φ X) (hK : B.K = X.K) (T : L2N.Takes X W) (R : Rel B F H ρ σ) (hq : (dCh f g x y z Φ ρ).wp (EvP B F H σ (p1 && (p2 && p3)) Q) (ExP X B F σ W)) :
    tChain (rI0 fun i j => .bl (f i j)) (rI0 fun i j => .bl (g i j)) (wE X a) (wE X b) (wE X c) σ H Q := by
  refine ha X Φ B F H ρ σ _ W C hK T R (wp_mono (wp_bind (c := x Φ ρ) hq) (fun u q v F1 H1 R1 e1 e2 hv => ?_) fun _ q => q)
  refine hb X Φ B F1 H1 u.2 σ _ W C hK T R1 (wp_mono (wp_bind (c := y Φ u.2) q) (fun u' q w F2 H2 R2 e3 e4 hw => ?_) (ExP.mono e1))
  obtain ⟨u, ρ1⟩ := u
  obtain ⟨u', ρ2⟩ := u'
  cases u with
  | int i =>
    cases u' with
    | int j =>
      have q : (if f i j then (z Φ ρ2).bind fun z => match z.1 with
        | .int k => .ok (.val (.bool (g j k)), z.2)
        | _ => .stuck
       else .ok (.val (.bool false), ρ2) : Out (Slot × Env)).wp (EvP B F H σ (p1 && (p2 && p3)) Q) (ExP X B F σ W) := q
      refine ⟨i, j, hv.bp.int, hw.bp.int, _, rfl, ?_⟩
      cases k : f i j with
      | true =>
        rw [k, if_pos rfl] at q
        refine iteT (hc X Φ B F2 H2 ρ2 σ _ W C hK T R2 (wp_mono (wp_bind (c := z Φ ρ2) q) (fun s q w' F3 H3 R3 e5 e6 hw' => ?_) (ExP.mono (e1.trans e3))))
        obtain ⟨s, ρ3⟩ := s
        cases s with
        | int l =>
          refine ⟨j, l, hw.bp.int, hw'.bp.int, q _ F3 H3 R3 ((e1.trans e3).trans e5) (fun h => ?_) (Rp.bl _)⟩
          simp only [Bool.and_eq_true] at h
          exact ((e2 h.1).trans (e4 h.2.1)).trans (e6 h.2.2)
        | _ => exact q.elim
      | false =>
        rw [k, if_neg Bool.false_ne_true] at q
        refine iteF (q _ F2 H2 R2 (e1.trans e3) (fun h => ?_) (Rp.bl _))
        simp only [Bool.and_eq_true] at h
        exact (e2 h.1).trans (e4 h.2.1)
    | _ => exact q.elim
  | _ => exact q.elim
theorem snd_chain {op op' : CmpOp} {f g : Int → Int → Bool} {x y z : DenO} {m1 m2 m3 p1 p2 p3 : Bool} (ho : IntCmp op f) (ho' : IntCmp op' g) (ha : SndO Γ a x p1 m1) (hb : SndO Γ b y p2 m2) (hc : SndO Γ c z p3 m3) (hs : notSet c = true) : SndE Γ (.Compare a [op, op'] [b, c] pos) (dCh f g x y z) (p1 && (p2 && p3)) := by
  intro X Φ B F H ρ σ Q W C hK T R hq
  exact PE.w (pe_chain (ho X) (ho' X) pe_w pe_w pe_w (lastM hs)) (ch_run (op := op) (op' := op') ha hb hc C hK T R hq)
theorem snd_chainT {op op' : CmpOp} {f g : Int → Int → Bool} {x y z : DenO} {m1 m2 m3 p1 p2 p3 : Bool} (ho : IntCmp op f) (ho' : IntCmp op' g) (ha : SndO Γ a x p1 m1) (hb : SndO Γ b y p2 m2) (hc : SndO Γ c z p3 m3) (hs : notSet c = true) : SndT Γ (.Compare a [op, op'] [b, c] pos) (dCh f g x y z) (p1 && (p2 && p3)) := by
  intro X Φ B F H ρ σ Q W C hK T R hq
  refine PT.w (pt_chain (ho X) (ho' X) pe_w pe_w pe_w (lastM hs)) ?_
  exact ch_run (op := op) (op' := op') ha hb hc C hK T R (wp_mono hq (fun _ z => evp_test z) fun _ z => z)
/-! ### built-ins by their names -/
theorem gl_of {X : Cx} {Φ : Calls} {x : Str} (C : CtxOk Γ Φ X) (hg : Γ.sc.names.lookup x = some .globalImplicit) : Gl X x := by
  show X.env.scope.names.lookup x = _
  rw [C.sc]
  exact hg
theorem snd_callB {id : String} {x : Str} {fpos : Pos} {r : PySem.W.Frag → List V → Hp → VK → Prop} (ho : ∀ (X : Cx), X.calm = true → Room 0 X.A → CallR X (.builtin id) (r X.K)) (hr : ∀ K, Rule K (r K) f) (hv : bootBuiltins x = some (.builtin id)) (h : SndOs Γ (a :: es) d p)
    (he : (a :: es).all plainE = true) (hg : Γ.sc.names.lookup x = some .globalImplicit) (hf : x ∈ Γ.blts) (hx : okName x = true) : SndE Γ (.Call (.Name x fpos) (a :: es) [] pos) (dP f d) p := by
  intro X Φ B F H ρ σ Q W C hK T R hq
  have he' := he
  rw [List.all_cons, Bool.and_eq_true] at he'
  exact PE.w (pe_callB (ho X C.calm C.room) (gl_of C hg) (C.blt _ hf) hv (pa_ws he) (okName_n hx) (okName_d hx) (star_of he'.1) (plain_any he'.2)) (ops_run (r := r) hr h C hK T R hq)
theorem snd_callTy {id : String} {x : Str} {fpos : Pos} {r : PySem.W.Frag → List V → Hp → VK → Prop} (ho : ∀ (X : Cx), X.calm = true → Room 0 X.A → CallR X (.type id) (r X.K)) (hr : ∀ K, Rule K (r K) f) (hv : bootBuiltins x = some (.type id)) (h : SndOs Γ (a :: es) d p)
    (he : (a :: es).all plainE = true) (hg : Γ.sc.names.lookup x = some .globalImplicit) (hf : x ∈ Γ.blts) (hx : okName x = true) : SndE Γ (.Call (.Name x fpos) (a :: es) [] pos) (dP f d) p := by
  intro X Φ B F H ρ σ Q W C hK T R hq
  have he' := he
  rw [List.all_cons, Bool.and_eq_true] at he'
  exact PE.w (pe_callTy (ho X C.calm C.room) (gl_of C hg) (C.blt _ hf) hv (pa_ws he) (okName_n hx) (okName_d hx) (star_of he'.1) (plain_any he'.2)) (ops_run (r := r) hr h C hK T R hq)
/-- isinstance(e, T) -/
def isT (T : String) : PyData → Bool
  | .none => T == "NoneType"
  | .bool _ => T == "bool" || T == "int"
  | .int _ => T == "int"
  | .str _ => T == "str"
  | .list _ => T == "list"
  | .tuple _ => T == "tuple"
  | .dict _ => T == "dict"
def pIs (T : String) : Prim
  | [x] => some (.val (.bool (isT T x)))
  | _ => none
/-- the type of a value, by what it is -/
def tyD : PyData → String
  | .none => "NoneType"
  | .bool _ => "bool"
  | .int _ => "int"
  | .str _ => "str"
  | .list _ => "list"
  | .tuple _ => "tuple"
  | .dict _ => "dict"
theorem tyX_of {K : PySem.W.Frag} {F H : Hp} {x : PyData} {v : V} (e : Ex F H) (h : Bp K F H x v) : TyX K H v (.type (tyD x)) := by
  have r := h.rp e
  cases x with
  | none => cases r; exact .base .non
  | bool b => cases r; exact .base (.bl b)
  | int i => cases r; exact .base (.int i)
  | str s => cases r; exact .base (.str s)
  | list ds => cases r with | lst h1 _ => exact .base (.lst h1)
  | tuple ds =>
    cases r with
    | tup h1 _ _ => exact .fTuple h1
  | dict es =>
    cases r with
    | dK h1 _ => exact .base (.dK h1)
    | dT h1 _ => exact .fDict h1
def isTs : List String := ["int", "bool", "str", "list", "tuple"]
theorem kit_all : (["NoneType", "bool", "int", "str", "list", "tuple", "dict"] : List String).all (fun a => isTs.all fun b => kitB a b == some (if a == "bool" then b == "bool" || b == "int" else b == a)) = true := by decide +kernel
theorem kit_is {K : PySem.W.Frag} {T : String} (hT : T ∈ isTs) (x : PyData) : PySem.W.kitOne K (.type (tyD x)) (.type T) = some (isT T x) := by
  refine kit_ty ?_
  have h := List.all_eq_true.mp kit_all
  have g : ∀ a ∈ (["NoneType", "bool", "int", "str", "list", "tuple", "dict"] : List String), kitB a T = some (if a == "bool" then T == "bool" || T == "int" else T == a) := fun a ha =>
    beq_iff_eq.mp (List.all_eq_true.mp (h a ha) T hT)
  cases x with
  | none => rw [show tyD .none = "NoneType" from rfl, g _ (by simp)]; rw [show isT T .none = (T == "NoneType") from rfl]; rfl
  | bool b => rw [show tyD (.bool b) = "bool" from rfl, g _ (by simp)]; rfl
  | int b => rw [show tyD (.int b) = "int" from rfl, g _ (by simp)]; rw [show isT T (.int b) = (T == "int") from rfl]; rfl
  | str b => rw [show tyD (.str b) = "str" from rfl, g _ (by simp)]; rw [show isT T (.str b) = (T == "str") from rfl]; rfl
  | list b => rw [show tyD (.list b) = "list" from rfl, g _ (by simp)]; rw [show isT T (.list b) = (T == "list") from rfl]; rfl
  | tuple b => rw [show tyD (.tuple b) = "tuple" from rfl, g _ (by simp)]; rw [show isT T (.tuple b) = (T == "tuple") from rfl]; rfl
  | dict b => rw [show tyD (.dict b) = "dict" from rfl, g _ (by simp)]; rw [show isT T (.dict b) = (T == "dict") from rfl]; rfl
theorem boot_isinstance' : bootBuiltins "isinstance" = some (.builtin "isinstance") := by decide +kernel
theorem snd_isi {T : String} {x : Str} {fpos tpos : Pos} (hT : T ∈ isTs) (hv : bootBuiltins x = some (.type T)) (h : SndOs Γ [a] d p)
    (he : plainE a = true) (hg : Γ.sc.names.lookup ("isinstance" : Str) = some .globalImplicit) (hf : ("isinstance" : Str) ∈ Γ.blts) (hg2 : Γ.sc.names.lookup x = some .globalImplicit) (hf2 : x ∈ Γ.blts) (hx : okName x = true) :
    SndE Γ (.Call (.Name "isinstance" fpos) [a, .Name x tpos] [] pos) (dP (pIs T) d) p := by
  intro X Φ B F H ρ σ Q W C hK Tk R hq
  have PT : PE X (.Name x tpos) (tC (.ty T)) := pe_bltn (v := .ty T) (gl_of C hg2) (C.blt _ hf2) hv rfl (okName_n hx) (okName_d hx)
  refine PE.w (pe_callB call_isi (gl_of C hg) (C.blt _ hf) boot_isinstance' (pa_cons pe_w (pa_cons PT pa_nil) (star_of he)) (he := star_of he)) ?_
  have run := ops_run (f := pIs T) (r := fun K vs H Q => ∃ x, vs = [x] ∧ rIsi K [x, .ty T] H Q) (fun K F H ds vs Q s e hb hs q => by
    cases hb with
    | nil => cases hs
    | cons h1 h2 =>
      cases h2 with
      | nil =>
        cases hs
        exact ⟨_, rfl, _, _, _, _, _, rfl, .ty T, tyX_of e h1, kit_is hT _, q _ F H (.refl e) (Rp.bl _)⟩
      | cons _ _ => cases hs) h C hK Tk R hq
  exact wE.mono run fun v H1 ⟨x, e, q⟩ => by cases e; exact q
/-! ### methods that read -/
def notCall : Expr → Bool
  | .Call _ _ _ _ => false
  | _ => true
theorem base_of {o : Expr} {n : Str} {env : PySem.Env} {w : Sem Value} (h : notCall o = true) : attributeBase o n env w = w := by
  unfold attributeBase
  cases o <;> first | rfl | cases h
theorem few_of {cpos : Pos} {env : PySem.Env} {es : List Expr} (h : es.all plainE = true) (hl : es.length < 20) : ((backTo cpos (starEach es env)).all (fun x => !x.1) && (backToKw cpos (keywordEach [] env)).all (fun x => x.1.isSome)
      && decide (es.length + ([] : List Keyword).length + (if ([] : List Keyword).isEmpty then 0 else 1) < 30)) = true := by
  have h1 : (backTo cpos (starEach es env)).all (fun x => !x.1) = true := by
    have z := plain_any (pos := cpos) (env := env) h
    rw [List.any_eq_false] at z
    rw [List.all_eq_true]
    intro x hx
    have := z x hx
    simpa using this
  have h2 : decide (es.length + ([] : List Keyword).length + (if ([] : List Keyword).isEmpty then 0 else 1) < 30) = true := by
    apply decide_eq_true
    show es.length + 0 + 0 < 30
    omega
  rw [h1, h2]
  rfl
/-- the receiver's type, its dict none -/
def tyW (K : PySem.W.Frag) (T : String) (x : V) (H : Hp) : Prop := tyV K T x H ∨ (T = "tuple" ∧ ∃ p o xs, x = .ref p ∧ H p = some (.frz o (.tup xs)) ∧ o.dict = none)
theorem tyW_is {X : Cx} {pins : List (Addr × Obj)} {σ : St} {H : Hp} {s : Shared} {T : String} {x : V} {v : Value} (I : Inv X pins σ H s) (r : RelV x v) (ty : tyW X.K T x H) :
    s.TypeIs v T ∧ ∀ a, v = .ref a → ∃ ob, s.heap.get? a = some ob ∧ ob.dict = none := by
  rcases ty with ty | ⟨rfl, p, o, xs, rfl, h1, h2⟩
  · exact tyV_is I r ty
  · cases r
    obtain ⟨g, _, its, rv, o', g', c, _⟩ := (show ObjOk X.prog X.w H s.heap p (.frz o (.tup xs)) from I.hok p _ h1)
    rw [g] at g'
    cases g'
    exact ⟨⟨o, g, c⟩, fun a e => by cases e; exact ⟨o, g, h2⟩⟩
def tBMW (K : PySem.W.Frag) (T : String) (r : V → List V → Hp → VK → Prop) (to : TE) (t : TA) : TE := fun σ H Q => to σ H fun x H1 => tyW K T x H1 ∧ t σ H1 fun xs H2 => r x xs H2 Q
theorem pe_bmW {X : Cx} {o e : Expr} {to : TE} {t : TA} {name : Str} {cpos : Pos} {T id : String} {r : V → List V → Hp → VK → Prop} (pa : PlainAttrs T) (slot : PySem.Slot T name id) (hty : typeOf (.builtin id) = pure (.type "method_descriptor")) (hm : MtR X id r) (ho : PE X o to) (ha : PA X (e :: es) t)
    (hbase : attributeBase o name X.env (eval o X.env) = eval o X.env)
    (hfew : ((backTo cpos (starEach (e :: es) X.env)).all (fun x => !x.1) && (backToKw cpos (keywordEach [] X.env)).all (fun x => x.1.isSome)
      && decide ((e :: es).length + ([] : List Keyword).length + (if ([] : List Keyword).isEmpty then 0 else 1) < 30)) = true)
    (hline : (apos.endLine == cpos.line) = true) (hs : starEach (e :: es) X.env = (false, eval e X.env) :: starEach es X.env) (hplain : (backTo cpos (starEach es X.env)).any (·.1) = false) :
    PE X (.Call (.Attribute o name apos) (e :: es) [] cpos) (tBMW X.K T r to t) := by
  refine ⟨fun pins s σ H Q I h => ?_⟩
  refine wpAny_Call_method_late hbase hfew hline rfl (thn (ho.run pins s σ H _ I h) fun v s1 ⟨x, H1, I1, r1, ty, q1⟩ => ?_)
  obtain ⟨h1, h2⟩ := tyW_is I1 r1 ty
  refine ⟨T, id, pa, slot, hty, h1, h2, ?_⟩
  have hA := ha.run cpos pins s1 σ H1 _ I1 q1
  rw [hs] at hA ⊢
  refine Calls.callWith_builtin (by show (false || (backTo cpos (starEach es X.env)).any (·.1)) = false; rw [hplain] <;> rfl) (Calls.evalArgs_plain ?_)
  exact thn hA fun us s2 ⟨vs, H2, I2, r2, q2⟩ => hm pins s2 σ H2 x vs v us Q I2 r1 r2 q2
theorem tyW_of {K : PySem.W.Frag} {F H : Hp} {x : PyData} {v : V} {T : String} (e : Ex F H) (h : Bp K F H x v) (ht : tyD x = T) (hn : (["int", "str", "list", "tuple"] : List String).contains T = true) : tyW K T v H := by
  have r := h.rp e
  subst ht
  cases x with
  | none => simp [tyD] at hn
  | bool b => simp [tyD] at hn
  | int i => cases r; exact .inl rfl
  | str s => cases r; exact .inl rfl
  | list ds => cases r with | lst h1 _ => exact .inl (.inl ⟨rfl, _, .inl (.inl h1)⟩)
  | tuple ds => cases r with | tup h1 h2 _ => exact .inr ⟨rfl, _, _, _, rfl, h1, h2⟩
  | dict es => simp [tyD] at hn
/-- o.m(e, ..): a built-in type's method that changes nothing; T the receiver's type -/
def dM (T : String) (f : Prim) (x : DenO) (ds : DenOs) : Den := fun Φ ρ => (x Φ ρ).bind fun o => guard' (tyD o.1 == T) ((ds Φ o.2).bind fun a => (opt (f (o.1 :: a.1))).bind fun s => .ok (s, a.2))
theorem snd_meth {T id : String} {m : Str} {r : PySem.W.Frag → V → List V → Hp → VK → Prop} {x : DenO} {pm : Bool} {p' : Bool} {o : Expr} (pa : PlainAttrs T) (slot : PySem.Slot T m id) (hty : typeOf (.builtin id) = pure (.type "method_descriptor"))
    (ho : ∀ (X : Cx), X.calm = true → Room 0 X.A → MtR X id (r X.K)) (hr : ∀ K, Rule K (rrm (r K)) f) (hT : (["int", "str", "list", "tuple"] : List String).contains T = true) (h1 : SndO Γ o x p pm) (h2 : SndOs Γ (a :: es) d p') (hp : (p' || !pm) = true)
    (he : (a :: es).all plainE = true) (hl : (a :: es).length < 20) (hc : notCall o = true) (hline : (apos.endLine == pos.line) = true) : SndE Γ (.Call (.Attribute o m apos) (a :: es) [] pos) (dM T f x d) (p && p') := by
  intro X Φ B F H ρ σ Q W C hK Tk R hq
  have he' := he
  rw [List.all_cons, Bool.and_eq_true] at he'
  refine PE.w (pe_bmW pa slot hty (ho X C.calm C.room) pe_w (pa_ws he) (base_of hc) (few_of he hl) hline (star_of he'.1) (plain_any he'.2)) ?_
  refine h1 X Φ B F H ρ σ _ W C hK Tk R (wp_mono (wp_bind (c := x Φ ρ) hq) (fun y q v F1 H1 R1 e1 e2 hv => ?_) fun _ q => q)
  obtain ⟨ht, q⟩ := wp_guard q
  refine ⟨tyW_of R1.kept.ex hv.bp (beq_iff_eq.mp ht) hT |> fun z => hK ▸ z, ?_⟩
  refine h2 X Φ B F1 H1 y.2 σ _ W C hK Tk R1 (wp_mono (wp_bind (c := d Φ y.2) q) (fun z q vs F2 H2 R2 e3 e4 hvs => ?_) (ExP.mono e1))
  cases g : f (y.1 :: z.1) with
  | none =>
    replace q : ((opt (f (y.1 :: z.1))).bind fun s => Out.ok (s, z.2)).wp (EvP B F H σ (p && p') Q) (ExP X B F σ W) := q
    rw [g] at q; exact q.elim
  | some s =>
    replace q : ((opt (f (y.1 :: z.1))).bind fun s => Out.ok (s, z.2)).wp (EvP B F H σ (p && p') Q) (ExP X B F σ W) := q
    rw [g] at q
    have := hr B.K F2 H2 (y.1 :: z.1) (v :: vs) Q s R2.kept.ex (.cons (Vp.bp (m := pm) (hv.mono e3 fun hm => ?_)) hvs) g (pq_of R2 (e1.trans e3) (fun hp' => ?_) q)
    · obtain ⟨x', xs', e, q⟩ := this
      cases e
      rw [← hK]
      exact q
    · rw [hm] at hp
      simp only [Bool.not_true, Bool.or_false] at hp
      exact e4 hp
    · simp only [Bool.and_eq_true] at hp'
      exact (e2 hp'.1).trans (e4 hp'.2)

/-! ### calls of defs -/
/-- one argument: where it comes from (a slot that is lent), what it is -/
abbrev DenA := Calls → Env → Out (List (Option Nat × Slot) × Env)
def asNil : DenA := fun _ ρ => .ok ([], ρ)
/-- a name: what it owns is lent -/
def asVar (i : Nat) (r : DenA) : DenA := fun Φ ρ => match ρ[i]? with
  | some (.val d) => (r Φ ρ).bind fun y => .ok ((none, .val d) :: y.1, y.2)
  | some (.scr ns) => (r Φ ρ).bind fun y => .ok ((none, .scr ns) :: y.1, y.2)
  | some (.own ds) => (r Φ (ρ.set i .un)).bind fun y => .ok ((some i, .own ds) :: y.1, y.2)
  | some (.odc t es) => (r Φ (ρ.set i .un)).bind fun y => .ok ((some i, .odc t es) :: y.1, y.2)
  | some (.obj k ds) => (r Φ (ρ.set i .un)).bind fun y => .ok ((some i, .obj k ds) :: y.1, y.2)
  | _ => .stuck
def asExp (d : Den) (r : DenA) : DenA := fun Φ ρ => (d Φ ρ).bind fun x => (r Φ x.2).bind fun y => .ok ((none, x.1) :: y.1, y.2)
/-- lent things come back -/
def giveBack : List (Option Nat × Slot) → List Slot → Env → Env
  | (some i, _) :: as, s :: ss, ρ => giveBack as ss (ρ.set i s)
  | (none, _) :: as, _ :: ss, ρ => giveBack as ss ρ
  | _, _, ρ => ρ
def dCall (x : Str) (n : Nat) (as : DenA) : Den := fun Φ ρ => (as Φ ρ).bind fun y => guard' (y.1.length == n) ((Φ x (y.1.map (·.2))).bind fun r => guard' (r.2.length == n) (.ok (r.1, giveBack y.1 r.2 y.2)))
end
end Dn

/-! Den4: calls of defs. -/
namespace Dn
open PySem PySem.Spec L2
open PyProof.Rows hiding St

/-! ### another ground -/
/-- the addresses that slots own -/
def ownedI (ρ : Env) (σ : St) : Nat → Addr → Prop := fun i a => ∃ t : Slot, ρ[i]? = some t ∧ t.isOwn = true ∧ σ[i]? = some (some (.ref a))
def owned (ρ : Env) (σ : St) : Addr → Prop := fun a => ∃ (i : Nat) (t : Slot), ρ[i]? = some t ∧ t.isOwn = true ∧ σ[i]? = some (some (.ref a))
def Bd.re (B : Bd) (F H : Hp) (ρ : Env) (σ : St) : Bd := ⟨B.K, F, H, ownedI ρ σ, B.vs⟩
section
variable {B : Bd} {F H F' H' : Hp} {ρ ρ' : Env} {σ : St} {L : Nat → Addr → Prop} {us : List V} {X : Cx} {W : WX}
theorem Kept.trans (k : Kept B F H) (k' : Kept ⟨B.K, F, H, L, us⟩ F' H') (hL : ∀ a, (∃ i, L i a) → B.La a ∨ B.H0 a = none) : Kept B F' H' := by
  have no : ∀ {a : Addr}, B.H0 a ≠ none → ¬ B.La a → ¬ ∃ i, L i a := fun {a} h1 h2 h3 => by
    rcases hL a h3 with z | z
    · exact h2 z
    · exact h1 z
  refine ⟨k.ff.trans k'.ff, k'.ex, fun a o h n => k'.keep a o (k.keep a o h n) (no (by rw [h]; exact fun z => by cases z) n), fun a h1 h2 h3 => k'.nof a (k.live a h1) (k.nof a h1 h2 h3) (no h1 h3), fun a h => k'.live a (k.live a h)⟩
theorem Rel.re (k : Rel B F H ρ σ) : Rel (B.re F H ρ σ) F H ρ σ := by
  refine ⟨⟨.refl F, k.kept.ex, fun _ _ h _ => h, fun _ _ h _ => h, fun _ h => h⟩, ⟨k.sl.len, k.sl.val, k.sl.scr, fun i s h hs => ?_, k.sl.par, k.sl.dis⟩⟩
  obtain ⟨a, o, h1, h2, h3, h4, h5⟩ := k.sl.own i s h hs
  exact ⟨a, o, h1, h2, h3, h4, .inl ⟨s, h, hs, h1⟩⟩
theorem Rel.lentI (k : Rel B F H ρ σ) : ∀ i a, ownedI ρ σ i a → B.L i a ∨ B.H0 a = none := fun i a ⟨t, h1, h2, h3⟩ => by
  obtain ⟨b, o, g1, _, _, _, g5⟩ := k.sl.own i t h1 h2
  rw [h3] at g1
  cases g1
  exact g5
theorem Rel.lents (k : Rel B F H ρ σ) : ∀ a, owned ρ σ a → B.La a ∨ B.H0 a = none := fun a ⟨i, t, h1, h2, h3⟩ => (k.lentI i a ⟨t, h1, h2, h3⟩).imp (fun z => ⟨i, z⟩) id
theorem Kept.old (k : Kept B F H) {a : Addr} (h : H a = none) : B.H0 a = none := by
  cases q : B.H0 a with
  | none => rfl
  | some o => exact absurd h (k.live a (by rw [q]; exact fun z => by cases z))
theorem Rel.un (k : Rel B F H ρ σ) (k' : Rel (B.re F H ρ σ) F' H' ρ' σ) : Rel B F' H' ρ' σ := by
  refine ⟨k.kept.trans k'.kept k.lents, ⟨k'.sl.len, k'.sl.val, k'.sl.scr, fun i s h hs => ?_, k'.sl.par, k'.sl.dis⟩⟩
  obtain ⟨a, o, h1, h2, h3, h4, h5⟩ := k'.sl.own i s h hs
  refine ⟨a, o, h1, h2, h3, h4, ?_⟩
  rcases h5 with z | z
  · exact k.lentI i a z
  · exact .inr (k.kept.old z)
theorem ExP.re {F0 : Hp} (k : Rel B F H ρ σ) (e : Ex F0 F) : ∀ x, ExP X B F0 σ W x → ExP X (B.re F H ρ σ) F σ W x := fun x h F2 H2 c d k2 e2 i =>
  h F2 H2 c d (k.kept.trans k2 k.lents) (e.trans e2) i
/-- forgetting a slot -/
theorem Rel.unset (k : Rel B F H ρ σ) (i : Nat) : Rel B F H (ρ.set i .un) σ := by
  have g : ∀ {j : Nat} {t : Slot}, (ρ.set i .un)[j]? = some t → t ≠ .un → ρ[j]? = some t ∧ j ≠ i := fun {j t} q n => by
    rcases set_get q with ⟨_, z, _⟩ | ⟨z, z2⟩
    · exact absurd z n
    · exact ⟨z2, z⟩
  refine ⟨k.kept, ⟨by rw [List.length_set]; exact k.sl.len, fun j d q => k.sl.val j d (g q (fun z => by cases z)).1, fun j d q => k.sl.scr j d (g q (fun z => by cases z)).1, fun j s q qs => k.sl.own j s (g q (fun z => by rw [z] at qs; cases qs)).1 qs, k.sl.par,
    fun j m t u a ne q qs q' qs' e => k.sl.dis j m t u a ne (g q (fun z => by rw [z] at qs; cases qs)).1 qs (g q' (fun z => by rw [z] at qs'; cases qs')).1 qs' e⟩⟩
end

/-! ### arguments -/
structure ArgsOk (B : Bd) (F H : Hp) (ρ : Env) (σ : St) (as : List (Option Nat × Slot)) (vs : List V) : Prop where
  len : as.length = vs.length
  val : ∀ (j : Nat) (w : Option Nat) (d : PyData), as[j]? = some (w, Slot.val d) → ∃ v, vs[j]? = some v ∧ Rp B.K F d v
  scr : ∀ (j : Nat) (w : Option Nat) (ns : List Int), as[j]? = some (w, Slot.scr ns) → ∃ a, vs[j]? = some (.ref a) ∧ SqL B.K F a (ns.map V.int)
  own : ∀ (j : Nat) (w : Option Nat) (s : Slot), as[j]? = some (w, s) → s.isOwn = true → ∃ a o, vs[j]? = some (.ref a) ∧ F a = none ∧ H a = some o ∧ OwnIs B.K F a o s ∧ ((∃ i, w = some i ∧ B.L i a) ∨ B.H0 a = none) ∧ ¬ owned ρ σ a
  dis : ∀ (j k : Nat) (w w' : Option Nat) (s t : Slot) (a : Addr), j ≠ k → as[j]? = some (w, s) → s.isOwn = true → as[k]? = some (w', t) → t.isOwn = true → vs[j]? = some (.ref a) → vs[k]? ≠ some (.ref a)
  ret : ∀ (j i : Nat) (s : Slot), as[j]? = some (some i, s) → s.isOwn = true ∧ ∃ v, vs[j]? = some v ∧ σ[i]? = some (some v)
  no : ∀ p ∈ as, p.2 ≠ .un
def SndA (Γ : Ctx) (es : List Expr) (d : DenA) : Prop := ∀ (X : Cx) (Φ : Calls) (B : Bd) (F H : Hp) (ρ : Env) (σ : St) (Q : List V → Hp → Prop) (W : WX), CtxOk Γ Φ X → B.K = X.K → L2N.Takes X W → Rel B F H ρ σ →
  (d Φ ρ).wp (fun r => ∀ vs F' H', Rel B F' H' r.2 σ → Ex F F' → ArgsOk B F' H' r.2 σ r.1 vs → Q vs H') (ExP X B F σ W) → wEs X es σ H Q
section
variable {Γ : Ctx} {e : Expr} {es : List Expr} {d : Den} {r : DenA} {p : Bool} {pos fpos : Pos}
variable {B : Bd} {F H F' H' : Hp} {ρ ρ' : Env} {σ : St}
theorem snd_asNil : SndA Γ [] asNil := by
  intro X Φ B F H ρ σ Q W C hK T R h
  refine h [] F H R (.refl F) ⟨rfl, fun j w d q => ?_, fun j w d q => ?_, fun j w d q => ?_, fun j _ _ _ _ _ _ _ q => ?_, fun j w d q => ?_, fun p hp => ?_⟩
  all_goals first | (simp at q; done) | (simp at hp; done)
/-- one more argument, ahead -/
theorem args_cons {w : Option Nat} {s : Slot} {v : V} {as : List (Option Nat × Slot)} {vs : List V} (R : Rel B F H ρ σ) (R' : Rel (B.re F H ρ σ) F' H' ρ' σ) (A : ArgsOk (B.re F H ρ σ) F' H' ρ' σ as vs) (hs : s ≠ .un)
    (hv : ∀ d, s = .val d → Rp B.K F d v) (hc : ∀ ns, s = .scr ns → ∃ a, v = .ref a ∧ SqL B.K F a (ns.map V.int))
    (ho : s.isOwn = true → ∃ a o, v = .ref a ∧ F a = none ∧ H a = some o ∧ OwnIs B.K F a o s ∧ ((∃ i, w = some i ∧ B.L i a) ∨ B.H0 a = none) ∧ ¬ owned ρ σ a) (hw : ∀ i, w = some i → s.isOwn = true ∧ σ[i]? = some (some v)) :
    ArgsOk B F' H' ρ' σ ((w, s) :: as) (v :: vs) := by
  have apart : ∀ {a : Addr} {o : HO}, H a = some o → ¬ owned ρ σ a → ∀ b, (owned ρ σ b ∨ H b = none) → b ≠ a := fun {a o} h n b hb z => by
    subst z
    rcases hb with q | q
    · exact n q
    · rw [h] at q; cases q
  have ownA : ∀ {j : Nat} {w : Option Nat} {t : Slot}, as[j]? = some (w, t) → t.isOwn = true → ∃ a, vs[j]? = some (.ref a) ∧ (owned ρ σ a ∨ H a = none) := fun {j w t} q qs => by
    obtain ⟨a, o, g1, _, _, _, g5, _⟩ := A.own j w t q qs
    exact ⟨a, g1, g5.imp (fun ⟨i, _, t, z⟩ => ⟨i, t, z⟩) id⟩
  refine ⟨by simp [A.len], fun j w' d q => ?_, fun j w' d q => ?_, fun j w' t q qs => ?_, fun j k w1 w2 t u a ne q qs q' qs' e1 e2 => ?_, fun j i t q => ?_, fun x hx => ?_⟩
  · cases j with
    | zero =>
      simp only [List.getElem?_cons_zero, Option.some.injEq, Prod.mk.injEq] at q
      exact ⟨v, rfl, (hv d q.2).mono R'.kept.ff⟩
    | succ j => exact A.val j w' d (by simpa using q)
  · cases j with
    | zero =>
      simp only [List.getElem?_cons_zero, Option.some.injEq, Prod.mk.injEq] at q
      obtain ⟨a, g1, g2⟩ := hc d q.2
      exact ⟨a, by rw [g1]; rfl, R'.kept.ff.sqL g2⟩
    | succ j => exact A.scr j w' d (by simpa using q)
  · cases j with
    | zero =>
      simp only [List.getElem?_cons_zero, Option.some.injEq, Prod.mk.injEq] at q
      obtain ⟨q1, q2⟩ := q
      subst q2
      subst q1
      obtain ⟨a, o, g1, g2, g3, g4, g5, g6⟩ := ho qs
      refine ⟨a, o, by rw [g1]; rfl, R'.kept.nof a (by show H a ≠ none; rw [g3]; exact fun z => by cases z) g2 g6, R'.kept.keep a o g3 g6, g4.mono R'.kept.ff, g5, fun ⟨i, t, k1, k2, k3⟩ => ?_⟩
      obtain ⟨b, _, m1, _, _, _, m5⟩ := R'.sl.own i t k1 k2
      rw [k3] at m1
      cases m1
      exact apart g3 g6 a (m5.imp (fun z => ⟨i, z⟩) id) rfl
    | succ j =>
      obtain ⟨a, o, g1, g2, g3, g4, g5, g6⟩ := A.own j w' t (by simpa using q) qs
      refine ⟨a, o, by simpa using g1, g2, g3, g4, ?_, g6⟩
      rcases g5 with ⟨i, z1, z⟩ | z
      · exact (R.lentI i a z).imp (fun y => ⟨i, z1, y⟩) id
      · exact .inr (R.kept.old z)
  · cases j with
    | zero =>
      simp only [List.getElem?_cons_zero, Option.some.injEq, Prod.mk.injEq] at q e1
      obtain ⟨_, q2⟩ := q
      subst q2
      obtain ⟨b, o, g1, g2, g3, g4, g5, g6⟩ := ho qs
      rw [g1] at e1
      cases e1
      cases k with
      | zero => exact ne rfl
      | succ k =>
        obtain ⟨c, k1, k2⟩ := ownA (j := k) (by simpa using q') qs'
        have e2' : vs[k]? = some (.ref a) := by simpa using e2
        rw [k1] at e2'
        cases e2'
        exact apart g3 g6 _ k2 rfl
    | succ j =>
      cases k with
      | zero =>
        simp only [List.getElem?_cons_zero, Option.some.injEq, Prod.mk.injEq] at q' e2
        obtain ⟨_, q2⟩ := q'
        subst q2
        obtain ⟨b, o, g1, g2, g3, g4, g5, g6⟩ := ho qs'
        rw [g1] at e2
        cases e2
        obtain ⟨c, k1, k2⟩ := ownA (j := j) (by simpa using q) qs
        have e1' : vs[j]? = some (.ref a) := by simpa using e1
        rw [k1] at e1'
        cases e1'
        exact apart g3 g6 _ k2 rfl
      | succ k => exact A.dis j k w1 w2 t u a (fun z => ne (by rw [z])) (by simpa using q) qs (by simpa using q') qs' (by simpa using e1) (by simpa using e2)
  · cases j with
    | zero =>
      simp only [List.getElem?_cons_zero, Option.some.injEq, Prod.mk.injEq] at q
      obtain ⟨q1, q2⟩ := q
      subst q2
      exact ⟨(hw i q1).1, v, rfl, (hw i q1).2⟩
    | succ j => exact A.ret j i t (by simpa using q)
  · rcases List.mem_cons.mp hx with z | z
    · rw [z]; exact hs
    · exact A.no x z
theorem snd_asExp (h1 : SndE Γ e d p) (h2 : SndA Γ es r) : SndA Γ (e :: es) (asExp d r) := by
  intro X Φ B F H ρ σ Q W C hK T R h
  refine h1 X Φ B F H ρ σ _ W C hK T R (wp_mono (wp_bind (c := d Φ ρ) h) (fun x q v F1 H1 R1 e1 e2 hv => ?_) fun _ q => q)
  refine h2 X Φ (B.re F1 H1 x.2 σ) F1 H1 x.2 σ _ W C hK T R1.re (wp_mono (wp_bind (c := r Φ x.2) q) (fun y q' vs F2 H2 R2 e3 A => ?_) (ExP.re R1 e1))
  obtain ⟨s, ρ1⟩ := x
  refine q' (v :: vs) F2 H2 (R1.un R2) (e1.trans e3) (args_cons R1 R2 A (fun z => ?_) (fun d z => ?_) (fun ns z => ?_) (fun z => ?_) (fun i z => by cases z))
  · rw [show s = .un from z] at hv; exact hv.elim
  · rw [show s = .val d from z] at hv; exact hv
  · rw [show s = .scr ns from z] at hv; exact hv.elim
  · obtain ⟨a, o, g1, g2, g3, g4, g5, g6⟩ := (Res.of_own z).mp hv
    exact ⟨a, o, g1, g2, g3, g4, .inr g5, fun ⟨i, t, k1, k2, k3⟩ => g6 i t k1 k2 k3⟩
theorem snd_asVar {x : Str} {i : Nat} (hN : Γ.N[i]? = some x) (hv : visB Γ.sc x = true) (hx : okName x = true) (h2 : SndA Γ es r) : SndA Γ (.Name x pos :: es) (asVar i r) := by
  intro X Φ B F H ρ σ Q W C hK T R h
  have P : PE X (.Name x pos) (tVar i) := pe_var (by rw [C.nm]; exact hN) (by rw [C.sc]; exact vis_of hv) (okName_d hx) (okName_c hx)
  unfold asVar at h
  have lend : ∀ s : Slot, s.isOwn = true → ρ[i]? = some s → ((r Φ (ρ.set i .un)).bind fun y => Out.ok ((some i, s) :: y.1, y.2)).wp (fun r => ∀ vs F' H', Rel B F' H' r.2 σ → Ex F F' → ArgsOk B F' H' r.2 σ r.1 vs → Q vs H') (ExP X B F σ W) → wEs X (.Name x pos :: es) σ H Q := fun s hs e hq => by
    obtain ⟨a, o, e1, e2, e3, e4, e5⟩ := R.sl.own i s e hs
    have R1 := R.unset i
    refine P.w ⟨_, e1, ?_⟩
    refine h2 X Φ (B.re F H (ρ.set i .un) σ) F H (ρ.set i .un) σ _ W C hK T R1.re (wp_mono (wp_bind hq) (fun y q' vs F2 H2 R2 e3' A => ?_) (ExP.re R1 (.refl F)))
    refine q' (_ :: vs) F2 H2 (R1.un R2) e3' (args_cons R1 R2 A (fun z => ?_) (fun d z => ?_) (fun ns z => ?_) (fun z => ⟨a, o, rfl, e2, e3, e4, e5.imp (fun z => ⟨i, rfl, z⟩) id, fun ⟨j, t, k1, k2, k3⟩ => ?_⟩) (fun j z => by cases z; exact ⟨hs, e1⟩))
    · rw [show s = .un from z] at hs; cases hs
    · rw [show s = .val d from z] at hs; cases hs
    · rw [show s = .scr ns from z] at hs; cases hs
    · rcases set_get k1 with ⟨_, z2, _⟩ | ⟨z1, z2⟩
      · rw [z2] at k2; cases k2
      · exact R.sl.dis j i t s a z1 z2 k2 e hs k3 e1
  cases e : ρ[i]? with
  | none => rw [e] at h; exact h.elim
  | some s =>
    rw [e] at h
    cases s with
    | val d =>
      obtain ⟨v, g1, g2⟩ := R.sl.val i d e
      refine P.w ⟨v, g1, ?_⟩
      refine h2 X Φ (B.re F H ρ σ) F H ρ σ _ W C hK T R.re (wp_mono (wp_bind (c := r Φ ρ) h) (fun y q' vs F2 H2 R2 e3' A => ?_) (ExP.re R (.refl F)))
      exact q' (v :: vs) F2 H2 (R.un R2) e3' (args_cons R R2 A (fun z => by cases z) (fun d z => by cases z; exact g2) (fun ns z => by cases z) (fun z => by cases z) (fun j z => by cases z))
    | scr ns =>
      obtain ⟨a, g1, g2⟩ := R.sl.scr i ns e
      refine P.w ⟨_, g1, ?_⟩
      refine h2 X Φ (B.re F H ρ σ) F H ρ σ _ W C hK T R.re (wp_mono (wp_bind (c := r Φ ρ) h) (fun y q' vs F2 H2 R2 e3' A => ?_) (ExP.re R (.refl F)))
      exact q' (_ :: vs) F2 H2 (R.un R2) e3' (args_cons R R2 A (fun z => by cases z) (fun d z => by cases z) (fun ns z => by cases z; exact ⟨a, rfl, g2⟩) (fun z => by cases z) (fun j z => by cases z))
    | own ds => exact lend _ rfl e h
    | odc t es => exact lend _ rfl e h
    | obj k ds => exact lend _ rfl e h
    | un => exact h.elim
/-! ### what was lent comes back -/
theorem Sl.setOut (k : Sl B F H ρ σ) {i : Nat} {a : Addr} {s : Slot} (hi : σ[i]? = some (some (.ref a))) (h : OutIs B.K F H a s) (hL : B.L i a ∨ B.H0 a = none) (hn : ∀ (j : Nat) (t : Slot), j ≠ i → ρ[j]? = some t → t.isOwn = true → σ[j]? ≠ some (some (.ref a))) : Sl B F H (ρ.set i s) σ := by
  refine ⟨by rw [List.length_set]; exact k.len, fun j d q => ?_, fun j ns q => ?_, fun j t q qs => ?_, k.par, fun j m t u b ne q qs q' qs' e1 e2 => ?_⟩
  · rcases set_get q with ⟨z1, z2, _⟩ | ⟨_, z⟩
    · subst z1
      rcases h with ⟨d', g1, g2⟩ | ⟨g1, _⟩
      · rw [g1] at z2; cases z2; exact ⟨_, hi, g2⟩
      · rw [← z2] at g1; cases g1
    · exact k.val j d z
  · rcases set_get q with ⟨z1, z2, _⟩ | ⟨_, z⟩
    · rcases h with ⟨d', g1, g2⟩ | ⟨g1, _⟩
      · rw [g1] at z2; cases z2
      · rw [← z2] at g1; cases g1
    · exact k.scr j ns z
  · rcases set_get q with ⟨z1, z2, _⟩ | ⟨_, z⟩
    · subst z1
      rcases h with ⟨d', g1, g2⟩ | ⟨g1, o, g2, g3, g4⟩
      · rw [z2, g1] at qs; cases qs
      · rw [z2]; exact ⟨a, o, hi, g2, g3, g4, hL⟩
    · exact k.own j t z qs
  · rcases set_get q with ⟨z1, z2, _⟩ | ⟨z1, z⟩
    · subst z1
      rcases set_get q' with ⟨z3, _, _⟩ | ⟨z3, z4⟩
      · exact ne z3.symm
      · rw [hi] at e1
        cases e1
        exact hn m u z3 z4 qs' e2
    · rcases set_get q' with ⟨z3, _, _⟩ | ⟨z3, z4⟩
      · subst z3
        rw [hi] at e2
        cases e2
        exact hn j t z1 z qs e1
      · exact k.dis j m t u b ne z qs z4 qs' e1 e2
theorem giveBack_ok : ∀ (as : List (Option Nat × Slot)) (vs : List V) (ss : List Slot) (ρ : Env), Sl B F H ρ σ → as.length = ss.length → as.length = vs.length →
    (∀ (j i : Nat) (s : Slot), as[j]? = some (some i, s) → ∃ a s', vs[j]? = some (.ref a) ∧ σ[i]? = some (some (.ref a)) ∧ ss[j]? = some s' ∧ OutIs B.K F H a s' ∧ (B.L i a ∨ B.H0 a = none) ∧ (∀ (m : Nat) (t : Slot), m ≠ i → ρ[m]? = some t → t.isOwn = true → σ[m]? ≠ some (some (.ref a)))) →
    (∀ (j k i i' : Nat) (s t : Slot) (a : Addr), j ≠ k → as[j]? = some (some i, s) → as[k]? = some (some i', t) → vs[j]? = some (.ref a) → vs[k]? ≠ some (.ref a)) →
    Sl B F H (giveBack as ss ρ) σ ∧ ∀ (m : Nat) (t : Slot), (giveBack as ss ρ)[m]? = some t → t.isOwn = true → (ρ[m]? = some t ∨ ∃ (j i : Nat) (s : Slot) (a : Addr), as[j]? = some (some i, s) ∧ vs[j]? = some (.ref a) ∧ σ[m]? = some (some (.ref a)))
  | [], _, _, ρ, k, _, _, _, _ => ⟨k, fun m t h _ => .inl h⟩
  | (none, s) :: as, v :: vs, s1 :: ss, ρ, k, h1, h2, h3, h4 => by
    obtain ⟨g1, g2⟩ := giveBack_ok as vs ss ρ k (by simpa using h1) (by simpa using h2) (fun j i t q => h3 (j + 1) i t (by simpa using q)) (fun j m i i' t u a ne q q' e1 e2 => h4 (j + 1) (m + 1) i i' t u a (by omega) (by simpa using q) (by simpa using q') (by simpa using e1) (by simpa using e2))
    refine ⟨g1, fun m t q qs => ?_⟩
    rcases g2 m t q qs with z | ⟨j, i, s, a, z1, z2, z3⟩
    · exact .inl z
    · exact .inr ⟨j + 1, i, s, a, by simpa using z1, by simpa using z2, z3⟩
  | (some i, s) :: as, v :: vs, s1 :: ss, ρ, k, h1, h2, h3, h4 => by
    obtain ⟨a, s', q1, q2, q3, q4, q5, q6⟩ := h3 0 i s rfl
    have e1 : v = .ref a := by simpa using q1
    have e2 : s1 = s' := by simpa using q3
    subst e1
    subst e2
    have k1 : Sl B F H (ρ.set i s1) σ := Sl.setOut k q2 q4 q5 q6
    obtain ⟨g1, g2⟩ := giveBack_ok as vs ss (ρ.set i s1) k1 (by simpa using h1) (by simpa using h2) (fun j i' t q => by
      obtain ⟨b, t', w1, w2, w3, w4, w5, w6⟩ := h3 (j + 1) i' t (by simpa using q)
      refine ⟨b, t', by simpa using w1, w2, by simpa using w3, w4, w5, fun m u ne qm qs em => ?_⟩
      rcases set_get qm with ⟨z1, z2, _⟩ | ⟨z1, z2⟩
      · subst z1
        rw [q2] at em
        cases em
        exact h4 0 (j + 1) m i' s t a (by omega) rfl (by simpa using q) rfl (by simpa using w1)
      · exact w6 m u ne z2 qs em) (fun j m i i' t u a ne q q' e1 e2 => h4 (j + 1) (m + 1) i i' t u a (by omega) (by simpa using q) (by simpa using q') (by simpa using e1) (by simpa using e2))
    refine ⟨g1, fun m t q qs => ?_⟩
    rcases g2 m t q qs with z | ⟨j, i', t', b, z1, z2, z3⟩
    · rcases set_get z with ⟨z1, z2, _⟩ | ⟨_, z2⟩
      · subst z1
        exact .inr ⟨0, m, s, a, rfl, rfl, q2⟩
      · exact .inl z2
    · exact .inr ⟨j + 1, i', t', b, by simpa using z1, by simpa using z2, z3⟩
  | (none, _) :: _, [], _, _, _, _, h2, _, _ => by simp at h2
  | (some _, _) :: _, [], _, _, _, _, h2, _, _ => by simp at h2
  | (none, _) :: _, _ :: _, [], _, _, h1, _, _, _ => by simp at h1
  | (some _, _) :: _, _ :: _, [], _, _, h1, _, _, _ => by simp at h1
/-- f(a, ..) -/
theorem snd_call {x : Str} {n : Nat} {a : Expr} (hf : (x, n) ∈ Γ.fns) (h : SndA Γ (a :: es) r) (he : (a :: es).all plainE = true) (hg : Γ.sc.names.lookup x = some .globalImplicit) (hx : okName x = true) : SndE Γ (.Call (.Name x fpos) (a :: es) [] pos) (dCall x n r) false := by
  intro X Φ B F H ρ σ Q W C hK T R hq
  obtain ⟨f, fd, ps, k, gm, gl, gk, gb, G, rm⟩ := C.fns _ hf
  have he' := he
  rw [List.all_cons, Bool.and_eq_true] at he'
  refine PE.w (pe_callG (E := WE W) G C.grd rm (gl_of C hg) gm gk gb (fun σ => L2N.passAt T σ) (pa_ws he) (okName_d hx) (star_of he'.1) (plain_any he'.2)) ?_
  refine h X Φ B F H ρ σ _ W C hK T R (wp_mono (wp_bind (c := r Φ ρ) hq) (fun y q vs F1 H1 R1 e1 A => ?_) fun _ q => q)
  obtain ⟨as, ρ1⟩ := y
  obtain ⟨hl, q⟩ := wp_guard q
  have hl : as.length = n := by simpa using hl
  have R1 : Rel B F1 H1 ρ1 σ := R1
  have A : ArgsOk B F1 H1 ρ1 σ as vs := A
  have hv : vs.length = n := by rw [← A.len]; exact hl
  have at' : ∀ {j : Nat} {s : Slot}, (as.map (·.2))[j]? = some s → ∃ w, as[j]? = some (w, s) := fun {j s} q => by
    rw [List.getElem?_map] at q
    cases z : as[j]? with
    | none => rw [z] at q; cases q
    | some y => rw [z] at q; cases q; exact ⟨y.1, rfl⟩
  have atm : ∀ {j : Nat} {w : Option Nat} {s : Slot}, as[j]? = some (w, s) → (as.map (·.2))[j]? = some s := fun {j w s} q => by
    rw [List.getElem?_map, q]
    rfl
  have lt : ∀ a, (∃ i, lent (as.map (·.2)) vs i a) → (B.La a ∨ B.H0 a = none) ∧ H1 a ≠ none ∧ ¬ owned ρ1 σ a := fun a ⟨j, s, q1, q2, q3⟩ => by
    obtain ⟨w, q1⟩ := at' q1
    obtain ⟨b, o, g1, g2, g3, g4, g5, g6⟩ := A.own j w s q1 q2
    rw [q3] at g1
    cases g1
    exact ⟨g5.imp (fun ⟨i, _, z⟩ => ⟨i, z⟩) id, (by rw [g3]; exact (fun z => nomatch z)), g6⟩
  have q := wp_bind q
  refine ⟨hv, F1, as.map (·.2), R1.kept.ex, by rw [List.length_map]; exact hl, ⟨by rw [List.length_map, List.length_map]; exact A.len, fun j d q => ?_, fun j ns q => ?_, fun j s q qs => ?_, fun j v q => ?_, fun j m s t a ne q qs q' qs' e2 e3 => ?_⟩, fun s hs => ?_, wp_mono (by rw [← hK] at *; exact q) (fun z q v F2 H2 bk => ?_) fun z q F2 H2 cls d k2 hx => ?_⟩
  · obtain ⟨w, q⟩ := at' q
    obtain ⟨v, g1, g2⟩ := A.val j w d q
    exact ⟨v, by rw [List.getElem?_map, g1]; rfl, hK ▸ g2⟩
  · obtain ⟨w, q⟩ := at' q
    obtain ⟨v, g1, g2⟩ := A.scr j w ns q
    exact ⟨v, by rw [List.getElem?_map, g1]; rfl, hK ▸ g2⟩
  · obtain ⟨w, q'⟩ := at' q
    obtain ⟨b, o, g1, g2, g3, g4, g5, g6⟩ := A.own j w s q' qs
    exact ⟨b, o, by rw [List.getElem?_map, g1]; rfl, g2, g3, hK ▸ g4, .inl ⟨s, q, qs, g1⟩⟩
  · rw [List.getElem?_map, show vs[j]? = some v from q]; rfl
  · obtain ⟨w, q⟩ := at' q
    obtain ⟨w', q'⟩ := at' q'
    rw [List.getElem?_map] at e2 e3
    have e2' : vs[j]? = some (.ref a) := by
      cases z : vs[j]? with
      | none => rw [z] at e2; cases e2
      | some y => rw [z] at e2; cases e2; rfl
    have e3' : vs[m]? = some (.ref a) := by
      cases z : vs[m]? with
      | none => rw [z] at e3; cases e3
      | some y => rw [z] at e3; cases e3; rfl
    exact A.dis j m w w' s t a ne q qs q' qs' e2' e3'
  · obtain ⟨p, hp, rfl⟩ := List.mem_map.mp hs
    exact A.no p hp
  · -- behind the call
    obtain ⟨r1, outs⟩ := z
    obtain ⟨ho, q⟩ := wp_guard q
    have ho : outs.length = n := by simpa using ho
    rw [← hK] at bk
    obtain ⟨k2, bo, br⟩ := bk
    have K2 : Kept B F2 H2 := R1.kept.trans k2 fun a ha => (lt a ha).1
    -- the slots as they stand
    have S1 : Sl B F2 H2 ρ1 σ := by
      refine ⟨R1.sl.len, fun i d q => ?_, fun i d q => ?_, fun i s q qs => ?_, R1.sl.par, R1.sl.dis⟩
      · obtain ⟨v, g1, g2⟩ := R1.sl.val i d q; exact ⟨v, g1, g2.mono k2.ff⟩
      · obtain ⟨v, g1, g2⟩ := R1.sl.scr i d q; exact ⟨v, g1, k2.ff.sqL g2⟩
      · obtain ⟨a, o, g1, g2, g3, g4, g5⟩ := R1.sl.own i s q qs
        have nl : ¬ ∃ i, lent (as.map (·.2)) vs i a := fun z => (lt a z).2.2 ⟨i, s, q, qs, g1⟩
        exact ⟨a, o, g1, k2.nof a (by show H1 a ≠ none; rw [g3]; exact fun z => by cases z) g2 nl, k2.keep a o g3 nl, g4.mono k2.ff, g5⟩
    obtain ⟨S2, own2⟩ := giveBack_ok (B := B) (F := F2) (H := H2) (σ := σ) as vs outs ρ1 S1 (by omega) A.len (fun j i s q => by
      obtain ⟨qs, v, g1, g2⟩ := A.ret j i s q
      obtain ⟨a, o, k1, k2', k3, k4, k5, k6⟩ := A.own j _ s q qs
      rw [g1] at k1
      cases k1
      obtain ⟨s', z1, z2⟩ := bo j s a (atm q) qs g1
      exact ⟨a, s', g1, g2, z1, z2, k5.imp (fun ⟨_, z, y⟩ => by cases z; exact y) id, fun m t _ qm qt em => k6 ⟨m, t, qm, qt, em⟩⟩) (fun j m i i' s t a ne q q' e2 => A.dis j m _ _ s t a ne q (A.ret j i s q).1 q' (A.ret m i' t q').1 e2)
    refine q v F2 H2 ⟨K2, S2⟩ (e1.trans k2.ff) (fun z => by cases z) ?_
    rcases br with ⟨d, z1, z2⟩ | ⟨z1, a, o, z2, z3, z4, z5, z6⟩
    · show Res B F2 H2 _ σ r1 v
      rw [show r1 = .val d from z1]
      exact z2
    · refine (Res.of_own z1).mpr ⟨a, o, z2, z3, z4, z5, R1.kept.old z6, fun i t qt qs em => ?_⟩
      rcases own2 i t qt qs with y | ⟨j, i', s, b, y1, y2, y3⟩
      · obtain ⟨b, o', g1, _, g3, _⟩ := R1.sl.own i t y qs
        rw [em] at g1
        cases g1
        rw [z6] at g3; cases g3
      · rw [em] at y3
        cases y3
        obtain ⟨qs', _⟩ := A.ret j i' s y1
        obtain ⟨b, o', g1, _, g3, _⟩ := A.own j _ s y1 qs'
        rw [y2] at g1
        cases g1
        rw [z6] at g3; cases g3
  · rw [← hK] at k2 hx
    exact q F2 H2 cls d (R1.kept.trans k2 fun a ha => (lt a ha).1) (e1.trans k2.ff) (hK ▸ hx)
end
end Dn

/-! Den5: statements. -/
namespace Dn
open PySem PySem.Spec L2
open PyProof.Rows hiding St

inductive Fl | nx | brk | cnt | ret (s : Slot)
abbrev DenS := Calls → Env → Out (Fl × Env)
def StP (B : Bd) (F : Hp) (D : Ends) : Fl × Env → Prop := fun r => match r.1 with
  | .nx => ∀ σ' F' H', Rel B F' H' r.2 σ' → Ex F F' → D.nx σ' H'
  | .brk => ∀ σ' F' H', Rel B F' H' r.2 σ' → Ex F F' → D.bk σ' H'
  | .cnt => ∀ σ' F' H', Rel B F' H' r.2 σ' → Ex F F' → D.ct σ' H'
  | .ret s => ∀ σ' v F' H', Rel B F' H' r.2 σ' → Ex F F' → Res B F' H' r.2 σ' s v → D.rt v H'
def ExS (X : Cx) (B : Bd) (F : Hp) (W : WX) : Exc → Prop := fun x => ∀ σ' F' H' cls d, Kept B F' H' → Ex F F' → XcIs X.mg x cls d X.K F' H' → W cls d σ' H'
/-- a def's body -/
structure BodyOk (X : Cx) : Prop where
  fn : ∀ x, X.fn x = true
  fk : X.env.scope.kind = .function
  hp : PassesOwn (model X.prog X.w) X.A X.env X.xe
  stk : X.stack = X.env :: X.outer ∧ X.env.frame = some X.env.locals
/-- the parameters' slots stand first -/
structure BdOk (Γ : Ctx) (B : Bd) : Prop where
  vs : B.vs.length ≤ Γ.np
  L : ∀ i a, B.L i a → i < Γ.np
def SndS (Γ : Ctx) (st : Stmt) (d : DenS) : Prop := ∀ (X : Cx) (Φ : Calls) (B : Bd) (F H : Hp) (ρ : Env) (σ : St) (D : Ends) (W : WX), CtxOk Γ Φ X → BodyOk X → BdOk Γ B → B.K = X.K → L2N.Takes X W → Rel B F H ρ σ →
  (d Φ ρ).wp (StP B F D) (ExS X B F W) → wS X st D σ H
def SndSs (Γ : Ctx) (st : List Stmt) (d : DenS) : Prop := ∀ (X : Cx) (Φ : Calls) (B : Bd) (F H : Hp) (ρ : Env) (σ : St) (D : Ends) (W : WX), CtxOk Γ Φ X → BodyOk X → BdOk Γ B → B.K = X.K → L2N.Takes X W → Rel B F H ρ σ →
  (d Φ ρ).wp (StP B F D) (ExS X B F W) → wSs X st D σ H
/-- .. told with the slots -/
def ExsS (X : Cx) (B : Bd) (F : Hp) (W : WX) : Exc → Env → Prop := fun x ρ => ∀ σ' F' H' cls d, Rel B F' H' ρ σ' → Ex F F' → XcIs X.mg x cls d X.K F' H' → W cls d σ' H'
/-- where numbers may come and refusals are told with the slots -/
def SndX (Γ : Ctx) (st : Stmt) (d : DenS) : Prop := ∀ (X : Cx) (Φ : Calls) (B : Bd) (F H : Hp) (ρ : Env) (σ : St) (D : Ends) (W : WX), CtxOk Γ Φ X → BodyOk X → BdOk Γ B → B.K = X.K → L2N.Takes X W → Rel B F H ρ σ →
  (d Φ ρ).wpx (StP B F D) (ExS X B F W) (ExsS X B F W) → wS X st D σ H
def SndXs (Γ : Ctx) (st : List Stmt) (d : DenS) : Prop := ∀ (X : Cx) (Φ : Calls) (B : Bd) (F H : Hp) (ρ : Env) (σ : St) (D : Ends) (W : WX), CtxOk Γ Φ X → BodyOk X → BdOk Γ B → B.K = X.K → L2N.Takes X W → Rel B F H ρ σ →
  (d Φ ρ).wpx (StP B F D) (ExS X B F W) (ExsS X B F W) → wSs X st D σ H
section
variable {X : Cx} {B : Bd} {F F' H H' : Hp} {σ : St} {W : WX} {ρ : Env} {D : Ends}
theorem ExsS.mono (e : Ex F F') : ∀ x ρ, ExsS X B F W x ρ → ExsS X B F' W x ρ := fun x ρ h σ' F2 H2 c d k e2 i => h σ' F2 H2 c d k (e.trans e2) i
theorem ExS.mono (e : Ex F F') : ∀ x, ExS X B F W x → ExS X B F' W x := fun x h σ' F2 H2 c d k e2 i => h σ' F2 H2 c d k (e.trans e2) i
theorem ExS.ex : ∀ x, ExS X B F W x → ExP X B F σ W x := fun x h F2 H2 c d k e2 i => h σ F2 H2 c d k e2 i
theorem StP.mono (e : Ex F F') : ∀ r, StP B F D r → StP B F' D r := fun r h => by
  obtain ⟨f, ρ⟩ := r
  cases f with
  | nx => exact fun s F2 H2 k e2 => h s F2 H2 k (e.trans e2)
  | brk => exact fun s F2 H2 k e2 => h s F2 H2 k (e.trans e2)
  | cnt => exact fun s F2 H2 k e2 => h s F2 H2 k (e.trans e2)
  | ret x => exact fun s v F2 H2 k e2 => h s v F2 H2 k (e.trans e2)
end
def dStop : DenS := fun _ _ => .stuck
def dSkip : DenS := fun _ ρ => .ok (.nx, ρ)
def dBrk : DenS := fun _ ρ => .ok (.brk, ρ)
def dCnt : DenS := fun _ ρ => .ok (.cnt, ρ)
def dSeq (a b : DenS) : DenS := fun Φ ρ => (a Φ ρ).bind fun r => match r.1 with
  | .nx => b Φ r.2
  | f => .ok (f, r.2)
def dDo (d : Den) : DenS := fun Φ ρ => (d Φ ρ).bind fun r => .ok (.nx, r.2)
def dIfS (t : Den) (a b : DenS) : DenS := fun Φ ρ => (t Φ ρ).bind fun r => match r.1 with
  | .val (.bool true) => a Φ r.2
  | .val (.bool false) => b Φ r.2
  | _ => .stuck
def dSet (i : Nat) (d : Den) : DenS := fun Φ ρ => (d Φ ρ).bind fun r => .ok (.nx, r.2.set i r.1)
/-- what a name's slot gives when the frame ends: an own thing moves -/
def dRetV (i : Nat) : DenS := fun _ ρ => match ρ[i]? with
  | some (.val d) => .ok (.ret (.val d), ρ)
  | some (.own ds) => .ok (.ret (.own ds), ρ.set i .un)
  | some (.odc t es) => .ok (.ret (.odc t es), ρ.set i .un)
  | _ => .stuck
def dRet (d : Den) : DenS := fun Φ ρ => (d Φ ρ).bind fun r => .ok (.ret r.1, r.2)
def dRetN : DenS := fun _ ρ => .ok (.ret (.val .none), ρ)
def setAll : List Nat → List PyData → Env → Option Env
  | [], [], ρ => some ρ
  | i :: is, d :: ds, ρ => setAll is ds (ρ.set i (.val d))
  | _, _, _ => none
def dUnp (is : List Nat) (d : Den) : DenS := fun Φ ρ => (d Φ ρ).bind fun r => match r.1 with
  | .val (.tuple ds) => (opt (setAll is ds r.2)).bind fun ρ => .ok (.nx, ρ)
  | _ => .stuck

section
variable {Γ : Ctx} {st : Stmt} {sts sts' : List Stmt} {a b : DenS} {d : Den} {e c : Expr} {p : Bool} {pos pos' : Pos} {i : Nat} {x : Str}
theorem snd_stop : SndS Γ st dStop := fun X Φ B F H ρ σ D W C BO bo hK T R h => h.elim
theorem snd_nil : SndSs Γ [] dSkip := fun X Φ B F H ρ σ D W C BO bo hK T R h => PSs.w pss_nil (h σ F H R (.refl F))
theorem snd_cons (h1 : SndS Γ st a) (h2 : SndSs Γ sts b) : SndSs Γ (st :: sts) (dSeq a b) := by
  intro X Φ B F H ρ σ D W C BO bo hK T R h
  refine PSs.w (pss_cons ps_w pss_w) ?_
  refine h1 X Φ B F H ρ σ { D with nx := wSs X sts D } W C BO bo hK T R (wp_mono (wp_bind (c := a Φ ρ) h) (fun r q => ?_) fun _ q => q)
  obtain ⟨f, ρ1⟩ := r
  cases f with
  | nx => exact fun σ1 F1 H1 R1 e1 => h2 X Φ B F1 H1 ρ1 σ1 D W C BO bo hK T R1 (wp_mono q (StP.mono e1) (ExS.mono e1))
  | brk => exact q
  | cnt => exact q
  | ret s => exact q
theorem snd_one' (h1 : SndS Γ st a) : SndSs Γ [st] a := by
  intro X Φ B F H ρ σ D W C BO bo hK T R h
  exact PSs.w (pss_one ps_w) (h1 X Φ B F H ρ σ D W C BO bo hK T R h)
def notComp : Expr → Bool
  | .ListComp _ _ _ _ => false
  | .SetComp _ _ _ _ => false
  | .DictComp _ _ _ _ _ => false
  | _ => true
theorem swap_of {t : Option Expr} {l : Nat} {env : PySem.Env} (h : notComp e = true) : swapsWith e t l env = pure false := by
  unfold swapsWith
  cases e <;> first | rfl | cases h
theorem snd_do (h : SndE Γ e d p) (he : notComp e = true) : SndS Γ (.Expr e pos) (dDo d) := by
  intro X Φ B F H ρ σ D W C BO bo hK T R hq
  refine PS.w (ps_expr pe_w (swap_of he)) ?_
  exact h X Φ B F H ρ σ _ W C hK T R (wp_mono (wp_bind (c := d Φ ρ) hq) (fun r q v F1 H1 R1 e1 _ _ => q σ F1 H1 R1 e1) ExS.ex)
theorem snd_if {t : Den} (ht : SndT Γ c t p) (ha : SndSs Γ sts a) (hb : SndSs Γ sts' b) : SndS Γ (.If c sts sts' pos) (dIfS t a b) := by
  intro X Φ B F H ρ σ D W C BO bo hK T R hq
  refine PS.w (ps_if pt_w pss_w pss_w) ?_
  refine ht X Φ B F H ρ σ _ W C hK T R (wp_mono (wp_bind (c := t Φ ρ) hq) (fun r q => ?_) ExS.ex)
  obtain ⟨s, ρ1⟩ := r
  cases s with
  | val z =>
    cases z with
    | bool k =>
      refine ⟨k, rfl, fun F1 H1 R1 e1 _ => ?_⟩
      cases k with
      | true => exact iteT (ha X Φ B F1 H1 ρ1 σ D W C BO bo hK T R1 (wp_mono q (StP.mono e1) (ExS.mono e1)))
      | false => exact iteF (hb X Φ B F1 H1 ρ1 σ D W C BO bo hK T R1 (wp_mono q (StP.mono e1) (ExS.mono e1)))
    | _ => exact q.elim
  | _ => exact q.elim
/-- a name gets a new content -/
theorem Rel.put {B : Bd} {F H : Hp} {ρ : Env} {σ : St} {s : Slot} {v : V} (R : Rel B F H ρ σ) (h : Res B F H ρ σ s v) (i : Nat) (hi : B.vs.length ≤ i) : Rel B F H (ρ.set i s) (σ.set i (some v)) := by
  have len : (ρ.set i s).length = (σ.set i (some v)).length := by rw [List.length_set, List.length_set]; exact R.sl.len
  have lt : i < ρ.length → i < σ.length := fun z => by rw [← R.sl.len]; exact z
  refine ⟨R.kept, ⟨len, fun j d q => ?_, fun j ns q => ?_, fun j t q qs => ?_, fun j w q => ?_, fun j m t u b ne q qs q' qs' e1 e2 => ?_⟩⟩
  · rcases set_get q with ⟨z1, z2, z3⟩ | ⟨z1, z⟩
    · subst z1
      rw [← z2] at h
      exact ⟨v, List.getElem?_set_self (lt z3), h⟩
    · obtain ⟨w, g1, g2⟩ := R.sl.val j d z
      exact ⟨w, by rw [List.getElem?_set_ne (Ne.symm z1)]; exact g1, g2⟩
  · rcases set_get q with ⟨z1, z2, z3⟩ | ⟨z1, z⟩
    · rw [← z2] at h; exact h.elim
    · obtain ⟨w, g1, g2⟩ := R.sl.scr j ns z
      exact ⟨w, by rw [List.getElem?_set_ne (Ne.symm z1)]; exact g1, g2⟩
  · rcases set_get q with ⟨z1, z2, z3⟩ | ⟨z1, z⟩
    · subst z1
      subst z2
      obtain ⟨a, o, rfl, g2, g3, g4, g5, _⟩ := (Res.of_own qs).mp h
      exact ⟨a, o, List.getElem?_set_self (lt z3), g2, g3, g4, .inr g5⟩
    · obtain ⟨a, o, g1, g2⟩ := R.sl.own j t z qs
      exact ⟨a, o, by rw [List.getElem?_set_ne (Ne.symm z1)]; exact g1, g2⟩
  · have lj : j < B.vs.length := (List.getElem?_eq_some_iff.mp q).1
    rw [List.getElem?_set_ne (by omega)]
    exact R.sl.par j w q
  · rcases set_get q with ⟨z1, z2, z3⟩ | ⟨z1, z⟩
    · subst z1
      subst z2
      obtain ⟨a, o, rfl, g2, g3, g4, g5, g6⟩ := (Res.of_own qs).mp h
      rw [List.getElem?_set_self (lt z3)] at e1
      cases e1
      rcases set_get q' with ⟨z3, _, _⟩ | ⟨z3, z4⟩
      · exact ne z3.symm
      · rw [List.getElem?_set_ne ne] at e2
        exact g6 m u z4 qs' e2
    · rw [List.getElem?_set_ne (Ne.symm z1)] at e1
      rcases set_get q' with ⟨z3, z4, z5⟩ | ⟨z3, z4⟩
      · subst z3
        subst z4
        obtain ⟨a, o, rfl, g2, g3, g4, g5, g6⟩ := (Res.of_own qs').mp h
        rw [List.getElem?_set_self (lt z5)] at e2
        cases e2
        exact g6 j t z qs e1
      · rw [List.getElem?_set_ne (Ne.symm z3)] at e2
        exact R.sl.dis j m t u b ne z qs z4 qs' e1 e2
def locB (sc : Scope) (x : Str) : Bool := sc.names.lookup x == some .local || sc.names.lookup x == some .cell
theorem loc_of {sc : Scope} {x : Str} (h : locB sc x = true) : Loc sc x := by
  unfold locB at h
  simp only [Bool.or_eq_true, beq_iff_eq] at h
  exact h
theorem snd_set (hN : Γ.N[i]? = some x) (hl : locB Γ.sc x = true) (hi : Γ.np ≤ i) (h : SndE Γ e d p) (he : notComp e = true) : SndS Γ (.Assign [.Name x pos'] e pos) (dSet i d) := by
  intro X Φ B F H ρ σ D W C BO bo hK T R hq
  refine PS.w (ps_set (i := i) (by rw [C.nm]; exact C.nd) (by rw [C.nm]; exact hN) (by rw [C.sc]; exact loc_of hl) pe_w (swap_of he) (.inl (BO.fn x))) ?_
  exact h X Φ B F H ρ σ _ W C hK T R (wp_mono (wp_bind (c := d Φ ρ) hq) (fun r q v F1 H1 R1 e1 _ hv => q (σ.set i (some v)) F1 H1 (R1.put hv i (Nat.le_trans bo.vs hi)) e1) ExS.ex)
theorem snd_ret (h : SndE Γ e d p) : SndS Γ (.Return (some e) pos) (dRet d) := by
  intro X Φ B F H ρ σ D W C BO bo hK T R hq
  refine PS.w (ps_ret pe_w) ?_
  exact h X Φ B F H ρ σ _ W C hK T R (wp_mono (wp_bind (c := d Φ ρ) hq) (fun r q v F1 H1 R1 e1 _ hv => q σ v F1 H1 R1 e1 hv) ExS.ex)
/-- return x, x no parameter -/
theorem snd_retV (hN : Γ.N[i]? = some x) (hv : visB Γ.sc x = true) (hx : okName x = true) (hi : Γ.np ≤ i) : SndS Γ (.Return (some (.Name x pos')) pos) (dRetV i) := by
  intro X Φ B F H ρ σ D W C BO bo hK T R h
  have P : PE X (.Name x pos') (tVar i) := pe_var (by rw [C.nm]; exact hN) (by rw [C.sc]; exact vis_of hv) (okName_d hx) (okName_c hx)
  unfold dRetV at h
  have mv : ∀ s : Slot, s.isOwn = true → ρ[i]? = some s → (Out.ok (Fl.ret s, ρ.set i .un)).wp (StP B F D) (ExS X B F W) → wS X (.Return (some (.Name x pos')) pos) D σ H := fun s hs e hq => by
    obtain ⟨a, o, e1, e2, e3, e4, e5⟩ := R.sl.own i s e hs
    have e6 : B.H0 a = none := by
      rcases e5 with z | z
      · exact absurd (bo.L i a z) (by omega)
      · exact z
    refine PS.w (ps_ret P) ⟨_, e1, hq σ _ F H (R.unset i) (.refl F) ((Res.of_own hs).mpr ⟨a, o, rfl, e2, e3, e4, e6, fun j t k1 k2 k3 => ?_⟩)⟩
    rcases set_get k1 with ⟨_, z2, _⟩ | ⟨z1, z2⟩
    · rw [z2] at k2; cases k2
    · exact R.sl.dis j i t s a z1 z2 k2 e hs k3 e1
  cases e : ρ[i]? with
  | none => rw [e] at h; exact h.elim
  | some s =>
    rw [e] at h
    cases s with
    | val d =>
      obtain ⟨v, h1, h2⟩ := R.sl.val i d e
      exact PS.w (ps_ret P) ⟨v, h1, h σ v F H R (.refl F) h2⟩
    | own ds => exact mv _ rfl e h
    | odc t es => exact mv _ rfl e h
    | obj _ _ => exact h.elim
    | un => exact h.elim
    | scr ns => exact h.elim

/-! ### several names at once -/
def tgsOf (is : List Nat) : TGs := is.foldr (fun i t => gCons (gName i) t) gNil
theorem setAll_ok {B : Bd} {F H : Hp} {Q : St → Hp → Prop} : ∀ (is : List Nat) (ds : List PyData) (vs : List V) (ρ ρ' : Env) (σ : St), setAll is ds ρ = some ρ' → RpAll B.K F ds vs → Rel B F H ρ σ → (∀ i ∈ is, B.vs.length ≤ i) → (∀ σ', Rel B F H ρ' σ' → Q σ' H) → tgsOf is vs σ H Q
  | [], [], vs, ρ, ρ', σ, h, hv, R, _, q => by
    cases hv
    cases h
    exact ⟨rfl, q σ R⟩
  | i :: is, d :: ds, vs, ρ, ρ', σ, h, hv, R, hb, q => by
    cases hv with
    | cons h1 h2 => exact ⟨_, _, rfl, setAll_ok is ds _ (ρ.set i (.val d)) ρ' _ h h2 (R.put (s := .val d) h1 i (hb i List.mem_cons_self)) (fun j hj => hb j (List.mem_cons_of_mem _ hj)) q⟩
  | [], _ :: _, _, _, _, _, h, _, _, _, _ => by cases h
  | _ :: _, [], _, _, _, _, h, _, _, _, _ => by cases h
theorem rpAll_len {K : PySem.W.Frag} {H : Hp} {ds : List PyData} {vs : List V} (h : RpAll K H ds vs) : ds.length = vs.length := RpAll.length h
theorem setAll_len : ∀ (is : List Nat) (ds : List PyData) (ρ ρ' : Env), setAll is ds ρ = some ρ' → is.length = ds.length
  | [], [], _, _, _ => rfl
  | i :: is, d :: ds, ρ, ρ', h => congrArg Nat.succ (setAll_len is ds _ ρ' h)
  | [], _ :: _, _, _, h => by cases h
  | _ :: _, [], _, _, h => by cases h
/-- plain names as targets -/
inductive Tgs (N : List Str) (g : Str → Bool) : List Expr → List Nat → Prop
  | nil : Tgs N g [] []
  | cons {i : Nat} {x : Str} {pos : Pos} {es : List Expr} {is : List Nat} : N[i]? = some x → g x = true → Tgs N g es is → Tgs N g (.Name x pos :: es) (i :: is)
/-- names that may be stored in X -/
def MayPut (X : Cx) (g : Str → Bool) : Prop := ∀ x, g x = true → Loc X.env.scope x ∧ (X.fn x = true ∨ X.env.scope.names.lookup x = some .local)
theorem Tgs.pgs {X : Cx} {Φ : Calls} {g : Str → Bool} (C : CtxOk Γ Φ X) (hf : MayPut X g) : ∀ {es : List Expr} {is : List Nat}, Tgs Γ.N g es is → PGs X es (tgsOf is)
  | _, _, .nil => pgs_nil
  | _, _, .cons h1 h2 h3 => pgs_cons (pg_name (by rw [C.nm]; exact C.nd) (by rw [C.nm]; exact h1) (hf _ h2).1 (hf _ h2).2) (Tgs.pgs C hf h3)
theorem mayPut_body {X : Cx} {Φ : Calls} (C : CtxOk Γ Φ X) (BO : BodyOk X) : MayPut X (locB Γ.sc) := fun x h => ⟨by rw [C.sc]; exact loc_of h, .inl (BO.fn x)⟩
theorem Tgs.each {N : List Str} {g : Str → Bool} {env : PySem.Env} : ∀ {es : List Expr} {is : List Nat}, Tgs N g es is → (assignEach es env).length = is.length ∧ (assignEach es env).findIdx? (·.1) = none
  | _, _, .nil => ⟨rfl, rfl⟩
  | _, _, .cons (x := x) (pos := pos) (es := es) _ _ h3 => by
    obtain ⟨g1, g2⟩ := Tgs.each (env := env) h3
    refine ⟨by show ((false, assign (.Name x pos) env) :: assignEach es env).length = _; rw [List.length_cons, g1]; rfl, ?_⟩
    show ((false, assign (.Name x pos) env) :: assignEach es env).findIdx? (·.1) = none
    rw [List.findIdx?_cons, g2]
    rfl
def notTuple : Expr → Bool
  | .Tuple _ _ _ => false
  | _ => true
theorem stores_of {ts : List Expr} {k : Nat} {tpos : Pos} {env : PySem.Env} (h : notTuple e = true) : swappedStores [.Tuple ts k tpos] e env = pure none := by
  unfold swappedStores
  cases e <;> first | rfl | cases h
theorem sole_of {t : Expr} {l : Nat} {env : PySem.Env} (h : notComp e = true) : swapsWithSole [t] e l env = pure false := swap_of h
theorem snd_unp {ts : List Expr} {is : List Nat} {k : Nat} {tpos : Pos} (ht : Tgs Γ.N (locB Γ.sc) ts is) (hi : is.all (fun i => decide (Γ.np ≤ i)) = true) (h : SndE Γ e d p) (he : notComp e = true) (hn : notTuple e = true) : SndS Γ (.Assign [.Tuple ts k tpos] e pos) (dUnp is d) := by
  intro X Φ B F H ρ σ D W C BO bo hK T R hq
  obtain ⟨hl, hz⟩ := ht.each (env := X.env)
  refine PS.w (ps_asg pe_w (pg_tup C.calm (ht.pgs C (mayPut_body C BO)) hl hz) (sole_of he) (stores_of hn) rfl) ?_
  refine h X Φ B F H ρ σ _ W C hK T R (wp_mono (wp_bind (c := d Φ ρ) hq) (fun r q v F1 H1 R1 e1 _ hv => ?_) ExS.ex)
  obtain ⟨s, ρ1⟩ := r
  cases s with
  | val y =>
    cases y with
    | tuple ds =>
      have hv : Rp B.K F1 (.tuple ds) v := hv
      replace q : ((opt (setAll is ds ρ1)).bind fun ρ => Out.ok (Fl.nx, ρ)).wp (StP B F D) (ExS X B F W) := q
      cases g : setAll is ds ρ1 with
      | none => rw [g] at q; exact q.elim
      | some ρ2 =>
        rw [g] at q
        cases hv with
        | tup h1 h2 h3 =>
          exact ⟨_, _, rfl, .inl (.inr ⟨_, R1.kept.ex _ _ h1⟩), by rw [← rpAll_len h3, ← setAll_len _ _ _ _ g], setAll_ok is ds _ ρ1 ρ2 σ g h3 R1 (fun i hi' => Nat.le_trans bo.vs (of_decide_eq_true (List.all_eq_true.mp hi i hi'))) fun σ' R' => q σ' F1 H1 R' e1⟩
    | _ => exact q.elim
  | _ => exact q.elim

/-! ### changes of own lists -/
theorem Rel.alter {B : Bd} {F H : Hp} {ρ : Env} {σ : St} {s s' : Slot} {a : Addr} {o' : HO} (R : Rel B F H ρ σ) {i : Nat} (h : ρ[i]? = some s) (hs : s.isOwn = true) (ha : σ[i]? = some (some (.ref a))) (ho : OwnIs B.K F a o' s') : Rel B F (upd H a o') (ρ.set i s') σ := by
  obtain ⟨b, o, g1, g2, g3, g4, g5⟩ := R.sl.own i s h hs
  rw [ha] at g1
  cases g1
  have hs' := own_of_ownIs ho
  have hx : ∀ {c : Addr} {u : HO}, F c = some u → c ≠ a := fun {c u} q z => by subst z; rw [g2] at q; cases q
  refine ⟨⟨R.kept.ff, fun c u q => by rw [upd_ne (hx q)]; exact R.kept.ex _ _ q, fun c u q n => ?_, R.kept.nof, fun c q => ?_⟩, ⟨by rw [List.length_set]; exact R.sl.len, fun j d q => ?_, fun j ns q => ?_, fun j t q qs => ?_, R.sl.par, fun j m t u c ne q qs q' qs' e1 e2 => ?_⟩⟩
  · have : c ≠ a := fun z => by
      subst z
      rcases g5 with y | y
      · exact n ⟨i, y⟩
      · rw [q] at y; cases y
    rw [upd_ne this]
    exact R.kept.keep c u q n
  · by_cases z : c = a
    · subst z; rw [upd_same]; exact fun y => nomatch y
    · rw [upd_ne z]; exact R.kept.live c q
  · rcases set_get q with ⟨z1, z2, _⟩ | ⟨_, z⟩
    · rw [← z2] at hs'; cases hs'
    · exact R.sl.val j d z
  · rcases set_get q with ⟨z1, z2, _⟩ | ⟨_, z⟩
    · rw [← z2] at hs'; cases hs'
    · exact R.sl.scr j ns z
  · rcases set_get q with ⟨z1, z2, _⟩ | ⟨z1, z⟩
    · subst z1
      subst z2
      exact ⟨a, o', ha, g2, upd_same, ho, g5⟩
    · obtain ⟨c, u, k1, k2, k3, k4, k5⟩ := R.sl.own j t z qs
      have : c ≠ a := fun y => by subst y; exact R.sl.dis j i t s c z1 z qs h hs k1 ha
      exact ⟨c, u, k1, k2, by rw [upd_ne this]; exact k3, k4, k5⟩
  · rcases set_get q with ⟨z1, z2, _⟩ | ⟨z1, z⟩
    · subst z1
      rcases set_get q' with ⟨z3, _, _⟩ | ⟨z3, z4⟩
      · exact ne z3.symm
      · exact R.sl.dis j m s u c ne h hs z4 qs' e1 e2
    · rcases set_get q' with ⟨z3, _, _⟩ | ⟨z3, z4⟩
      · subst z3
        exact R.sl.dis j m t s c ne z qs h hs e1 e2
      · exact R.sl.dis j m t u c ne z qs z4 qs' e1 e2
theorem RpAll.app {K : PySem.W.Frag} {F : Hp} : ∀ {ds es : List PyData} {vs ws : List V}, RpAll K F ds vs → RpAll K F es ws → RpAll K F (ds ++ es) (vs ++ ws)
  | [], _, _, _, h, h' => by cases h; exact h'
  | _ :: _, _, _, _, h, h' => by
    cases h with
    | cons h1 h2 => exact .cons h1 (RpAll.app h2 h')
theorem RpAll.setAt {K : PySem.W.Frag} {F : Hp} {d : PyData} {v : V} (r : Rp K F d v) : ∀ {ds : List PyData} {vs : List V} (j : Nat), RpAll K F ds vs → RpAll K F (ds.set j d) (vs.set j v)
  | [], _, _, h => by cases h; exact .nil
  | _ :: _, _, 0, h => by
    cases h with
    | cons h1 h2 => exact .cons r h2
  | _ :: _, _, j + 1, h => by
    cases h with
    | cons h1 h2 => exact .cons h1 (RpAll.setAt r j h2)
theorem RpAll.at' {K : PySem.W.Frag} {F : Hp} : ∀ {ds : List PyData} {vs : List V} {j : Nat} {d : PyData}, RpAll K F ds vs → ds[j]? = some d → ∃ v, vs[j]? = some v ∧ Rp K F d v
  | [], _, _, _, _, q => by simp at q
  | _ :: _, _, 0, _, h, q => by
    cases h with
    | cons h1 h2 => simp at q; subst q; exact ⟨_, rfl, h1⟩
  | _ :: _, _, j + 1, _, h, q => by
    cases h with
    | cons h1 h2 =>
      obtain ⟨v, g1, g2⟩ := RpAll.at' (j := j) h2 (by simpa using q)
      exact ⟨v, by simpa using g1, g2⟩
theorem RpAll.take {K : PySem.W.Frag} {F : Hp} : ∀ {ds : List PyData} {vs : List V} (n : Nat), RpAll K F ds vs → RpAll K F (ds.take n) (vs.take n)
  | _, _, 0, _ => .nil
  | [], _, n + 1, h => by cases h; exact .nil
  | _ :: _, _, n + 1, h => by
    cases h with
    | cons h1 h2 => exact .cons h1 (RpAll.take n h2)
theorem RpAll.drop {K : PySem.W.Frag} {F : Hp} : ∀ {ds : List PyData} {vs : List V} (n : Nat), RpAll K F ds vs → RpAll K F (ds.drop n) (vs.drop n)
  | _, _, 0, h => h
  | [], _, n + 1, h => by cases h; exact .nil
  | _ :: _, _, n + 1, h => by
    cases h with
    | cons h1 h2 => exact RpAll.drop n h2
theorem RpAll.erase {K : PySem.W.Frag} {F : Hp} : ∀ {ds : List PyData} {vs : List V} (n : Nat), RpAll K F ds vs → RpAll K F (ds.eraseIdx n) (vs.eraseIdx n)
  | [], _, _, h => by cases h; exact .nil
  | _ :: _, _, 0, h => by
    cases h with
    | cons h1 h2 => exact h2
  | _ :: _, _, n + 1, h => by
    cases h with
    | cons h1 h2 => exact .cons h1 (RpAll.erase n h2)
def isOwnL (ρ : Env) (i : Nat) : Bool := match ρ[i]? with
  | some (.own _) => true
  | _ => false
theorem isOwnL_of {ρ : Env} {i : Nat} (h : isOwnL ρ i = true) : ∃ ds, ρ[i]? = some (.own ds) := by
  unfold isOwnL at h
  cases e : ρ[i]? with
  | none => rw [e] at h; cases h
  | some s =>
    rw [e] at h
    cases s with
    | own ds => exact ⟨ds, rfl⟩
    | _ => cases h
/-- x[k] = e, x an own list -/
def dSetIx (i : Nat) (k : DenO) (e : Den) : DenS := fun Φ ρ => (oOf e Φ ρ).bind fun r => guard' (isOwnL r.2 i) ((k Φ r.2).bind fun j => match j.1, j.2[i]? with
  | .int n, some (.own ds) => (opt (ixN ds.length n)).bind fun m => .ok (.nx, j.2.set i (.own (ds.set m r.1)))
  | _, _ => .stuck)
theorem snd_setIx {k : DenO} {pm : Bool} {p' : Bool} {xpos spos : Pos} (hN : Γ.N[i]? = some x) (hv : visB Γ.sc x = true) (hx : okName x = true) (h : SndE Γ e d p) (hk : SndO Γ c k p' pm) (he : notComp e = true) (hc : notSlice c = true) :
    SndS Γ (.Assign [.Subscript (.Name x xpos) c spos] e pos) (dSetIx i k d) := by
  intro X Φ B F H ρ σ D W C BO bo hK T R hq
  have P : PE X (.Name x xpos) (tVar i) := pe_var (by rw [C.nm]; exact hN) (by rw [C.sc]; exact vis_of hv) (okName_d hx) (okName_c hx)
  refine PS.w (ps_asg pe_w (pg_sub P pe_w set_list (by intro v; cases c <;> first | rfl | cases hc)) (sole_of he) (by unfold swappedStores; cases e <;> rfl) rfl) ?_
  refine snd_oOf h X Φ B F H ρ σ _ W C hK T R (wp_mono (wp_bind (c := oOf d Φ ρ) hq) (fun r q v F1 H1 R1 e1 _ hv => ?_) ExS.ex)
  obtain ⟨y, ρ1⟩ := r
  have hv : Rp B.K F1 y v := hv
  obtain ⟨ho, q⟩ := wp_guard q
  obtain ⟨ds, ho⟩ := isOwnL_of ho
  have R1 : Rel B F1 H1 ρ1 σ := R1
  obtain ⟨a, o, g1, g2, g3, g4, g5⟩ := R1.sl.own i _ ho rfl
  refine ⟨_, g1, ?_⟩
  refine hk X Φ B F1 H1 ρ1 σ _ W C hK T R1 (wp_mono (wp_bind (c := k Φ ρ1) q) (fun j q w F2 H2 R2 e3 _ hw => ?_) fun z q => ExS.ex z (ExS.mono e1 z q))
  obtain ⟨j, ρ2⟩ := j
  have R2 : Rel B F2 H2 ρ2 σ := R2
  cases j with
  | int n =>
    replace q : (match ρ2[i]? with
      | some (.own ds) => (opt (ixN ds.length n)).bind fun m => Out.ok (Fl.nx, ρ2.set i (.own (ds.set m y)))
      | _ => .stuck).wp (StP B F D) (ExS X B F W) := by
      cases z : ρ2[i]? with
      | none => simp only [z] at q; exact q
      | some s => simp only [z] at q; cases s <;> exact q
    cases z : ρ2[i]? with
    | none => rw [z] at q; exact q.elim
    | some s =>
      rw [z] at q
      cases s with
      | own ds2 =>
        obtain ⟨a', o', k1, k2, k3, k4, k5⟩ := R2.sl.own i _ z rfl
        rw [g1] at k1
        cases k1
        obtain ⟨vs, rfl, rv⟩ := k4
        replace q : ((opt (ixN ds2.length n)).bind fun m => Out.ok (Fl.nx, ρ2.set i (.own (ds2.set m y)))).wp (StP B F D) (ExS X B F W) := q
        cases hm : ixN ds2.length n with
        | none => rw [hm] at q; exact q.elim
        | some m =>
          rw [hm] at q
          exact ⟨a, vs, n, m, rfl, hw.bp.int, k3, by rw [← rpAll_len rv]; exact hm, q σ F2 _ (R2.alter z rfl g1 ⟨_, rfl, RpAll.setAt (hv.mono e3) m rv⟩) (e1.trans e3)⟩
      | _ => exact q.elim
  | _ =>
    cases z : ρ2[i]? with
    | none => simp only [z] at q; exact q.elim
    | some s => simp only [z] at q; cases s <;> exact q.elim
/-! ### methods that change an own list -/
abbrev MutF := List PyData → List PyData → Option (PyData × List PyData)
def RuleM (K : PySem.W.Frag) (r : V → List V → Hp → VK → Prop) (f : MutF) : Prop := ∀ (F H : Hp) (a : Addr) (ds as : List PyData) (vs avs : List V) (res : PyData) (ds' : List PyData) (Q : VK), Ex F H → F a = none → H a = some (.lst vs) → RpAll K F ds vs → RpAll K F as avs → f ds as = some (res, ds') →
  (∀ v vs', Rp K F res v → RpAll K F ds' vs' → Q v (upd H a (.lst vs'))) → r (.ref a) avs H Q
def dMut (i : Nat) (f : MutF) (as : DenOs) : Den := fun Φ ρ => guard' (isOwnL ρ i) ((as Φ ρ).bind fun r => match r.2[i]? with
  | some (.own ds) => (opt (f ds r.1)).bind fun m => .ok (.val m.1, r.2.set i (.own m.2))
  | _ => .stuck)
theorem mut_run {f : MutF} {r : V → List V → Hp → VK → Prop} {X : Cx} {B : Bd} {F H F1 H1 : Hp} {ρ1 : Env} {σ : St} {Q : VK} {W : WX} {as : List PyData} {avs : List V} {a : Addr} (hr : RuleM B.K r f) (R1 : Rel B F1 H1 ρ1 σ) (e1 : Ex F F1) (g1 : σ[i]? = some (some (.ref a))) (hv : RpAll B.K F1 as avs)
    (q : (match ρ1[i]? with
      | some (.own ds) => (opt (f ds as)).bind fun m => Out.ok (Slot.val m.1, ρ1.set i (.own m.2))
      | _ => .stuck).wp (EvP B F H σ false Q) (ExP X B F σ W)) : r (.ref a) avs H1 Q := by
  cases z : ρ1[i]? with
  | none => rw [z] at q; exact q.elim
  | some s =>
    rw [z] at q
    cases s with
    | own ds2 =>
      obtain ⟨a', o', k1, k2, k3, k4, k5⟩ := R1.sl.own i _ z rfl
      rw [g1] at k1
      cases k1
      obtain ⟨vs, rfl, rv⟩ := k4
      replace q : ((opt (f ds2 as)).bind fun m => Out.ok (Slot.val m.1, ρ1.set i (.own m.2))).wp (EvP B F H σ false Q) (ExP X B F σ W) := q
      cases hm : f ds2 as with
      | none => rw [hm] at q; exact q.elim
      | some m =>
        rw [hm] at q
        exact hr F1 H1 a ds2 as vs avs m.1 m.2 Q R1.kept.ex k2 k3 rv hv hm fun v vs' h1 h2 => q v F1 _ (R1.alter z rfl g1 ⟨_, rfl, h2⟩) e1 (fun z => nomatch z) h1
    | _ => exact q.elim
theorem snd_mut {f : MutF} {id : String} {m : Str} {r : V → List V → Hp → VK → Prop} {as : DenOs} {es : List Expr} {xpos apos : Pos} (slot : PySem.Slot "list" m id) (hty : typeOf (.builtin id) = pure (.type "method_descriptor")) (ho : ∀ (X : Cx), X.calm = true → MtR X id r) (hr : ∀ K, RuleM K r f)
    (hN : Γ.N[i]? = some x) (hv : visB Γ.sc x = true) (hx : okName x = true) (h : SndFs Γ (e :: es) as p) (he : (e :: es).all plainE = true) (hl : (e :: es).length < 20) (hline : (apos.endLine == pos.line) = true) : SndE Γ (.Call (.Attribute (.Name x xpos) m apos) (e :: es) [] pos) (dMut i f as) false := by
  intro X Φ B F H ρ σ Q W C hK T R hq
  have P : PE X (.Name x xpos) (tVar i) := pe_var (by rw [C.nm]; exact hN) (by rw [C.sc]; exact vis_of hv) (okName_d hx) (okName_c hx)
  have he' := he
  rw [List.all_cons, Bool.and_eq_true] at he'
  obtain ⟨h1, hq⟩ := wp_guard hq
  obtain ⟨ds, h1⟩ := isOwnL_of h1
  obtain ⟨a, o, g1, g2, g3, g4, g5⟩ := R.sl.own i _ h1 rfl
  obtain ⟨vs0, rfl, _⟩ := g4
  refine PE.w (pe_bm PySem.F.plainAttrs_list slot hty (ho X C.calm) P (pa_ws he) (base_of rfl) (few_of he hl) hline (star_of he'.1) (plain_any he'.2)) ⟨_, g1, .inl ⟨rfl, _, .inl (.inl g3)⟩, ?_⟩
  refine h X Φ B F H ρ σ _ W C hK T R (wp_mono (wp_bind (c := as Φ ρ) hq) (fun y q avs F1 H1 R1 e1 _ hv => ?_) fun _ z => z)
  exact mut_run (hr B.K) R1 e1 g1 hv q
end
end Dn

/-! Den6: loops and comprehensions. -/
namespace Dn
open PySem PySem.Spec L2
open PyProof.Rows hiding St

/-! ### targets -/
inductive Tgt | nm (i : Nat) | tp (is : List Nat)
def Tgt.isTp : Tgt → Bool
  | .nm _ => false
  | .tp _ => true
def Tgt.ix : Tgt → List Nat
  | .nm i => [i]
  | .tp is => is
def putT : Tgt → PyData → Env → Option Env
  | .nm i, d, ρ => some (ρ.set i (.val d))
  | .tp is, .tuple ds, ρ => setAll is ds ρ
  | .tp _, _, _ => none
/-- x stands for d as what a target takes -/
def Taken (tp : Bool) (K : PySem.W.Frag) (F H : Hp) (d : PyData) (x : V) : Prop := match tp with
  | false => Rp K F d x
  | true => ∀ ds, d = .tuple ds → ∃ a vs, x = .ref a ∧ SqT K H a vs ∧ RpAll K F ds vs
inductive TgtOk (N : List Str) (g : Str → Bool) : Expr → Tgt → Prop
  | nm {i : Nat} {x : Str} {pos : Pos} : N[i]? = some x → g x = true → TgtOk N g (.Name x pos) (.nm i)
  | tp {es : List Expr} {is : List Nat} {k : Nat} {pos : Pos} : Tgs N g es is → TgtOk N g (.Tuple es k pos) (.tp is)
def tgOf (K : PySem.W.Frag) : Tgt → TG
  | .nm i => gName i
  | .tp is => gTup K is.length (tgsOf is)
section
variable {Γ : Ctx} {X : Cx} {Φ : Calls} {g : Str → Bool} {tg : Expr} {t : Tgt}
theorem TgtOk.pg (C : CtxOk Γ Φ X) (hf : MayPut X g) (h : TgtOk Γ.N g tg t) : PG X tg (tgOf X.K t) := by
  cases h with
  | nm h1 h2 => exact pg_name (by rw [C.nm]; exact C.nd) (by rw [C.nm]; exact h1) (hf _ h2).1 (hf _ h2).2
  | tp h1 =>
    obtain ⟨hl, hz⟩ := h1.each (env := X.env)
    exact pg_tup C.calm (h1.pgs C hf) hl hz
theorem put_ok {B : Bd} {F H : Hp} {Q : St → Hp → Prop} {ρ ρ' : Env} {σ : St} {d : PyData} {x : V} (h : putT t d ρ = some ρ') (hx : Taken t.isTp B.K F H d x) (R : Rel B F H ρ σ) (hb : ∀ i ∈ t.ix, B.vs.length ≤ i) (q : ∀ σ', Rel B F H ρ' σ' → Q σ' H) : tgOf B.K t x σ H Q := by
  cases t with
  | nm i =>
    cases h
    exact q _ (R.put (s := .val d) hx i (hb i List.mem_cons_self))
  | tp is =>
    cases d with
    | tuple ds =>
      obtain ⟨a, vs, h1, h2, h3⟩ := hx ds rfl
      exact ⟨a, vs, h1, h2, by rw [← rpAll_len h3, ← setAll_len _ _ _ _ h], setAll_ok is ds vs ρ ρ' σ h h3 R hb q⟩
    | _ => cases h
end

/-! ### what is walked -/
/-- an iterator yields these -/
structure Src (tp : Bool) (K : PySem.W.Frag) (F : Hp) (J : It) (ds : List PyData) : Prop where
  go : ∀ (i : Nat) (H : Hp) (d : PyData), Ex F H → ds[i]? = some d → J.go i H ∧ ∀ x H', J.yld i H x H' → ∀ F2, Ex F F2 → Ex F2 H → (∀ a, H a ≠ none → H' a ≠ none) ∧ Grow F2 H F2 H' ∧ Taken tp K F2 H' d x
  stop : ∀ (i : Nat) (H : Hp), Ex F H → ds.length ≤ i → J.stop i H
def wI (X : Cx) (tg iter : Expr) : TI := fun σ H R => ∀ pins s, Inv X pins σ H s → wpAny (model X.prog X.w) X.A (eval iter X.env) (fun v s1 => wpAny (model X.prog X.w) X.A (pyIter v) (PIE X pins σ tg R) X.xe s1) X.xe s
theorem pi_w {X : Cx} {tg iter : Expr} : PI X tg iter (wI X tg iter) := ⟨fun pins s σ H R I h => h pins s I⟩
theorem _root_.L2.PI.w {X : Cx} {tg iter : Expr} {wi : TI} {σ : St} {H : Hp} {R : It → Hp → Prop} (h : PI X tg iter wi) (q : wi σ H R) : wI X tg iter σ H R := fun pins s I => h.run pins s σ H R I q
abbrev DenI := Calls → Env → Out (List PyData × Env)
def SrP (B : Bd) (F H : Hp) (σ : St) (p tp : Bool) (R : It → Hp → Prop) : List PyData × Env → Prop := fun r => ∀ J F' H', Rel B F' H' r.2 σ → Ex F F' → (p = true → Ex H H') → Src tp B.K F' J r.1 → R J H'
def SndI (Γ : Ctx) (tg iter : Expr) (d : DenI) (p tp : Bool) : Prop := ∀ (X : Cx) (Φ : Calls) (B : Bd) (F H : Hp) (ρ : Env) (σ : St) (R : It → Hp → Prop) (W : WX), CtxOk Γ Φ X → B.K = X.K → L2N.Takes X W → Rel B F H ρ σ →
  (d Φ ρ).wp (SrP B F H σ p tp R) (ExP X B F σ W) → wI X tg iter σ H R
/-- a list, a tuple -/
def iSeq (d : DenO) : DenI := fun Φ ρ => (d Φ ρ).bind fun r => match r.1 with
  | .list ds => .ok (ds, r.2)
  | .tuple ds => .ok (ds, r.2)
  | _ => .stuck
def rngD (lo : Int) (n : Nat) : List PyData := (List.range n).map fun i => .int (lo + (i : Nat))
@[irreducible] def small62 (i : Int) : Bool := decide (-(2 ^ 62) ≤ i) && decide (i < 2 ^ 62)
def iR1 (a : DenO) : DenI := fun Φ ρ => (a Φ ρ).bind fun r => match r.1 with
  | .int n => guard' (small62 n) (.ok (rngD 0 n.toNat, r.2))
  | _ => .stuck
def iR2 (a b : DenO) : DenI := fun Φ ρ => (a Φ ρ).bind fun r => (b Φ r.2).bind fun s => match r.1, s.1 with
  | .int i, .int j => guard' (small62 i && small62 j) (.ok (rngD i (j - i).toNat, s.2))
  | _, _ => .stuck
section
variable {Γ : Ctx} {tg e a b : Expr} {d d' : DenO} {p p' m m' tp : Bool} {fpos pos : Pos}
theorem taken_of {K : PySem.W.Frag} {F H : Hp} {d : PyData} {x : V} (e : Ex F H) (h : Rp K F d x) : Taken tp K F H d x := by
  cases tp with
  | false => exact h
  | true =>
    intro ds z
    subst z
    cases h with
    | tup h1 h2 h3 => exact ⟨_, _, rfl, .inl (.inr ⟨_, e _ _ h1⟩), h3⟩
theorem src_list {K : PySem.W.Frag} {F : Hp} {l : Addr} {vs : List V} {ds : List PyData} (h : F l = some (.lst vs)) (r : RpAll K F ds vs) : Src tp K F (Itl K l) ds := by
  refine ⟨fun i H d e q => ?_, fun i H e q => ⟨vs, .inl (.inl (e _ _ h)), by rw [← rpAll_len r]; exact q⟩⟩
  obtain ⟨v, h1, h2⟩ := RpAll.at' r q
  refine ⟨⟨vs, v, .inl (.inl (e _ _ h)), h1⟩, fun x H' y F2 e2 e3 => ?_⟩
  obtain ⟨z, y⟩ := y
  subst z
  have ex := y vs (.inl (.inl (e _ _ h)))
  rw [h1] at ex
  cases ex
  exact ⟨fun _ z => z, .refl e3, taken_of e3 (h2.mono e2)⟩
theorem src_tup {K : PySem.W.Frag} {F : Hp} {l : Addr} {o : Obj} {vs : List V} {ds : List PyData} (h : F l = some (.frz o (.tup vs))) (r : RpAll K F ds vs) : Src tp K F (Itt K l) ds := by
  have s : ∀ {H : Hp}, Ex F H → SqT K H l vs := fun e => .inl (.inr ⟨o, e _ _ h⟩)
  refine ⟨fun i H d e q => ?_, fun i H e q => ⟨vs, s e, by rw [← rpAll_len r]; exact q⟩⟩
  obtain ⟨v, h1, h2⟩ := RpAll.at' r q
  refine ⟨⟨vs, v, s e, h1⟩, fun x H' y F2 e2 e3 => ?_⟩
  obtain ⟨z, y⟩ := y
  subst z
  have ex := y vs (s e)
  rw [h1] at ex
  cases ex
  exact ⟨fun _ z => z, .refl e3, taken_of e3 (h2.mono e2)⟩
theorem src_rng {K : PySem.W.Frag} {F : Hp} {lo : Int} {n : Nat} : Src false K F (Itr lo n) (rngD lo n) := by
  have hl : (rngD lo n).length = n := by simp [rngD]
  refine ⟨fun i H d e q => ?_, fun i H e q => by show n ≤ i; rw [← hl]; exact q⟩
  have hi : i < n := by rw [← hl]; exact (List.getElem?_eq_some_iff.mp q).1
  refine ⟨hi, fun x H' y F2 e2 e3 => ?_⟩
  obtain ⟨z, y⟩ := y
  subst z
  subst y
  have : d = .int (lo + (i : Nat)) := by
    unfold rngD at q
    rw [List.getElem?_map, List.getElem?_range hi] at q
    exact (Option.some.inj q).symm
  subst this
  exact ⟨fun _ z => z, .refl e3, Rp.int _⟩
/-- a list or a tuple, whichever comes -/
theorem pi_seq {X : Cx} {l : Expr} {tl : TE} (hl : PE X l tl) : PI X tg l (fun σ H R => tl σ H fun x H1 => (∃ a, x = .ref a ∧ (∃ xs, SqL X.K H1 a xs) ∧ R (Itl X.K a) H1) ∨ (∃ a, x = .ref a ∧ (∃ xs, SqT X.K H1 a xs) ∧ R (Itt X.K a) H1)) := by
  refine ⟨fun pins s σ H R I h => ?_⟩
  refine thn (hl.run pins s σ H _ I h) fun v s1 ⟨x, H1, I1, r1, q1⟩ => ?_
  rcases q1 with ⟨a, e, ⟨xs, hq⟩, q⟩ | ⟨a, e, ⟨xs, hq⟩, q⟩
  · subst e
    cases r1
    obtain ⟨its, rv, p, hz⟩ := I1.list hq
    refine wpAny_pyIter_list p.isList ?_
    refine ⟨s1.heap.objs.size, [s1.heap.objs.size], _, _, H1, rfl, I1.kept (t' := s1.toks) fun b o e => Heap.get?_push_of_some _ e, turn_list a _, ⟨_, Heap.get?_push_size _ rfl, rfl, rfl⟩, fun b hb => ?_, q⟩
    have e : b = s1.heap.objs.size := by simpa using hb
    subst e
    exact I1.fpOk (Nat.le_refl _) (I1.hok.fresh (Nat.le_refl _))
  · subst e
    cases r1
    obtain ⟨its, rv, p, hz⟩ := I1.tuple hq
    refine wpAny_pyIter_tuple (show s1.heap.IsTuple a its.toArray from p) ?_
    refine ⟨s1.heap.objs.size, [s1.heap.objs.size], _, _, H1, rfl, I1.kept (t' := s1.toks) fun b o e => Heap.get?_push_of_some _ e, turn_tuple a _, ⟨_, Heap.get?_push_size _ rfl, rfl, rfl⟩, fun b hb => ?_, q⟩
    have e : b = s1.heap.objs.size := by simpa using hb
    subst e
    exact I1.fpOk (Nat.le_refl _) (I1.hok.fresh (Nat.le_refl _))
theorem snd_iSeq (h : SndO Γ e d p false) : SndI Γ tg e (iSeq d) p tp := by
  intro X Φ B F H ρ σ R W C hK T Rl hq
  refine PI.w (pi_seq pe_w) ?_
  refine h X Φ B F H ρ σ _ W C hK T Rl (wp_mono (wp_bind (c := d Φ ρ) hq) (fun y q v F1 H1 R1 e1 e2 hv => ?_) fun _ q => q)
  obtain ⟨y, ρ1⟩ := y
  have hv : Rp B.K F1 y v := hv
  cases y with
  | list ds =>
    cases hv with
    | lst h1 h2 => exact .inl ⟨_, rfl, ⟨_, .inl (.inl (R1.kept.ex _ _ h1))⟩, q _ F1 H1 R1 e1 e2 (hK ▸ src_list h1 h2)⟩
  | tuple ds =>
    cases hv with
    | tup h1 h2 h3 => exact .inr ⟨_, rfl, ⟨_, .inl (.inr ⟨_, R1.kept.ex _ _ h1⟩)⟩, q _ F1 H1 R1 e1 e2 (hK ▸ src_tup h1 h3)⟩
  | _ => exact q.elim
theorem small_of {i : Int} (h : small62 i = true) : -(2 ^ 62) ≤ i ∧ i < 2 ^ 62 := by
  unfold small62 at h
  simp only [Bool.and_eq_true, decide_eq_true_eq] at h
  exact h
theorem snd_iR1 (h : SndO Γ a d p m) (he : plainE a = true) (hg : Γ.sc.names.lookup ("range" : Str) = some .globalImplicit) (hf : ("range" : Str) ∈ Γ.blts) : SndI Γ tg (.Call (.Name "range" fpos) [a] [] pos) (iR1 d) p false := by
  intro X Φ B F H ρ σ R W C hK T Rl hq
  refine PI.w (pi_range1 (gl_of C hg) (C.blt _ hf) (pa_cons pe_w pa_nil (star_of he)) (star_of he)) ?_
  refine h X Φ B F H ρ σ _ W C hK T Rl (wp_mono (wp_bind (c := d Φ ρ) hq) (fun y q v F1 H1 R1 e1 e2 hv => ?_) fun _ q => q)
  obtain ⟨y, ρ1⟩ := y
  cases y with
  | int n =>
    obtain ⟨g, q⟩ := wp_guard q
    have := small_of g
    have hv := hv.bp.int
    subst hv
    exact ⟨n, rfl, this.1, this.2, q _ F1 H1 R1 e1 e2 src_rng⟩
  | _ => exact q.elim
theorem snd_iR2 (h : SndO Γ a d p m) (h' : SndO Γ b d' p' m') (he : plainE a = true) (he' : plainE b = true) (hg : Γ.sc.names.lookup ("range" : Str) = some .globalImplicit) (hf : ("range" : Str) ∈ Γ.blts) : SndI Γ tg (.Call (.Name "range" fpos) [a, b] [] pos) (iR2 d d') (p && p') false := by
  intro X Φ B F H ρ σ R W C hK T Rl hq
  refine PI.w (pi_range2 (gl_of C hg) (C.blt _ hf) (pa_cons pe_w (pa_cons pe_w pa_nil (star_of he')) (star_of he)) (by rw [star_of he, star_of he']; rfl) (star_of he')) ?_
  refine h X Φ B F H ρ σ _ W C hK T Rl (wp_mono (wp_bind (c := d Φ ρ) hq) (fun y q v F1 H1 R1 e1 e2 hv => ?_) fun _ q => q)
  refine h' X Φ B F1 H1 y.2 σ _ W C hK T R1 (wp_mono (wp_bind (c := d' Φ y.2) q) (fun z q w F2 H2 R2 e3 e4 hw => ?_) (ExP.mono e1))
  obtain ⟨y, ρ1⟩ := y
  obtain ⟨z, ρ2⟩ := z
  cases y with
  | int i =>
    cases z with
    | int j =>
      obtain ⟨g, q⟩ := wp_guard q
      rw [Bool.and_eq_true] at g
      have g1 := small_of g.1
      have g2 := small_of g.2
      have hv := hv.bp.int
      have hw := hw.bp.int
      subst hv
      subst hw
      exact ⟨i, j, rfl, ⟨g1.1, g1.2, g2.1, g2.2⟩, q _ F2 H2 R2 (e1.trans e3) (fun z => by rw [Bool.and_eq_true] at z; exact (e2 z.1).trans (e4 z.2)) src_rng⟩
    | _ => exact q.elim
  | _ => exact q.elim
end

/-! ### for -/
def forL (f : PyData → Env → Out (Fl × Env)) : List PyData → Env → Out (Fl × Env)
  | [], ρ => .ok (.nx, ρ)
  | d :: ds, ρ => (f d ρ).bind fun r => match r.1 with
    | .nx => forL f ds r.2
    | .cnt => forL f ds r.2
    | .brk => .ok (.nx, r.2)
    | .ret s => .ok (.ret s, r.2)
def dFor (t : Tgt) (s : DenI) (b : DenS) : DenS := fun Φ ρ => (s Φ ρ).bind fun r => forL (fun d ρ => (opt (putT t d ρ)).bind fun ρ => b Φ ρ) r.1 r.2
theorem folded_of {e : Expr} {env : PySem.Env} (h : notSet e = true) (x : Value) : foldedSetIterable e env x = pure x := by
  unfold foldedSetIterable
  cases e <;> first | rfl | cases h
section
variable {Γ : Ctx} {tg iter : Expr} {s : DenI} {b : DenS} {t : Tgt} {body : List Stmt} {p : Bool} {pos : Pos}
theorem snd_for (hs : SndI Γ tg iter s p t.isTp) (ht : TgtOk Γ.N (locB Γ.sc) tg t) (hi : t.ix.all (fun i => decide (Γ.np ≤ i)) = true) (hb : SndSs Γ body b) (hn : notSet iter = true) : SndS Γ (.For tg iter body [] pos) (dFor t s b) := by
  intro X Φ B F H ρ σ D W C BO bo hK T R hq
  refine PS.w (ps_for BO.hp C.calm pi_w (ht.pg C (mayPut_body C BO)) pss_w (folded_of hn)) ?_
  refine hs X Φ B F H ρ σ _ W C hK T R (wp_mono (wp_bind (c := s Φ ρ) hq) (fun r q J F1 H1 R1 e1 _ hJ => ?_) ExS.ex)
  obtain ⟨ds, ρ1⟩ := r
  have hvs : ∀ i ∈ t.ix, B.vs.length ≤ i := fun i hi' => Nat.le_trans bo.vs (of_decide_eq_true (List.all_eq_true.mp hi i hi'))
  refine ⟨fun i m σ H => m = ds.length - i ∧ i ≤ ds.length ∧ ∃ F' ρ', Rel B F' H ρ' σ ∧ Ex F1 F' ∧ (forL (fun d ρ => (opt (putT t d ρ)).bind fun ρ => b Φ ρ) (ds.drop i) ρ').wp (StP B F' D) (ExS X B F' W), ⟨_, rfl, Nat.zero_le _, F1, ρ1, R1, .refl F1, wp_mono (by rw [List.drop_zero]; exact q) (StP.mono e1) (ExS.mono e1)⟩, fun i m σ H hW => ?_⟩
  obtain ⟨rfl, hi, F', ρ', R', e', q'⟩ := hW
  by_cases hlt : i < ds.length
  · right
    obtain ⟨d, hd⟩ : ∃ d, ds[i]? = some d := ⟨_, List.getElem?_eq_getElem hlt⟩
    obtain ⟨go, yl⟩ := hJ.go i H d (e'.trans R'.kept.ex) hd
    refine ⟨go, fun σ H => ∃ F' ρ', Rel B F' H ρ' σ ∧ Ex F1 F' ∧ (forL (fun d ρ => (opt (putT t d ρ)).bind fun ρ => b Φ ρ) (ds.drop (i + 1)) ρ').wp (StP B F' D) (ExS X B F' W), fun σ' H' n => ⟨ds.length - (i + 1), by omega, rfl, hlt, n⟩, fun x H' y => ?_⟩
    obtain ⟨_, gr, tk⟩ := yl x H' y F' e' R'.kept.ex
    have ed : ds.drop i = d :: ds.drop (i + 1) := by
      have := List.drop_eq_getElem_cons hlt
      rw [this]
      rw [List.getElem?_eq_getElem hlt] at hd
      rw [Option.some.inj hd]
    rw [ed] at q'
    have q' := wp_bind (c := (opt (putT t d ρ')).bind fun ρ => b Φ ρ) q'
    have R2 := R'.add gr
    cases g : putT t d ρ' with
    | none => rw [g] at q'; exact q'.elim
    | some ρ2 =>
      rw [g] at q'
      replace q' : (b Φ ρ2).wp _ _ := q'
      rw [← hK]
      refine put_ok g tk R2 hvs fun σ2 R3 => ?_
      refine hb X Φ B F' H' ρ2 σ2 _ W C BO bo hK T R3 (wp_mono q' (fun r q2 => ?_) fun _ z => z)
      obtain ⟨f, ρ3⟩ := r
      cases f with
      | nx => exact fun σ3 F3 H3 R4 e4 => ⟨F3, ρ3, R4, e'.trans e4, wp_mono q2 (StP.mono e4) (ExS.mono e4)⟩
      | cnt => exact fun σ3 F3 H3 R4 e4 => ⟨F3, ρ3, R4, e'.trans e4, wp_mono q2 (StP.mono e4) (ExS.mono e4)⟩
      | brk => exact q2
      | ret s => exact q2
  · left
    have ei : i = ds.length := by omega
    subst ei
    refine ⟨hJ.stop _ H (e'.trans R'.kept.ex) (Nat.le_refl _), ?_⟩
    rw [List.drop_length] at q'
    exact q' σ F' H R' (.refl F')
/-! ### while -/
def whileN (c : Den) (b : DenS) (Φ : Calls) : Nat → Env → Out (Fl × Env)
  | 0, _ => .stuck
  | n + 1, ρ => (c Φ ρ).bind fun r => match r.1 with
    | .val (.bool true) => (b Φ r.2).bind fun s => match s.1 with
      | .nx => whileN c b Φ n s.2
      | .cnt => whileN c b Φ n s.2
      | .brk => .ok (.nx, s.2)
      | .ret x => .ok (.ret x, s.2)
    | .val (.bool false) => .ok (.nx, r.2)
    | _ => .stuck
def turnsMost : Nat := 100000
def dWhile (c : Den) (b : DenS) : DenS := fun Φ ρ => whileN c b Φ turnsMost ρ
theorem snd_while {c : Expr} {d : Den} (hc : SndT Γ c d p) (hb : SndSs Γ body b) : SndS Γ (.While c body [] pos) (dWhile d b) := by
  intro X Φ B F H ρ σ D W C BO bo hK T R hq
  refine PS.w (ps_while BO.hp pt_w pss_w) ⟨fun m σ H => ∃ F' ρ', Rel B F' H ρ' σ ∧ Ex F F' ∧ (whileN d b Φ m ρ').wp (StP B F' D) (ExS X B F' W), ⟨turnsMost, F, ρ, R, .refl F, hq⟩, fun m σ H hW => ?_⟩
  obtain ⟨F', ρ', R', e', q'⟩ := hW
  cases m with
  | zero => exact q'.elim
  | succ n =>
    refine hc X Φ B F' H ρ' σ _ W C hK T R' (wp_mono (wp_bind (c := d Φ ρ') q') (fun r q => ?_) ExS.ex)
    obtain ⟨s, ρ1⟩ := r
    cases s with
    | val z =>
      cases z with
      | bool k =>
        refine ⟨k, rfl, fun F1 H1 R1 e1 _ => ?_⟩
        cases k with
        | true =>
          refine iteT ⟨fun σ H => ∃ F' ρ', Rel B F' H ρ' σ ∧ Ex F F' ∧ (whileN d b Φ n ρ').wp (StP B F' D) (ExS X B F' W), fun σ' H' z => ⟨n, Nat.lt_succ_self n, z⟩, ?_⟩
          refine hb X Φ B F1 H1 ρ1 σ _ W C BO bo hK T R1 (wp_mono (wp_bind (c := b Φ ρ1) q) (fun r q2 => ?_) (ExS.mono e1))
          obtain ⟨f, ρ3⟩ := r
          cases f with
          | nx => exact fun σ3 F3 H3 R4 e4 => ⟨F3, ρ3, R4, (e'.trans e1).trans e4, wp_mono q2 (StP.mono (e1.trans e4)) (ExS.mono (e1.trans e4))⟩
          | cnt => exact fun σ3 F3 H3 R4 e4 => ⟨F3, ρ3, R4, (e'.trans e1).trans e4, wp_mono q2 (StP.mono (e1.trans e4)) (ExS.mono (e1.trans e4))⟩
          | brk => exact fun σ3 F3 H3 R4 e4 => q2 σ3 F3 H3 R4 (e1.trans e4)
          | ret s => exact fun σ3 v F3 H3 R4 e4 => q2 σ3 v F3 H3 R4 (e1.trans e4)
        | false => exact iteF (q σ F1 H1 R1 e1)
      | _ => exact q.elim
    | _ => exact q.elim
end
end Dn

/-! Den7: comprehensions. -/
namespace Dn
open PySem PySem.Spec L2
open PyProof.Rows hiding St

def wipeE (vs : List Nat) (ρ : Env) : Env := vs.foldr (fun i ρ => ρ.set i .un) ρ
/-- the block's own names are as they were -/
def unwipe : List Nat → Env → Env → Env
  | [], _, ρ => ρ
  | i :: is, ρ0, ρ => match ρ0[i]? with
    | some (.val d) => (unwipe is ρ0 ρ).set i (.val d)
    | _ => unwipe is ρ0 ρ
def noX {α : Type} (c : Out α) : Out α := match c with
  | .exc _ => .stuck
  | c => c
def lcL (f : PyData → Env → Out (Option PyData × Env)) : List PyData → Env → Out (List PyData × Env)
  | [], ρ => .ok ([], ρ)
  | d :: ds, ρ => (f d ρ).bind fun r => (lcL f ds r.2).bind fun z => .ok (r.1.toList ++ z.1, z.2)
/-- one turn -/
def lcT (t : Tgt) (c e : Den) (vs : List Nat) (Φ : Calls) (d : PyData) (ρ : Env) : Out (Option PyData × Env) := (opt (putT t d ρ)).bind fun ρ => (c Φ ρ).bind fun b => match b.1 with
  | .val (.bool true) => (oOf e Φ b.2).bind fun y => .ok (some y.1, wipeE vs y.2)
  | .val (.bool false) => .ok (none, wipeE vs b.2)
  | _ => .stuck
def dLc (t : Tgt) (s : DenI) (c e : Den) (vs : List Nat) : Den := fun Φ ρ => (s Φ ρ).bind fun r => guard' (decide (r.1.length ≤ 1000000)) ((noX (lcL (lcT t c e vs Φ) r.1 (wipeE vs r.2))).bind fun z => .ok (.own z.1, unwipe vs r.2 z.2))
def dYes : Den := fun _ ρ => .ok (.val (.bool true), ρ)

section
variable {B : Bd} {F H F' H' : Hp} {ρ ρ' ρ0 : Env} {σ : St}
theorem wipeE_len (vs : List Nat) : ∀ ρ : Env, (wipeE vs ρ).length = ρ.length := by
  induction vs with
  | nil => intro ρ; rfl
  | cons v vs ih => intro ρ; show ((wipeE vs ρ).set v .un).length = _; rw [List.length_set, ih]
theorem wipeE_get {vs : List Nat} {j : Nat} {s : Slot} : ∀ {ρ : Env}, (wipeE vs ρ)[j]? = some s → s ≠ .un → ρ[j]? = some s ∧ j ∉ vs := by
  induction vs with
  | nil => intro ρ h _; exact ⟨h, by simp⟩
  | cons v vs ih =>
    intro ρ h hs
    have h : ((wipeE vs ρ).set v .un)[j]? = some s := h
    rcases set_get h with ⟨_, z, _⟩ | ⟨z1, z2⟩
    · exact absurd z hs
    · obtain ⟨g1, g2⟩ := ih z2 hs
      exact ⟨g1, by simp only [List.mem_cons, not_or]; exact ⟨z1, g2⟩⟩
theorem wipe_ne {i : Nat} : ∀ {vs : List Nat}, i ∉ vs → (wipe σ vs)[i]? = σ[i]?
  | [], _ => rfl
  | v :: vs, h => by
    simp only [List.mem_cons, not_or] at h
    show ((wipe σ vs).set v none)[i]? = _
    rw [List.getElem?_set_ne (Ne.symm h.1), wipe_ne h.2]
/-- into the block: another ground, no parameters; D the new list -/
def Bd.blk (B : Bd) (F H : Hp) (ρ : Env) (σ : St) (D : Addr) : Bd := ⟨B.K, F, H, fun i a => ownedI ρ σ i a ∨ (a = D ∧ i = ρ.length), []⟩
theorem Rel.blk {D : Addr} (R : Rel B F H ρ σ) (vs : List Nat) : Rel (B.blk F H ρ σ D) F H (wipeE vs ρ) (wipe σ vs) := by
  refine ⟨⟨.refl F, R.kept.ex, fun _ _ h _ => h, fun _ _ h _ => h, fun _ h => h⟩, ⟨by rw [wipeE_len, wipe_length]; exact R.sl.len, fun i d q => ?_, fun i ns q => ?_, fun i s q qs => ?_, fun i v q => by simp [Bd.blk] at q, fun i j s t a ne q qs q' qs' e1 e2 => ?_⟩⟩
  · obtain ⟨g1, g2⟩ := wipeE_get q (fun z => nomatch z)
    obtain ⟨v, k1, k2⟩ := R.sl.val i d g1
    exact ⟨v, by rw [wipe_ne g2]; exact k1, k2⟩
  · obtain ⟨g1, g2⟩ := wipeE_get q (fun z => nomatch z)
    obtain ⟨v, k1, k2⟩ := R.sl.scr i ns g1
    exact ⟨v, by rw [wipe_ne g2]; exact k1, k2⟩
  · obtain ⟨g1, g2⟩ := wipeE_get q (fun z => by rw [z] at qs; cases qs)
    obtain ⟨a, o, k1, k2, k3, k4, k5⟩ := R.sl.own i s g1 qs
    exact ⟨a, o, by rw [wipe_ne g2]; exact k1, k2, k3, k4, .inl (.inl ⟨s, g1, qs, k1⟩)⟩
  · obtain ⟨g1, g2⟩ := wipeE_get q (fun z => by rw [z] at qs; cases qs)
    obtain ⟨g3, g4⟩ := wipeE_get q' (fun z => by rw [z] at qs'; cases qs')
    rw [wipe_ne g2] at e1
    rw [wipe_ne g4] at e2
    exact R.sl.dis i j s t a ne g1 qs g3 qs' e1 e2
/-- out of the block -/
theorem unwipe_get {j : Nat} {s : Slot} : ∀ {vs : List Nat}, (unwipe vs ρ0 ρ)[j]? = some s → (j ∈ vs ∧ ∃ d, s = .val d ∧ ρ0[j]? = some (.val d)) ∨ ρ[j]? = some s
  | [], h => .inr h
  | v :: vs, h => by
    have h : (match ρ0[v]? with
      | some (.val d) => (unwipe vs ρ0 ρ).set v (.val d)
      | _ => unwipe vs ρ0 ρ)[j]? = some s := h
    cases e : ρ0[v]? with
    | none =>
      rw [e] at h
      rcases unwipe_get h with ⟨z1, z2⟩ | z
      · exact .inl ⟨List.mem_cons_of_mem _ z1, z2⟩
      · exact .inr z
    | some t =>
      rw [e] at h
      cases t with
      | val d =>
        rcases set_get h with ⟨z1, z2, _⟩ | ⟨z1, z2⟩
        · subst z1; exact .inl ⟨List.mem_cons_self, d, z2, e⟩
        · rcases unwipe_get z2 with ⟨z1, z2⟩ | z
          · exact .inl ⟨List.mem_cons_of_mem _ z1, z2⟩
          · exact .inr z
      | _ =>
        rcases unwipe_get h with ⟨z1, z2⟩ | z
        · exact .inl ⟨List.mem_cons_of_mem _ z1, z2⟩
        · exact .inr z
theorem unwipe_len : ∀ vs : List Nat, (unwipe vs ρ0 ρ).length = ρ.length
  | [] => rfl
  | v :: vs => by
    show (match ρ0[v]? with
      | some (.val d) => (unwipe vs ρ0 ρ).set v (.val d)
      | _ => unwipe vs ρ0 ρ).length = _
    split
    · rw [List.length_set, unwipe_len vs]
    · exact unwipe_len vs
/-- D is nobody's within the block -/
theorem Rel.notD {D : Addr} {σ' : St} (R : Rel B F H ρ σ) (R' : Rel (B.blk F H ρ σ D) F' H' ρ' σ') (hl : σ'.length = σ.length) (hD : H D ≠ none) (hn : ¬ owned ρ σ D) : ¬ owned ρ' σ' D := fun ⟨i, t, q, qs, e⟩ => by
  obtain ⟨a, o, k1, k2, k3, k4, k5⟩ := R'.sl.own i t q qs
  rw [e] at k1
  cases k1
  rcases k5 with (⟨s, z1, z2, z3⟩ | ⟨_, z⟩) | z
  · exact hn ⟨i, s, z1, z2, z3⟩
  · have h1 := (List.getElem?_eq_some_iff.mp q).1
    have h2 := R'.sl.len
    have h3 := R.sl.len
    omega
  · exact hD z
theorem Rel.unblk {D : Addr} {vs : List Nat} (h0 : B.H0 D = none) (R : Rel B F H ρ σ) (R' : Rel (B.blk F H ρ σ D) F' H' ρ' (wipe σ vs)) (hw : ∀ i ∈ vs, ∀ s, ρ'[i]? = some s → s = .un) : Rel B F' H' (unwipe vs ρ ρ') σ := by
  have get : ∀ {i : Nat} {s : Slot}, (unwipe vs ρ ρ')[i]? = some s → s.isOwn = true → ρ'[i]? = some s ∧ i ∉ vs := fun {i s} q qs => by
    rcases unwipe_get q with ⟨_, d, z, _⟩ | z
    · rw [z] at qs; cases qs
    · exact ⟨z, fun m => by rw [hw i m s z] at qs; cases qs⟩
  have ls : ∀ a, (∃ i, ownedI ρ σ i a ∨ (a = D ∧ i = ρ.length)) → B.La a ∨ B.H0 a = none := fun a ⟨i, h⟩ => by
    rcases h with h | ⟨h, _⟩
    · exact (R.lentI i a h).imp (fun z => ⟨i, z⟩) id
    · subst h; exact .inr h0
  refine ⟨R.kept.trans R'.kept ls, ⟨?_, fun i d q => ?_, fun i ns q => ?_, fun i s q qs => ?_, R.sl.par, fun i j s t a ne q qs q' qs' e1 e2 => ?_⟩⟩
  · rw [unwipe_len]
    have := R'.sl.len
    rw [wipe_length] at this
    exact this
  · rcases unwipe_get q with ⟨_, d', z, z2⟩ | z
    · cases z
      obtain ⟨v, k1, k2⟩ := R.sl.val i d z2
      exact ⟨v, k1, k2.mono R'.kept.ff⟩
    · have ni : i ∉ vs := fun m => by have := hw i m _ z; cases this
      obtain ⟨v, k1, k2⟩ := R'.sl.val i d z
      exact ⟨v, by rw [wipe_ne ni] at k1; exact k1, k2⟩
  · rcases unwipe_get q with ⟨_, d', z, z2⟩ | z
    · cases z
    · have ni : i ∉ vs := fun m => by have := hw i m _ z; cases this
      obtain ⟨v, k1, k2⟩ := R'.sl.scr i ns z
      exact ⟨v, by rw [wipe_ne ni] at k1; exact k1, k2⟩
  · obtain ⟨g1, g2⟩ := get q qs
    obtain ⟨a, o, k1, k2, k3, k4, k5⟩ := R'.sl.own i s g1 qs
    refine ⟨a, o, by rw [wipe_ne g2] at k1; exact k1, k2, k3, k4, ?_⟩
    rcases k5 with (z | ⟨_, z⟩) | z
    · exact R.lentI i a z
    · have h1 := (List.getElem?_eq_some_iff.mp g1).1
      have h2 := R'.sl.len
      have h3 := R.sl.len
      rw [wipe_length] at h2
      omega
    · exact .inr (R.kept.old z)
  · obtain ⟨g1, g2⟩ := get q qs
    obtain ⟨g3, g4⟩ := get q' qs'
    exact R'.sl.dis i j s t a ne g1 qs g3 qs' (by rw [wipe_ne g2]; exact e1) (by rw [wipe_ne g4]; exact e2)
/-- an object that is nobody's changes -/
theorem Rel.other {D : Addr} {o : HO} (R : Rel B F H ρ σ) (hF : F D = none) (h0 : B.La D ∨ B.H0 D = none) (hn : ¬ owned ρ σ D) : Rel B F (upd H D o) ρ σ := by
  refine ⟨⟨R.kept.ff, fun c u q => ?_, fun c u q n => ?_, R.kept.nof, fun c q => ?_⟩, ⟨R.sl.len, R.sl.val, R.sl.scr, fun i s q qs => ?_, R.sl.par, R.sl.dis⟩⟩
  · rw [upd_ne (fun z => by subst z; rw [hF] at q; cases q)]; exact R.kept.ex _ _ q
  · rw [upd_ne (fun z => by
      subst z
      rcases h0 with y | y
      · exact n y
      · rw [y] at q; cases q)]; exact R.kept.keep c u q n
  · by_cases z : c = D
    · subst z; rw [upd_same]; exact fun y => nomatch y
    · rw [upd_ne z]; exact R.kept.live c q
  · obtain ⟨a, u, k1, k2, k3, k4, k5⟩ := R.sl.own i s q qs
    exact ⟨a, u, k1, k2, by rw [upd_ne (fun z => by subst z; exact hn ⟨i, s, q, qs, k1⟩)]; exact k3, k4, k5⟩
/-- forgetting names, their values too -/
theorem Rel.wipe (R : Rel B F H ρ σ) (hv : B.vs = []) {vs : List Nat} {σ' : St} (hw : L2.wipe σ vs = σ') : Rel B F H (wipeE vs ρ) σ' := by
  subst hw
  refine ⟨R.kept, ⟨by rw [wipeE_len, wipe_length]; exact R.sl.len, fun i d q => ?_, fun i ns q => ?_, fun i s q qs => ?_, fun i v q => by rw [hv] at q; simp at q, fun i j s t a ne q qs q' qs' e1 e2 => ?_⟩⟩
  · obtain ⟨g1, g2⟩ := wipeE_get q (fun z => nomatch z)
    obtain ⟨v, k1, k2⟩ := R.sl.val i d g1
    exact ⟨v, by rw [wipe_ne g2]; exact k1, k2⟩
  · obtain ⟨g1, g2⟩ := wipeE_get q (fun z => nomatch z)
    obtain ⟨v, k1, k2⟩ := R.sl.scr i ns g1
    exact ⟨v, by rw [wipe_ne g2]; exact k1, k2⟩
  · obtain ⟨g1, g2⟩ := wipeE_get q (fun z => by rw [z] at qs; cases qs)
    obtain ⟨a, o, k1, k2⟩ := R.sl.own i s g1 qs
    exact ⟨a, o, by rw [wipe_ne g2]; exact k1, k2⟩
  · obtain ⟨g1, g2⟩ := wipeE_get q (fun z => by rw [z] at qs; cases qs)
    obtain ⟨g3, g4⟩ := wipeE_get q' (fun z => by rw [z] at qs'; cases qs')
    rw [wipe_ne g2] at e1
    rw [wipe_ne g4] at e2
    exact R.sl.dis i j s t a ne g1 qs g3 qs' e1 e2
end

/-- a turn's names: they may be stored in the block -/
def blkG (scope : Scope) (sc : Scope) (x : Str) : Bool := (relS scope sc).names.lookup x == some .local || ((relS scope sc).names.lookup x == some .cell && scope.names.lookup x == some .cell)
theorem tgsOf_wipe {B : Bd} {H : Hp} {vs : List Nat} {σw : St} : ∀ (is : List Nat) (xs : List V) (σ : St) (Q : St → Hp → Prop), (∀ i ∈ is, i ∈ vs) → wipe σ vs = σw → tgsOf is xs σ H Q → tgsOf is xs σ H fun σ' H' => wipe σ' vs = σw ∧ Q σ' H'
  | [], xs, σ, Q, _, hw, h => ⟨h.1, hw, h.2⟩
  | i :: is, xs, σ, Q, hi, hw, ⟨v, r, e, h⟩ => ⟨v, r, e, tgsOf_wipe (B := B) is r (σ.set i (some v)) Q (fun j hj => hi j (List.mem_cons_of_mem _ hj)) (by
      rw [← hw]
      have hm := hi i List.mem_cons_self
      clear hw h e
      have : ∀ (vs : List Nat) (σ : St), i ∈ vs → wipe (σ.set i (some v)) vs = wipe σ vs := by
        intro vs
        induction vs with
        | nil => intro σ hm; cases hm
        | cons w ws ih =>
          intro σ hm
          show (wipe (σ.set i (some v)) ws).set w none = (wipe σ ws).set w none
          by_cases hw : i ∈ ws
          · rw [ih σ hw]
          · have hw' : i = w := by
              rcases List.mem_cons.mp hm with z | z
              · exact z
              · exact absurd z hw
            subst hw'
            have g : ∀ (ws : List Nat), i ∉ ws → wipe (σ.set i (some v)) ws = (wipe σ ws).set i (some v) := by
              intro ws
              induction ws with
              | nil => intro _; rfl
              | cons u us ih2 =>
                intro hn
                simp only [List.mem_cons, not_or] at hn
                show (wipe (σ.set i (some v)) us).set u none = ((wipe σ us).set u none).set i (some v)
                rw [ih2 hn.2, List.set_comm _ _ hn.1]
            rw [g ws hw, List.set_set]
      exact this vs σ hm) h⟩
theorem tgOf_wipe {K : PySem.W.Frag} {B : Bd} {H : Hp} {vs : List Nat} {σw σ : St} {t : Tgt} {x : V} {Q : St → Hp → Prop} (hi : ∀ i ∈ t.ix, i ∈ vs) (hw : wipe σ vs = σw) (h : tgOf K t x σ H Q) : tgOf K t x σ H fun σ' H' => wipe σ' vs = σw ∧ Q σ' H' := by
  cases t with
  | nm i =>
    have := tgsOf_wipe (B := B) (H := H) [i] [x] σ Q (fun j hj => hi j hj) hw ⟨x, [], rfl, rfl, h⟩
    obtain ⟨v, r, e, e2, z⟩ := this
    cases e
    exact z
  | tp is =>
    obtain ⟨a, xs, h1, h2, h3, h4⟩ := h
    exact ⟨a, xs, h1, h2, h3, tgsOf_wipe (B := B) is xs σ Q hi hw h4⟩
theorem tgsOf_mono {H : Hp} {Q Q' : St → Hp → Prop} (hq : ∀ σ H, Q σ H → Q' σ H) : ∀ (is : List Nat) (xs : List V) (σ : St), tgsOf is xs σ H Q → tgsOf is xs σ H Q'
  | [], _, _, h => ⟨h.1, hq _ _ h.2⟩
  | _ :: is, _, _, ⟨v, r, e, h⟩ => ⟨v, r, e, tgsOf_mono hq is r _ h⟩
theorem tgOf_mono {K : PySem.W.Frag} {H : Hp} {Q Q' : St → Hp → Prop} {t : Tgt} {x : V} {σ : St} (h : tgOf K t x σ H Q) (hq : ∀ σ H, Q σ H → Q' σ H) : tgOf K t x σ H Q' := by
  cases t with
  | nm i => exact hq _ _ h
  | tp is =>
    obtain ⟨a, xs, h1, h2, h3, h4⟩ := h
    exact ⟨a, xs, h1, h2, h3, tgsOf_mono hq is xs σ h4⟩
/-- what is nobody's stays -/
theorem Rel.stays {B : Bd} {F H F' H' : Hp} {ρ ρ' : Env} {σ : St} {D : Addr} {o : HO} (R' : Rel (B.re F H ρ σ) F' H' ρ' σ) (hD : H D = some o) (fD : F D = none) (n : ¬ owned ρ σ D) : F' D = none ∧ H' D = some o :=
  ⟨R'.kept.nof D (by show H D ≠ none; rw [hD]; exact fun z => nomatch z) fD n, R'.kept.keep D o hD n⟩
/-- tests of a comprehension -/
inductive SndIfs (Γ : Ctx) : List Expr → Den → Bool → Prop
  | no : SndIfs Γ [] dYes true
  | one {c : Expr} {d : Den} {p : Bool} : SndT Γ c d p → SndIfs Γ [c] d p
def wTs (X : Cx) : List Expr → TT
  | [] => tYes
  | [c] => wT X c
  | _ => fun _ _ _ => False
theorem wipe_ext {σ σ' : St} : ∀ {vs : List Nat}, σ.length = σ'.length → (∀ j, j ∉ vs → σ[j]? = σ'[j]?) → wipe σ vs = wipe σ' vs := by
  intro vs hl h
  apply List.ext_getElem?
  intro j
  by_cases hj : j ∈ vs
  · have z : ∀ (τ : St) (vs : List Nat), j ∈ vs → j < τ.length → (wipe τ vs)[j]? = some none := by
      intro τ vs hj hlt
      induction vs with
      | nil => cases hj
      | cons v vs ih =>
        show ((wipe τ vs).set v none)[j]? = _
        by_cases e : v = j
        · subst e; rw [List.getElem?_set_self (by rw [wipe_length]; exact hlt)]
        · rw [List.getElem?_set_ne e]
          rcases List.mem_cons.mp hj with q | q
          · exact absurd q.symm e
          · exact ih q
    by_cases hlt : j < σ.length
    · rw [z σ vs hj hlt, z σ' vs hj (by omega)]
    · rw [List.getElem?_eq_none (by rw [wipe_length]; omega), List.getElem?_eq_none (by rw [wipe_length]; omega)]
  · rw [wipe_ne hj, wipe_ne hj]
    exact h j hj
theorem wipe_wipe {σ : St} {vs : List Nat} : wipe (wipe σ vs) vs = wipe σ vs := wipe_ext (wipe_length σ vs) fun j hj => wipe_ne hj

section
variable {Γ : Ctx} {X : Cx} {Φ : Calls} {scope : Scope}
abbrev Ctx.inB (Γ : Ctx) (scope : Scope) : Ctx := { Γ with sc := relS scope Γ.sc }
theorem ctx_blk {s : Shared} {H : Hp} {Cc : Addr} {cl : List (Str × Addr)} {fp : List Addr} (C : CtxOk Γ Φ X) : CtxOk (Γ.inB scope) Φ (X.blk s H scope (compEnvC scope cl Cc X.env) fp) :=
  ⟨C.nm, by show relS scope X.env.scope = relS scope Γ.sc; rw [C.sc], C.nd, C.calm, C.room, C.grd, C.fns, C.gints, C.gstrs, C.blt, C.exs, C.hot, C.dk, C.ini⟩
theorem mayPut_blk {s : Shared} {H : Hp} {Cc : Addr} {cl : List (Str × Addr)} {fp : List Addr} (C : CtxOk Γ Φ X) : MayPut (X.blk s H scope (compEnvC scope cl Cc X.env) fp) (blkG scope Γ.sc) := fun x h => by
  have e : (X.blk s H scope (compEnvC scope cl Cc X.env) fp).env.scope = relS scope Γ.sc := by rw [← C.sc]; rfl
  unfold blkG at h
  simp only [Bool.or_eq_true, Bool.and_eq_true, beq_iff_eq] at h
  rcases h with h | ⟨h, h'⟩
  · exact ⟨.inl (by rw [e]; exact h), .inr (by rw [e]; exact h)⟩
  · exact ⟨.inr (by rw [e]; exact h), .inl (by show (scope.names.lookup x == some .cell) = true; rw [h']; rfl)⟩
/-- in any block of X's scope -/
def wEB (X : Cx) (scope : Scope) (e : Expr) : TE := fun σ H Q => ∀ (s : Shared) (H0 : Hp) (Cc : Addr) (cl : List (Str × Addr)) (fp : List Addr), wE (X.blk s H0 scope (compEnvC scope cl Cc X.env) fp) e σ H Q
def wTB (X : Cx) (scope : Scope) : List Expr → TT
  | [] => tYes
  | c :: _ => fun σ H Q => ∀ (s : Shared) (H0 : Hp) (Cc : Addr) (cl : List (Str × Addr)) (fp : List Addr), wT (X.blk s H0 scope (compEnvC scope cl Cc X.env) fp) c σ H Q
theorem pts_b {Γ' : Ctx} {cs : List Expr} {d : Den} {p : Bool} {s : Shared} {H : Hp} {Cc : Addr} {cl : List (Str × Addr)} {fp : List Addr} (h : SndIfs Γ' cs d p) : PTs (X.blk s H scope (compEnvC scope cl Cc X.env) fp) cs (wTB X scope cs) := by
  cases h with
  | no => exact pts_nil
  | one _ => exact pts_one ⟨fun pins s' σ H' Q I h => h s H Cc cl fp pins s' I⟩
theorem pe_b {e : Expr} {s : Shared} {H : Hp} {Cc : Addr} {cl : List (Str × Addr)} {fp : List Addr} : PE (X.blk s H scope (compEnvC scope cl Cc X.env) fp) e (wEB X scope e) := ⟨fun pins s' σ H' Q I h => h s H Cc cl fp pins s' I⟩
end

section
variable {Γ : Ctx} {tg iter elt : Expr} {ifs : List Expr} {scope : Scope} {own : List (Str × Nat)} {s : DenI} {c e : Den} {t : Tgt} {p pc pe' : Bool} {pos : Pos}
/-- the reading of a comprehension -/
theorem lc_run {X : Cx} {Φ : Calls} {B : Bd} {F H : Hp} {ρ : Env} {σ : St} {Q : VK} {W : WX} (hs : SndI Γ tg iter s p t.isTp) (hix : t.ix.all (fun i => (own.map (·.2)).contains i) = true) (hc : SndIfs (Γ.inB scope) ifs c pc) (he : SndE (Γ.inB scope) elt e pe')
    (C : CtxOk Γ Φ X) (hK : B.K = X.K) (T : L2N.Takes X W) (R : Rel B F H ρ σ) (hq : (dLc t s c e (own.map (·.2)) Φ ρ).wp (EvP B F H σ (p && (pc && pe')) Q) (ExP X B F σ W)) :
    tLc (wI X tg iter) (tgOf X.K t) (wTB X scope ifs) (wEB X scope elt) (own.map (·.2)) σ H Q := by
  refine hs X Φ B F H ρ σ _ W C hK T R (wp_mono (wp_bind (c := s Φ ρ) hq) (fun r q J F1 H1 R1 e1 e2 hJ => ?_) fun _ q => q)
  obtain ⟨ds, ρ1⟩ := r
  obtain ⟨hl, q⟩ := wp_guard q
  have hl : ds.length ≤ 1000000 := of_decide_eq_true hl
  have R1 : Rel B F1 H1 ρ1 σ := R1
  have hJ : Src t.isTp B.K F1 J ds := hJ
  intro D hD
  have hF1 : F1 D = none := R1.kept.ex.free hD
  have h0 : B.H0 D = none := R1.kept.old hD
  have hD1 : upd H1 D (.lst []) D ≠ none := by rw [upd_same]; exact fun z => nomatch z
  have nD : ¬ owned ρ1 σ D := fun ⟨i, t, q1, q2, q3⟩ => by
    obtain ⟨a, o, k1, _, k3, _⟩ := R1.sl.own i t q1 q2
    rw [q3] at k1
    cases k1
    rw [hD] at k3; cases k3
  have RD : Rel B F1 (upd H1 D (.lst [])) ρ1 σ := R1.grow (.new hD)
  generalize hvs : own.map (·.2) = vs at *
  -- what holds at each turn
  let Bk := B.blk F1 (upd H1 D (.lst [])) ρ1 σ D
  have LaD : Bk.La D := ⟨ρ1.length, .inr ⟨rfl, rfl⟩⟩
  let T1 := lcT t c e vs Φ
  refine ⟨fun i m Hh => m = ds.length - i ∧ i ≤ ds.length ∧ ∃ (F' : Hp) (ρ' : Env) (accD : List PyData) (accV : List V), Rel Bk F' Hh ρ' (wipe σ vs) ∧ Ex F1 F' ∧ F' D = none ∧ Hh D = some (.lst accV) ∧ RpAll B.K F' accD accV ∧ accD.length ≤ i ∧ ((p && (pc && pe')) = true → Ex H1 Hh) ∧
    (∀ j ∈ vs, ∀ s, ρ'[j]? = some s → s = .un) ∧ (lcL T1 (ds.drop i) ρ').wp (fun z => EvP B F H σ (p && (pc && pe')) Q (.own (accD ++ z.1), unwipe vs ρ1 z.2)) (fun _ => False), ?_, fun i m Hh hW => ?_⟩
  · refine ⟨_, rfl, Nat.zero_le _, F1, wipeE vs ρ1, [], [], RD.blk vs, .refl F1, hF1, upd_same, .nil, Nat.le_refl _, fun _ => .new hD, fun j hj s q => ?_, ?_⟩
    · by_cases z : s = .un
      · exact z
      · exact absurd hj (wipeE_get q z).2
    · rw [List.drop_zero]
      replace q := wp_bind (c := noX (lcL T1 ds (wipeE vs ρ1))) q
      cases g : lcL T1 ds (wipeE vs ρ1) with
      | ok a => rw [g] at q; exact q
      | exc x => rw [g] at q; exact q.elim
      | stuck => rw [g] at q; exact q.elim
      | any _ => rw [g] at q; exact q.elim
      | exs _ _ => rw [g] at q; exact q.elim
  · obtain ⟨rfl, hi, F', ρ', accD, accV, R', e', fD, hDl, ra, la, pu, un, q'⟩ := hW
    have lw : (wipe σ vs).length = σ.length := wipe_length σ vs
    by_cases hlt : i < ds.length
    · right
      obtain ⟨d, hd⟩ : ∃ d, ds[i]? = some d := ⟨_, List.getElem?_eq_getElem hlt⟩
      obtain ⟨go, yl⟩ := hJ.go i Hh d (e'.trans R'.kept.ex) hd
      refine ⟨go, fun Hn => ∃ (F' : Hp) (ρ' : Env) (accD : List PyData) (accV : List V), Rel Bk F' Hn ρ' (wipe σ vs) ∧ Ex F1 F' ∧ F' D = none ∧ Hn D = some (.lst accV) ∧ RpAll B.K F' accD accV ∧ accD.length ≤ i + 1 ∧ ((p && (pc && pe')) = true → Ex H1 Hn) ∧
        (∀ j ∈ vs, ∀ s, ρ'[j]? = some s → s = .un) ∧ (lcL T1 (ds.drop (i + 1)) ρ').wp (fun z => EvP B F H σ (p && (pc && pe')) Q (.own (accD ++ z.1), unwipe vs ρ1 z.2)) (fun _ => False), fun H2 n => ⟨ds.length - (i + 1), by omega, rfl, hlt, n⟩, fun x H2 y => ?_⟩
      obtain ⟨_, gr, tk⟩ := yl x H2 y F' e' R'.kept.ex
      have ed : ds.drop i = d :: ds.drop (i + 1) := by
        rw [List.drop_eq_getElem_cons hlt]
        rw [List.getElem?_eq_getElem hlt] at hd
        rw [Option.some.inj hd]
      rw [ed] at q'
      replace q' := wp_bind (c := T1 d ρ') q'
      have R2 : Rel Bk F' H2 ρ' (wipe σ vs) := R'.add gr
      have h2D := gr.hh _ _ hDl
      have hixs : ∀ j ∈ t.ix, j ∈ vs := fun j hj => by
        have := List.all_eq_true.mp hix j hj
        simpa using this
      replace q' : ((opt (putT t d ρ')).bind fun ρ => (c Φ ρ).bind fun b => match b.1 with
        | .val (.bool true) => (oOf e Φ b.2).bind fun y => Out.ok (some y.1, wipeE vs y.2)
        | .val (.bool false) => .ok (none, wipeE vs b.2)
        | _ => .stuck).wp _ (fun _ => False) := q'
      cases g : putT t d ρ' with
      | none => rw [g] at q'; exact q'.elim
      | some ρ2 =>
        rw [g] at q'
        rw [← hK]
        have h1 : tgOf Bk.K t x (wipe σ vs) H2 (fun σ2 H3 => H3 = H2 ∧ Rel Bk F' H2 ρ2 σ2) := put_ok (B := Bk) g tk R2 (fun _ _ => Nat.zero_le _) fun σ2 R3 => ⟨rfl, R3⟩
        refine tgOf_mono (tgOf_wipe (B := Bk) (H := H2) hixs wipe_wipe h1) fun σ2 H2' ⟨hw, eH, R3⟩ => ?_
        subst eH
        refine ⟨hw, ?_⟩
        have l2 : σ2.length = σ.length := by rw [← wipe_length σ2 vs, hw, lw]
        replace q' : ((c Φ ρ2).bind fun b => match b.1 with
          | .val (.bool true) => (oOf e Φ b.2).bind fun y => Out.ok (some y.1, wipeE vs y.2)
          | .val (.bool false) => .ok (none, wipeE vs b.2)
          | _ => .stuck).wp (fun a => ((lcL T1 (List.drop (i + 1) ds) a.2).bind fun z => Out.ok (a.1.toList ++ z.1, z.2)).wp (fun z => EvP B F H σ (p && (pc && pe')) Q (Slot.own (accD ++ z.1), unwipe vs ρ1 z.2)) fun _ => False) (fun _ => False) := q'
        -- behind the test
        have tail : ∀ (k : Bool) (F3 H3 : Hp) (ρ3 : Env), Rel Bk F3 H3 ρ3 σ2 → Ex F' F3 → F3 D = none → H3 D = some (.lst accV) → (pc = true → Ex H2' H3) →
            ((match k with
              | true => (oOf e Φ ρ3).bind fun y => Out.ok (some y.1, wipeE vs y.2)
              | false => Out.ok (none, wipeE vs ρ3)).wp (fun a => ((lcL T1 (List.drop (i + 1) ds) a.2).bind fun z => Out.ok (a.1.toList ++ z.1, z.2)).wp (fun z => EvP B F H σ (p && (pc && pe')) Q (Slot.own (accD ++ z.1), unwipe vs ρ1 z.2)) fun _ => False) (fun _ => False)) →
            if k = true then wEB X scope elt σ2 H3 fun y H4 => ∃ acc, H4 D = some (.lst acc) ∧ acc.length < sizeLine ∧ (∃ (F' : Hp) (ρ' : Env) (accD : List PyData) (accV : List V), Rel Bk F' (upd H4 D (.lst (acc ++ [y]))) ρ' (wipe σ vs) ∧ Ex F1 F' ∧ F' D = none ∧ upd H4 D (.lst (acc ++ [y])) D = some (.lst accV) ∧ RpAll B.K F' accD accV ∧ accD.length ≤ i + 1 ∧ ((p && (pc && pe')) = true → Ex H1 (upd H4 D (.lst (acc ++ [y])))) ∧
              (∀ j ∈ vs, ∀ s, ρ'[j]? = some s → s = .un) ∧ (lcL T1 (ds.drop (i + 1)) ρ').wp (fun z => EvP B F H σ (p && (pc && pe')) Q (.own (accD ++ z.1), unwipe vs ρ1 z.2)) (fun _ => False))
            else ∃ (F' : Hp) (ρ' : Env) (accD : List PyData) (accV : List V), Rel Bk F' H3 ρ' (wipe σ vs) ∧ Ex F1 F' ∧ F' D = none ∧ H3 D = some (.lst accV) ∧ RpAll B.K F' accD accV ∧ accD.length ≤ i + 1 ∧ ((p && (pc && pe')) = true → Ex H1 H3) ∧
              (∀ j ∈ vs, ∀ s, ρ'[j]? = some s → s = .un) ∧ (lcL T1 (ds.drop (i + 1)) ρ').wp (fun z => EvP B F H σ (p && (pc && pe')) Q (.own (accD ++ z.1), unwipe vs ρ1 z.2)) (fun _ => False) := by
          intro k F3 H3 ρ3 R4 e3 f3 h3 p3 qk
          have n3 : ¬ owned ρ3 σ2 D := Rel.notD RD R4 l2 hD1 nD
          have unw : ∀ (ρx : Env), ∀ j ∈ vs, ∀ s, (wipeE vs ρx)[j]? = some s → s = .un := fun ρx j hj s q => by
            by_cases z : s = .un
            · exact z
            · exact absurd hj (wipeE_get q z).2
          cases k with
          | false =>
            refine iteF ⟨F3, wipeE vs ρ3, accD, accV, R4.wipe rfl hw, e'.trans e3, f3, h3, ra.mono e3, by omega, fun z => ?_, unw ρ3, ?_⟩
            · have z' := z
              simp only [Bool.and_eq_true] at z'
              exact ((pu z).trans gr.hh).trans (p3 z'.2.1)
            · have qk := wp_bind (c := lcL T1 (List.drop (i + 1) ds) (wipeE vs ρ3)) qk
              exact wp_mono qk (fun _ z => z) fun _ z => z
          | true =>
            refine iteT fun s' H0' Cc cl fp => ?_
            refine snd_oOf he (X.blk s' H0' scope (compEnvC scope cl Cc X.env) fp) Φ (Bk.re F3 H3 ρ3 σ2) F3 H3 ρ3 σ2 _ (fun _ _ _ _ => False) (ctx_blk C) hK takesN R4.re (wp_mono (wp_bind (c := oOf e Φ ρ3) qk) (fun y qy vy F4 H4 R5 e4 p4 hvy => ?_) fun _ z => z.elim)
            obtain ⟨y, ρ4⟩ := y
            have R5 : Rel (Bk.re F3 H3 ρ3 σ2) F4 H4 ρ4 σ2 := R5
            obtain ⟨f4, h4⟩ := R5.stays h3 f3 n3
            have R6 : Rel Bk F4 H4 ρ4 σ2 := R4.un R5
            have n4 : ¬ owned ρ4 σ2 D := Rel.notD RD R6 l2 hD1 nD
            have la' : accV.length = accD.length := (rpAll_len ra).symm
            refine ⟨accV, h4, lt_line (by omega), F4, wipeE vs ρ4, accD ++ [y], accV ++ [vy], (R6.other f4 (.inl LaD) n4).wipe rfl hw, (e'.trans e3).trans e4, f4, upd_same, RpAll.app (ra.mono (e3.trans e4)) (.cons hvy .nil), by rw [List.length_append, List.length_singleton]; omega, fun z => ?_, unw ρ4, ?_⟩
            · have z' := z
              simp only [Bool.and_eq_true] at z'
              exact Ex.put ((((pu z).trans gr.hh).trans (p3 z'.2.1)).trans (p4 z'.2.2)) hD
            · have qy := wp_bind (c := lcL T1 (List.drop (i + 1) ds) (wipeE vs ρ4)) qy
              refine wp_mono qy (fun z qz => ?_) fun _ z => z
              have qz : EvP B F H σ (p && (pc && pe')) Q (Slot.own (accD ++ ([y] ++ z.1)), unwipe vs ρ1 z.2) := qz
              rw [List.append_assoc]
              exact qz
        have n2 : ¬ owned ρ2 σ2 D := Rel.notD RD R3 l2 hD1 nD
        cases hc with
        | no => exact tail true F' H2' ρ2 R3 (.refl F') fD h2D (fun _ => .refl _) q'
        | one hT =>
          intro s' H0' Cc cl fp
          refine hT (X.blk s' H0' scope (compEnvC scope cl Cc X.env) fp) Φ (Bk.re F' H2' ρ2 σ2) F' H2' ρ2 σ2 _ (fun _ _ _ _ => False) (ctx_blk C) hK takesN R3.re (wp_mono (wp_bind (c := c Φ ρ2) q') (fun b qb => ?_) fun _ z => z.elim)
          obtain ⟨sb, ρ3⟩ := b
          cases sb with
          | val zb =>
            cases zb with
            | bool k =>
              refine ⟨k, rfl, fun F3 H3 R4 e3 p3 => ?_⟩
              obtain ⟨f3, h3⟩ := Rel.stays R4 h2D fD n2
              cases k with
              | true => exact tail true F3 H3 ρ3 (R3.un R4) e3 f3 h3 p3 qb
              | false => exact tail false F3 H3 ρ3 (R3.un R4) e3 f3 h3 p3 qb
            | _ => exact qb.elim
          | _ => exact qb.elim
    · left
      have ei : i = ds.length := by omega
      subst ei
      refine ⟨hJ.stop _ Hh (e'.trans R'.kept.ex) (Nat.le_refl _), ?_⟩
      rw [List.drop_length] at q'
      have q' : EvP B F H σ (p && (pc && pe')) Q (.own (accD ++ []), unwipe vs ρ1 ρ') := q'
      rw [List.append_nil] at q'
      have RU : Rel B F' Hh (unwipe vs ρ1 ρ') σ := Rel.unblk h0 RD R' un
      refine q' _ F' Hh RU (e1.trans e') (fun z => ?_) ⟨D, _, rfl, fD, hDl, ⟨accV, rfl, ra⟩, h0, fun j t qj qt em => ?_⟩
      · have z' := z
        rw [Bool.and_eq_true] at z'
        exact (e2 z'.1).trans (pu z)
      · rcases unwipe_get qj with ⟨_, d', z, _⟩ | z
        · rw [z] at qt; cases qt
        · have nv : j ∉ vs := fun mm => by rw [un j mm t z] at qt; cases qt
          exact Rel.notD RD R' lw hD1 nD ⟨j, t, z, qt, by rw [wipe_ne nv]; exact em⟩
theorem snd_lc (hs : SndI Γ tg iter s p t.isTp) (ht : TgtOk Γ.N (blkG scope Γ.sc) tg t) (hix : t.ix.all (fun i => (own.map (·.2)).contains i) = true) (hb : blkC Γ.N Γ.sc scope own = true) (hc : SndIfs (Γ.inB scope) ifs c pc) (he : SndE (Γ.inB scope) elt e pe') (hn : notSet iter = true) :
    SndE Γ (.ListComp elt [⟨tg, iter, ifs, 0⟩] scope pos) (dLc t s c e (own.map (·.2))) (p && (pc && pe')) := by
  intro X Φ B F H ρ σ Q W C hK T R hq
  refine PE.w (pe_lc (own := own) (g := tgOf X.K t) C.calm (by rw [C.nm]; exact C.nd) pi_w (blkOk_by (by rw [C.nm, C.sc]; exact hb)) (fun s H Cc cl fp => TgtOk.pg (Γ := Γ.inB scope) (ctx_blk C) (mayPut_blk C) ht) (fun s H Cc cl fp => pts_b hc) (fun s H Cc cl fp => pe_b) (folded_of hn)) ?_
  exact lc_run hs hix hc he C hK T R hq
theorem dSet_wp {i : Nat} {d : Den} {Φ : Calls} {ρ : Env} {P : Fl × Env → Prop} {E : Exc → Prop} (h : (dSet i d Φ ρ).wp P E) : (d Φ ρ).wp (fun r => P (.nx, r.2.set i r.1)) E := wp_bind (c := d Φ ρ) h
/-- x = [..] -/
theorem snd_setLc {i : Nat} {x : Str} {pos' spos : Pos} (hN : Γ.N[i]? = some x) (hl : Γ.sc.names.lookup x = some .local) (hi : Γ.np ≤ i) (hln : (pos'.line == pos.line) = true) (hno : (scope.names.any fun (n, k) => n == x && (k == .local || k == .cell)) = false)
    (hs : SndI Γ tg iter s p t.isTp) (ht : TgtOk Γ.N (blkG scope Γ.sc) tg t) (hix : t.ix.all (fun i => (own.map (·.2)).contains i) = true) (hb : blkC Γ.N Γ.sc scope own = true) (hc : SndIfs (Γ.inB scope) ifs c pc) (he : SndE (Γ.inB scope) elt e pe') (hn : notSet iter = true) :
    SndS Γ (.Assign [.Name x pos'] (.ListComp elt [⟨tg, iter, ifs, 0⟩] scope pos) spos) (dSet i (dLc t s c e (own.map (·.2)))) := by
  intro X Φ B F H ρ σ D W C BO bo hK T R hq
  have hl' : X.env.scope.names.lookup x = some .local := by rw [C.sc]; exact hl
  have hsw : swapsWith (.ListComp elt [⟨tg, iter, ifs, 0⟩] scope pos) (some (.Name x pos')) spos.line X.env = pure true := sw_true BO.fk hl' hln hno
  have hN' : X.N[i]? = some x := by rw [C.nm]; exact hN
  have hnd : X.N.Nodup := by rw [C.nm]; exact C.nd
  have hbk : BlkOk X.N X.env.scope scope own := blkOk_by (by rw [C.nm, C.sc]; exact hb)
  have P : PS X (.Assign [.Name x pos'] (.ListComp elt [⟨tg, iter, ifs, 0⟩] scope pos) spos) (tAsg (tLc (wI X tg iter) (tgOf X.K t) (wTB X scope ifs) (wEB X scope elt) (own.map (·.2))) (gName i)) :=
    ps_setLc C.calm hnd hN' hl' hsw pi_w hbk (fun s H Cc cl fp => TgtOk.pg (Γ := Γ.inB scope) (ctx_blk C) (mayPut_blk C) ht) (fun s H Cc cl fp => pts_b hc) (fun s H Cc cl fp => pe_b) (folded_of hn)
  refine PS.w P ?_
  show tLc (wI X tg iter) (tgOf X.K t) (wTB X scope ifs) (wEB X scope elt) (own.map (·.2)) σ H (fun v H1 => D.nx (σ.set i (some v)) H1)
  exact lc_run hs hix hc he C hK T R (wp_mono (dSet_wp hq) (fun r q v F1 H1 R1 e1 _ hv => q (σ.set i (some v)) F1 H1 (R1.put hv i (Nat.le_trans bo.vs hi)) e1) ExS.ex)
end
end Dn

/-! Den8: a def's promise from its body's meaning; all defs of a text; the law. -/
namespace Dn
open PySem PySem.Spec L2
open PyProof.Rows hiding St

/-- an own argument is still told at the end -/
def outsOk : List Slot → List Slot → Bool
  | [], _ => true
  | a :: as, o :: os => (!a.isOwn || (match o with
    | .un => false
    | .scr _ => false
    | _ => true)) && outsOk as os
  | _ :: _, [] => false
def fin (as : List Slot) (np : Nat) (s : Slot) (ρ : Env) : Out (Slot × List Slot) := guard' (outsOk as (ρ.take np)) (.ok (s, ρ.take np))
def dBody (np n : Nat) (b : DenS) (Φ : Calls) (as : List Slot) : Out (Slot × List Slot) := (b Φ (as ++ List.replicate (n - np) .un)).bind fun r => match r.1 with
  | .ret s => fin as np s r.2
  | .nx => fin as np (.val .none) r.2
  | _ => .stuck
theorem outsOk_get : ∀ {as os : List Slot}, outsOk as os = true → ∀ {i : Nat} {s : Slot}, as[i]? = some s → s.isOwn = true → ∃ o, os[i]? = some o ∧ o ≠ .un ∧ ∀ ns, o ≠ .scr ns
  | [], _, _, _, _, h, _ => by simp at h
  | a :: as, [], h, _, _, _, _ => by cases h
  | a :: as, o :: os, h, 0, s, e, hs => by
    unfold outsOk at h
    simp only [List.getElem?_cons_zero, Option.some.injEq] at e
    subst e
    rw [hs] at h
    simp only [Bool.not_true, Bool.false_or, Bool.and_eq_true] at h
    refine ⟨o, rfl, ?_, ?_⟩
    · intro z; subst z; exact Bool.noConfusion h.1
    · intro ns z; subst z; exact Bool.noConfusion h.1
  | a :: as, o :: os, h, i + 1, s, e, hs => by
    unfold outsOk at h
    simp only [Bool.and_eq_true] at h
    obtain ⟨o', h1, h2⟩ := outsOk_get h.2 (i := i) (by simpa using e) hs
    exact ⟨o', by simpa using h1, h2⟩

/-- a text's def -/
structure DefI where
  name : Str
  st : Stmt
  ps : List Str
  N : List Str
  b : DenS
/-- a def where numbers may come and refusals are told with the slots; k things stand beside its parameters; key: what calls name, fn qn: its own names, m: a method's -/
structure DefX where
  key : Str
  fn : Str
  qn : Str
  m : Option Str
  k : Nat
  st : Stmt
  ps : List Str
  N : List Str
  b : DenS
/-- what all defs share -/
structure Tx where
  defs : List DefI
  gints : List (Str × Int)
  gstrs : List (Str × Str)
  blts : List Str
  exs : List (Str × Str)
  dds : List DefX
  ini : List Str
def Tx.dk (T : Tx) : List (Str × Nat × Option Str) := T.dds.filterMap fun d => if d.k = 1 then some (d.key, d.ps.length, d.m) else none
def Tx.ctx (T : Tx) (d : DefI) : Ctx := ⟨d.N, defScope d.st, d.ps.length, T.defs.map fun d => (d.name, d.ps.length), T.gints, T.gstrs, T.blts, T.exs, T.dk, T.ini⟩
def Tx.ctxX (T : Tx) (d : DefX) : Ctx := ⟨d.N, defScope d.st, d.ps.length + d.k, T.defs.map fun d => (d.name, d.ps.length), T.gints, T.gstrs, T.blts, T.exs, T.dk, T.ini⟩
def Tx.find (T : Tx) (x : Str) : Option DefI := T.defs.find? fun d => d.name == x
def Tx.findX (T : Tx) (x : Str) : Option DefX := T.dds.find? fun d => d.key == x
/-- a refusal leaves with what was handed over -/
def cutX {α : Type} (as : List Slot) (np : Nat) : Out α → Out α
  | .exs x ρ => if outsOk as (ρ.take np) = true then .exs x (ρ.take np) else .stuck
  | .any g => .any fun n => cutX as np (g n)
  | .ok a => .ok a
  | .exc x => .exc x
  | .stuck => .stuck
def kBodyX (as : List Slot) (np : Nat) : Fl × Env → Out (Slot × List Slot) := fun r => match r.1 with
  | .ret s => fin as np s r.2
  | .nx => fin as np (.val .none) r.2
  | _ => .stuck
def dBodyX (np n : Nat) (b : DenS) (Φ : Calls) (as : List Slot) : Out (Slot × List Slot) := (cutX as np (b Φ (as ++ List.replicate (n - np) .un))).bind (kBodyX as np)
theorem wpx_cut {α : Type} {as : List Slot} {np : Nat} {c : Out α} {P : α → Prop} {E : Exc → Prop} {S : Exc → Env → Prop} (h : (cutX as np c).wpx P E S) : c.wpx P E fun x ρ => outsOk as (ρ.take np) = true ∧ S x (ρ.take np) := by
  induction c with
  | ok a => exact h
  | exc x => exact h
  | stuck => exact h
  | any g ih => exact fun n => ih n (h n)
  | exs x ρ =>
    have h : (if outsOk as (ρ.take np) = true then Out.exs x (ρ.take np) else .stuck : Out α).wpx P E S := h
    split at h
    · rename_i z; exact ⟨z, h⟩
    · exact h.elim
def Tx.run (T : Tx) : Nat → Calls
  | 0, _, _ => .stuck
  | n + 1, x, as => match T.find x with
    | some d => dBody d.ps.length d.N.length d.b (T.run n) as
    | none => match T.findX x with
      | some d => dBodyX (d.ps.length + d.k) d.N.length d.b (T.run n) as
      | none => .stuck
/-- a desk's class stands -/
def DeskK (K : PySem.W.Frag) (mg : Str → Option Value) (l : List DefX) : Prop := ∃ (C f0 : Addr) (fd0 : FuncData), PySem.W.nsIn K mainGlobals "Desk" = some (some (.ref C)) ∧ mg "Desk" = some (.ref C) ∧ Cls K C ∧ NoAttr K C "order" ∧ NoAttr K C "kept" ∧ NoAttr K C "past" ∧
  Mk K C f0 ∧ L2.Binds K fd0 ["self"] [] ∧ (∀ (P : Program) (w : World) (base : Heap), FnG P w K mg base (L2N.CX P w) 1 f0 fd0 ["self"] (spInit C)) ∧
  ∀ d ∈ l, ∃ (f : Addr) (fd : FuncData), Fun K d.fn d.qn d.st f fd ∧ L2.Binds K fd d.ps [] ∧ PySem.W.keepIn K (.ref f) = true ∧ (d.m = none → mg d.key = some (.ref f)) ∧ ∀ m, d.m = some m → Meth K C m f
/-- how the top has left them -/
structure Tx.Stand (T : Tx) (K : PySem.W.Frag) (mg : Str → Option Value) : Prop where
  fn : ∀ d ∈ T.defs, ∃ f fd, Fun K d.name d.name d.st f fd ∧ L2.Binds K fd d.ps [] ∧ mg d.name = some (.ref f)
  gints : ∀ p ∈ T.gints, ∃ t, mg p.1 = some (.int p.2 t)
  gstrs : ∀ p ∈ T.gstrs, ∃ t, mg p.1 = some (.str p.2 t)
  blt : ∀ x ∈ T.blts, mg x = none
  exs : ∀ p ∈ T.exs, ∃ C : Addr, mg p.1 = some (.ref C) ∧ ExF K C
  dds : T.dds ≠ [] → DeskK K mg T.dds
/-- the names beside the parameters are no names of the text -/
def sideOk (N : List Str) (sc : Scope) (np k : Nat) : Bool := decide (np + k ≤ N.length) && ((N.drop np).take k).all fun y => (sc.names.lookup y).isNone
/-- each def's meaning is shown -/
structure Tx.Ok (T : Tx) : Prop where
  sc : ∀ d ∈ T.defs, FnScope d.N d.ps (defScope d.st)
  snd : ∀ d ∈ T.defs, SndSs (T.ctx d) (defBody d.st) d.b
  uniq : ∀ d ∈ T.defs, T.find d.name = some d
  scX : ∀ d ∈ T.dds, FnScope d.N d.ps (defScope d.st) ∧ sideOk d.N (defScope d.st) d.ps.length d.k = true
  sndX : ∀ d ∈ T.dds, SndXs (T.ctxX d) (defBody d.st) d.b
  uniqX : ∀ d ∈ T.dds, T.find d.key = none ∧ T.findX d.key = some d

section
variable {P : Program} {w : World} {K : PySem.W.Frag} {mg : Str → Option Value} {base : Heap} {T : Tx}
theorem start_get {N : List Str} {vs : List V} {i : Nat} (h : i < vs.length) : (L2.start N vs)[i]? = (vs.map some)[i]? := by
  unfold L2.start
  rw [List.getElem?_append_left (by simpa using h)]
/-- from the body, with things beside the parameters -/
theorem FnG.of_bodyX {C : CXT} {k : Nat} {f : Addr} {fd : FuncData} {ps N : List Str} {sp : Sp} {x qual : Str} {st : Stmt} {kk : Nat} (F : Fun K x qual st f fd) (S : FnScope N ps (defScope st)) (So : sideOk N (defScope st) ps.length kk = true) (len : ∀ us H Q E, sp us H Q E → us.length = ps.length)
    (body : ∀ (cv : Value) (A : Around) (outer : List PySem.Env) (s : Shared) (H : Hp) (us : List V) (Q : VK) (E : XK), A.guards = some [] → Room k (A.deeper (envOfC qual (defScope st) s.heap.objs.size f cv)) → sp us H Q E →
      ∃ (qs : List V), qs.length = kk ∧ ∃ t, PSs (cxOf C P w K mg base N qual (defScope st) f cv A outer s H E) (defBody st) t ∧ t { nx := fun _ H' => Q .non H', rt := Q } (L2.start N (us ++ qs)) H) : FnG P w K mg base C (k + 1) f fd ps sp := by
  obtain ⟨oc, od, kV, doc, pm, an, cv, ct, osl, rfl, lk, code⟩ := F.ex
  unfold sideOk at So
  rw [Bool.and_eq_true, decide_eq_true_eq] at So
  obtain ⟨so1, so2⟩ := So
  refine ⟨len, fun A g outer s H args us vs Q E room e0 bind rel sat => ?_⟩
  have old := fun b o e => (e0.bs b o e).1
  have inK := e0.mod.kin.keeps old
  have far := e0.mod.nolimit.keeps old
  have kinds : ∀ y ∈ ps.zip us, (defScope st).names.lookup y.1 = some .local ∨ ((defScope st).names.lookup y.1 = some .cell ∧ ((cellsFrom (s.heap.objs.size + 1) (defScope st).names []).lookup y.1).isSome = true) := by
    intro y hy
    have my := (List.of_mem_zip (show (y.1, y.2) ∈ ps.zip us from hy)).1
    exact (S.par y.1 my).imp id fun q => ⟨q, PySem.W.cellsFrom_some _ _ _ (.inl q)⟩
  refine codeAny_call_function room.depth (inK _ _ lk) rfl S.co S.gen rfl (PySem.W.codeRec_of inK code) (bind _ _ _ _ (wpAny_newFunctionEnv_cells S.kind kinds fun env he s1 enter => ?_))
  subst he
  obtain ⟨qs, hqs, t, ht, hq⟩ := body cv A outer s H vs Q E g (room.deeper _) sat
  have hv := len _ _ _ _ sat
  have J0 : Inv (cxOf C P w K mg base N qual (defScope st) f cv A outer s H E) [] (L2.start N vs) H s1 := inv_start S room.hd e0 hv rel enter
  have J : Inv (cxOf C P w K mg base N qual (defScope st) f cv A outer s H E) [] (L2.start N (vs ++ qs)) H s1 := by
    refine { J0 with loc := ?_, len := ?_ }
    · obtain ⟨m, h1, h2⟩ := J0.loc
      refine ⟨m, h1, fun i y v hN hs hvis => ?_⟩
      by_cases c : i < vs.length
      · refine h2 i y v hN ?_ hvis
        rw [start_get c]
        rw [start_get (by rw [List.length_append]; omega), List.map_append, List.getElem?_append_left (by rw [List.length_map]; exact c)] at hs
        exact hs
      · by_cases c2 : i < vs.length + qs.length
        · exfalso
          have my : y ∈ (N.drop ps.length).take kk := by
            refine List.mem_of_getElem? (i := i - ps.length) ?_
            rw [List.getElem?_take, if_pos (by omega), List.getElem?_drop]
            rw [show ps.length + (i - ps.length) = i by omega]
            exact hN
          have no := List.all_eq_true.mp so2 y my
          rw [Option.isNone_iff_eq_none] at no
          rcases hvis with z | z | z
          all_goals
            have z : (defScope st).names.lookup y = _ := z
            rw [no] at z
            cases z
        · exfalso
          unfold L2.start at hs
          rw [List.getElem?_append_right (by rw [List.length_map, List.length_append]; omega), List.getElem?_replicate] at hs
          split at hs <;> cases hs
    · show (L2.start N (vs ++ qs)).length = N.length
      unfold L2.start
      rw [List.length_append, List.length_map, List.length_replicate, List.length_append]
      omega
  refine ⟨far.keeps enter.toInCall.keep, codeAny_func (wpAny_mono (ht.run [] s1 _ H _ J hq) (fun fl s' hs => ?_) fun _ _ hs => hs)⟩
  cases fl with
  | brk => exact hs.elim fun _ z => z.elim fun _ z => z.2.elim
  | cont => exact hs.elim fun _ z => z.elim fun _ z => z.2.elim
  | next =>
    obtain ⟨σ', H', I, q⟩ := hs
    exact ⟨.non, H', I.os, I.bare, I.base, I.hok, rfl, q⟩
  | ret u =>
    obtain ⟨v, σ', H', I, rv, q⟩ := hs
    exact ⟨v, H', I.os, I.bare, I.base, I.hok, rv, q⟩
theorem startRel {N : List Str} {F0 H : Hp} {as : List Slot} {vs : List V} (ex : Ex F0 H) (hl : as.length = vs.length) (hN : vs.length ≤ N.length) (sl : Sl (bdOf K F0 H as vs) F0 H as (vs.map some)) : Rel (bdOf K F0 H as vs) F0 H (as ++ List.replicate (N.length - vs.length) .un) (L2.start N vs) := by
  have gl : ∀ {i : Nat} {s : Slot}, (as ++ List.replicate (N.length - vs.length) Slot.un)[i]? = some s → s ≠ .un → as[i]? = some s ∧ i < as.length := fun {i s} h n => by
    by_cases z : i < as.length
    · rw [List.getElem?_append_left z] at h; exact ⟨h, z⟩
    · rw [List.getElem?_append_right (by omega), List.getElem?_replicate] at h
      split at h
      · exact absurd (Option.some.inj h).symm n
      · cases h
  have sg : ∀ {i : Nat}, i < as.length → (L2.start N vs)[i]? = (vs.map some)[i]? := fun h => start_get (by omega)
  refine ⟨⟨.refl _, ex, fun _ _ h _ => h, fun _ _ h _ => h, fun _ h => h⟩, ⟨?_, fun i e h => ?_, fun i ns h => ?_, fun i s h hs => ?_, fun i v h => ?_, fun i j s t a ne h hs h' hs' e1 e2 => ?_⟩⟩
  · unfold L2.start
    rw [List.length_append, List.length_append, List.length_map, List.length_replicate, List.length_replicate]
    omega
  · obtain ⟨g1, g2⟩ := gl h (fun z => nomatch z)
    rw [sg g2]
    exact sl.val i e g1
  · obtain ⟨g1, g2⟩ := gl h (fun z => nomatch z)
    rw [sg g2]
    exact sl.scr i ns g1
  · obtain ⟨g1, g2⟩ := gl h (fun z => by rw [z] at hs; cases hs)
    rw [sg g2]
    exact sl.own i s g1 hs
  · have : i < vs.length := (List.getElem?_eq_some_iff.mp h).1
    rw [start_get this, List.getElem?_map, show vs[i]? = some v from h]
    rfl
  · obtain ⟨g1, g2⟩ := gl h (fun z => by rw [z] at hs; cases hs)
    obtain ⟨g3, g4⟩ := gl h' (fun z => by rw [z] at hs'; cases hs')
    rw [sg g2] at e1
    rw [sg g4] at e2
    exact sl.dis i j s t a ne g1 hs g3 hs' e1 e2
/-- at the end: what was handed over -/
theorem endOuts {F0 H F' H' : Hp} {as : List Slot} {vs : List V} {ρ' : Env} {σ' : L2.St} {np : Nat} (R' : Rel (bdOf K F0 H as vs) F' H' ρ' σ') (ho : outsOk as (ρ'.take np) = true) : OutsOk K F' H' as vs (ρ'.take np) := fun i t a h1 h2 h3 => by
  obtain ⟨o, k1, k2, k3⟩ := outsOk_get ho h1 h2
  have hp : σ'[i]? = some (some (.ref a)) := R'.sl.par i _ h3
  have ko : ρ'[i]? = some o := by
    rw [List.getElem?_take] at k1
    split at k1
    · exact k1
    · cases k1
  refine ⟨o, k1, ?_⟩
  cases ow : o.isOwn with
  | true =>
    obtain ⟨a', u, m1, m2, m3, m4, _⟩ := R'.sl.own i o ko ow
    rw [hp] at m1
    cases m1
    exact .inr ⟨ow, u, m2, m3, m4⟩
  | false =>
    cases o with
    | val e =>
      obtain ⟨v', m1, m2⟩ := R'.sl.val i e ko
      rw [hp] at m1
      cases m1
      exact .inl ⟨e, rfl, m2⟩
    | un => exact absurd rfl k2
    | scr ns => exact absurd rfl (k3 ns)
    | own _ => cases ow
    | odc _ _ => cases ow
    | obj _ _ => cases ow
theorem endRet {F0 H F' H' : Hp} {as : List Slot} {vs : List V} {ρ' : Env} {σ' : L2.St} {s : Slot} {v : V} (hr' : Res (bdOf K F0 H as vs) F' H' ρ' σ' s v) : RetIs K H F' H' s v := by
  cases ow : s.isOwn with
  | true =>
    obtain ⟨a, u, m1, m2, m3, m4, m5, _⟩ := (Res.of_own ow).mp hr'
    exact .inr ⟨ow, a, u, m1, m2, m3, m4, m5⟩
  | false =>
    cases s with
    | val e => exact .inl ⟨e, rfl, hr'⟩
    | un => exact hr'.elim
    | scr ns => exact hr'.elim
    | own _ => cases ow
    | odc _ _ => cases ow
    | obj _ _ => cases ow
/-- what each def is good for at a depth -/
def Tx.Good (T : Tx) (P : Program) (w : World) (K : PySem.W.Frag) (mg : Str → Option Value) (base : Heap) (n : Nat) : Prop :=
  (∀ d ∈ T.defs, ∃ f fd, Fun K d.name d.name d.st f fd ∧ mg d.name = some (.ref f) ∧ PySem.W.keepIn K (.ref f) = true ∧ L2.Binds K fd d.ps [] ∧ FnG P w K mg base (L2N.CX P w) (n + 2) f fd d.ps (SpF mg K d.ps.length (T.run n d.name))) ∧
  ∀ d ∈ T.dds, ∀ f fd, Fun K d.fn d.qn d.st f fd → FnG P w K mg base (L2N.CX P w) (n + 2) f fd d.ps (SpD mg K d.ps.length d.k (T.run n d.key))
theorem Tx.dk_mem {T : Tx} {p : Str × Nat × Option Str} (h : p ∈ T.dk) : ∃ d ∈ T.dds, d.k = 1 ∧ p = (d.key, d.ps.length, d.m) := by
  unfold Tx.dk at h
  obtain ⟨d, hd, e⟩ := List.mem_filterMap.mp h
  split at e
  · rename_i z
    cases e
    exact ⟨d, hd, z, rfl⟩
  · cases e
theorem Tx.ctx_ok (S : T.Stand K mg) (O : T.Ok) (ho : T.exs ≠ [] → HotOk P w K mg base T.exs) (hi : ∀ x ∈ T.ini, IniOk P w K mg base x) {n : Nat} (G : T.Good P w K mg base n) {N ps : List Str} {st : Stmt} {qual : Str} {f : Addr} {cdv : Value} {A : Around} {outer : List PySem.Env} {s : Shared} {H : Hp} {E : XK} {np : Nat} (hS : FnScope N ps (defScope st)) (hA : A.guards = some [])
    (hr : Room (n + 2) (A.deeper (envOfC qual (defScope st) s.heap.objs.size f cdv))) : CtxOk ⟨N, defScope st, np, T.defs.map fun d => (d.name, d.ps.length), T.gints, T.gstrs, T.blts, T.exs, T.dk, T.ini⟩ (T.run n) (cxOf (L2N.CX P w) P w K mg base N qual (defScope st) f cdv A outer s H E) := by
  refine ⟨rfl, rfl, hS.nd, rfl, hr.mono (Nat.zero_le _), hA, fun p hp => ?_, S.gints, S.gstrs, S.blt, S.exs, fun ne => ⟨L2H.roomH_of (hr.mono (by omega)), ho ne⟩, fun ne => ?_, fun x hx => ⟨hi x hx, hr.mono (by omega), L2H.roomH_of (hr.mono (by omega))⟩⟩
  · obtain ⟨d', hd', rfl⟩ := List.mem_map.mp hp
    obtain ⟨f', fd', _, g1, g2, g3, g4⟩ := G.1 d' hd'
    exact ⟨f', fd', d'.ps, n + 2, g1, rfl, g2, g3, g4, hr⟩
  · have nd : T.dds ≠ [] := fun z => ne (by show T.dk = []; unfold Tx.dk; rw [z]; rfl)
    obtain ⟨C, f0, fd0, h1, h2, h3, h4, h5, h6, h7, h8, h9, h10⟩ := S.dds nd
    refine ⟨C, f0, fd0, h1, h2, h3, h4, h5, h6, h7, h8, h9 P w base, hr.mono (by omega), fun p hp hn => ?_, fun p hp m hm => ?_⟩
    · obtain ⟨d, hd, hk, rfl⟩ := Tx.dk_mem hp
      obtain ⟨f', fd', g1, g2, g3, g4, g5⟩ := h10 d hd
      have g := G.2 d hd f' fd' g1
      rw [hk] at g
      exact ⟨f', fd', d.ps, n + 2, g4 hn, rfl, g3, g2, g, hr⟩
    · obtain ⟨d, hd, hk, rfl⟩ := Tx.dk_mem hp
      obtain ⟨f', fd', g1, g2, g3, g4, g5⟩ := h10 d hd
      have g := G.2 d hd f' fd' g1
      rw [hk] at g
      exact ⟨f', fd', d.ps, n + 2, g5 m hm, rfl, g2, g, hr⟩
theorem Tx.good (S : T.Stand K mg) (O : T.Ok) (ho : T.exs ≠ [] → HotOk P w K mg base T.exs) (hi : ∀ x ∈ T.ini, IniOk P w K mg base x) : ∀ n : Nat, T.Good P w K mg base n := by
  intro n
  induction n with
  | zero =>
    refine ⟨fun d hd => ?_, fun d hd f fd F => ⟨fun vs H Q E h => h.1, fun A hA outer s H args us vs Q E hr e0 hb r h => ?_⟩⟩
    · obtain ⟨f, fd, F, b, g⟩ := S.fn d hd
      exact ⟨f, fd, F, g, F.kp, b, ⟨fun vs H Q E h => h.1, fun A hA outer s H args us vs Q E hr e0 hb r h => by
        obtain ⟨_, _, _, _, _, _, _, z⟩ := h
        exact z.elim⟩⟩
    · obtain ⟨_, _, _, _, _, _, _, _, _, z⟩ := h
      exact z.elim
  | succ n ih =>
    refine ⟨fun d hd => ?_, fun d hd f fd F => ?_⟩
    · obtain ⟨f, fd, F, b, g⟩ := S.fn d hd
      refine ⟨f, fd, F, g, F.kp, b, ?_⟩
      have hrun : T.run (n + 1) d.name = dBody d.ps.length d.N.length d.b (T.run n) := by
        funext as
        show (match T.find d.name with
          | some d => dBody d.ps.length d.N.length d.b (T.run n) as
          | none => match T.findX d.name with
            | some d => dBodyX (d.ps.length + d.k) d.N.length d.b (T.run n) as
            | none => .stuck) = _
        rw [O.uniq d hd]
      rw [hrun]
      refine FnG.of_body F (O.sc d hd) (fun vs H Q E h => h.1) fun cdv A outer s H vs Q E hA hr hsp => ⟨_, pss_w, ?_⟩
      obtain ⟨hv, F0, as, ex, hl, sl, nu, q⟩ := hsp
      have hN : d.ps.length ≤ d.N.length := by
        have := congrArg List.length (O.sc d hd).pre
        rw [List.length_take] at this
        omega
      have C : CtxOk (T.ctx d) (T.run n) (cxOf (L2N.CX P w) P w K mg base d.N d.name (defScope d.st) f cdv A outer s H E) := Tx.ctx_ok S O ho hi ih (O.sc d hd) hA hr
      generalize hX : cxOf (L2N.CX P w) P w K mg base d.N d.name (defScope d.st) f cdv A outer s H E = X at C
      have BO : BodyOk X := by
        subst hX
        exact ⟨fun _ => rfl, (O.sc d hd).kind, passes_of rfl, rfl, rfl⟩
      have tk : L2N.Takes X (fun cls dd _ H' => E cls dd H') := by
        subst hX
        exact L2N.takes_of rfl rfl rfl rfl
      have hXK : (bdOf K F0 H as vs).K = X.K := by subst hX; rfl
      have hmg : X.mg = mg := by subst hX; rfl
      have bo : BdOk (T.ctx d) (bdOf K F0 H as vs) := ⟨by show vs.length ≤ d.ps.length; omega, fun i a ⟨s, h1, _⟩ => by
        have := (List.getElem?_eq_some_iff.mp h1).1
        show i < d.ps.length
        omega⟩
      have R := startRel (N := d.N) ex (by omega) (by omega) sl
      have q := wp_bind q
      rw [← hv] at q
      refine O.snd d hd X (T.run n) (bdOf K F0 H as vs) F0 H _ _ _ (fun cls dd _ H' => E cls dd H') C BO bo hXK tk R (wp_mono q (fun r qr => ?_) fun x qx σ' F' H' cls dd k e1 hx => ?_)
      · obtain ⟨fl, ρ'⟩ := r
        have done : ∀ (s : Slot) (v : V) (F' H' : Hp) (σ' : L2.St), (fin as vs.length s ρ').wp (fun r => ∀ v F' H', Back K F0 H as vs F' H' r.1 r.2 v → Q v H') (fun x => ∀ F' H' cls dd, Kept (bdOf K F0 H as vs) F' H' → XcIs mg x cls dd K F' H' → E cls dd H') →
            Rel (bdOf K F0 H as vs) F' H' ρ' σ' → Res (bdOf K F0 H as vs) F' H' ρ' σ' s v → Q v H' := fun s v F' H' σ' hf R' hr' => by
          obtain ⟨ho, hf⟩ := wp_guard hf
          exact hf v F' H' ⟨R'.kept, endOuts R' ho, endRet hr'⟩
        cases fl with
        | nx => exact fun σ' F' H' R' e1 => done (.val .none) .non F' H' σ' qr R' Rp.non
        | ret s => exact fun σ' v F' H' R' e1 hr' => done s v F' H' σ' qr R' hr'
        | brk => exact qr.elim
        | cnt => exact qr.elim
      · rw [hmg] at hx
        rw [← hXK] at hx
        exact qx F' H' cls dd k hx
    · have hrun : T.run (n + 1) d.key = dBodyX (d.ps.length + d.k) d.N.length d.b (T.run n) := by
        funext as
        show (match T.find d.key with
          | some d => dBody d.ps.length d.N.length d.b (T.run n) as
          | none => match T.findX d.key with
            | some d => dBodyX (d.ps.length + d.k) d.N.length d.b (T.run n) as
            | none => .stuck) = _
        rw [(O.uniqX d hd).1, (O.uniqX d hd).2]
      rw [hrun]
      obtain ⟨hsc, hso⟩ := O.scX d hd
      have hN : d.ps.length + d.k ≤ d.N.length := by
        unfold sideOk at hso
        rw [Bool.and_eq_true, decide_eq_true_eq] at hso
        exact hso.1
      refine FnG.of_bodyX F hsc hso (fun vs H Q E h => h.1) fun cdv A outer s H vs Q E hA hr hsp => ?_
      obtain ⟨hv, qs, F0, as, hk, ex, hl, sl, nu, q⟩ := hsp
      refine ⟨qs, hk, _, pss_w, ?_⟩
      have C : CtxOk (T.ctxX d) (T.run n) (cxOf (L2N.CX P w) P w K mg base d.N d.qn (defScope d.st) f cdv A outer s H E) := Tx.ctx_ok S O ho hi ih hsc hA hr
      generalize hX : cxOf (L2N.CX P w) P w K mg base d.N d.qn (defScope d.st) f cdv A outer s H E = X at C
      have hvq : (vs ++ qs).length = d.ps.length + d.k := by rw [List.length_append]; omega
      generalize hus : vs ++ qs = us at *
      have BO : BodyOk X := by
        subst hX
        exact ⟨fun _ => rfl, hsc.kind, passes_of rfl, rfl, rfl⟩
      have tk : L2N.Takes X (fun cls dd _ H' => E cls dd H') := by
        subst hX
        exact L2N.takes_of rfl rfl rfl rfl
      have hXK : (bdOf K F0 H as us).K = X.K := by subst hX; rfl
      have hmg : X.mg = mg := by subst hX; rfl
      have bo : BdOk (T.ctxX d) (bdOf K F0 H as us) := ⟨by show us.length ≤ d.ps.length + d.k; omega, fun i a ⟨s, h1, _⟩ => by
        have := (List.getElem?_eq_some_iff.mp h1).1
        show i < d.ps.length + d.k
        omega⟩
      have R := startRel (N := d.N) ex (by omega) (by omega) sl
      have q := wpx_cut (wpx_bind q)
      rw [← hvq] at q
      refine O.sndX d hd X (T.run n) (bdOf K F0 H as us) F0 H _ _ _ (fun cls dd _ H' => E cls dd H') C BO bo hXK tk R (wpx_mono q (fun r qr => ?_) (fun x qx σ' F' H' cls dd k e1 hx => ?_) fun x ρx qx σ' F' H' cls dd R' e1 hx => ?_)
      · obtain ⟨fl, ρ'⟩ := r
        have done : ∀ (s : Slot) (v : V) (F' H' : Hp) (σ' : L2.St), (fin as us.length s ρ').wpx (fun r => ∀ v F' H', Back K F0 H as us F' H' r.1 r.2 v → Q v H') (fun x => ∀ F' H' cls dd, Kept (bdOf K F0 H as us) F' H' → XcIs mg x cls dd K F' H' → E cls dd H') (fun x outs => ∀ F' H' cls d, Kept (bdOf K F0 H as us) F' H' → OutsOk K F' H' as us outs → XcIs mg x cls d K F' H' → E cls d H') →
            Rel (bdOf K F0 H as us) F' H' ρ' σ' → Res (bdOf K F0 H as us) F' H' ρ' σ' s v → Q v H' := fun s v F' H' σ' hf R' hr' => by
          unfold fin guard' at hf
          split at hf
          · rename_i ho
            exact hf v F' H' ⟨R'.kept, endOuts R' ho, endRet hr'⟩
          · exact hf.elim
        cases fl with
        | nx => exact fun σ' F' H' R' e1 => done (.val .none) .non F' H' σ' qr R' Rp.non
        | ret s => exact fun σ' v F' H' R' e1 hr' => done s v F' H' σ' qr R' hr'
        | brk => exact qr.elim
        | cnt => exact qr.elim
      · rw [hmg] at hx
        rw [← hXK] at hx
        exact qx F' H' cls dd k hx
      · rw [hmg] at hx
        rw [← hXK] at hx
        exact qx.2 F' H' cls dd R'.kept (endOuts R' qx.1) hx
theorem Tx.fn_ok (S : T.Stand K mg) (O : T.Ok) (ho : T.exs ≠ [] → HotOk P w K mg base T.exs) (hi : ∀ x ∈ T.ini, IniOk P w K mg base x) (n : Nat) (d : DefI) (hd : d ∈ T.defs) : ∃ f fd, Fun K d.name d.name d.st f fd ∧ mg d.name = some (.ref f) ∧ PySem.W.keepIn K (.ref f) = true ∧ L2.Binds K fd d.ps [] ∧ FnG P w K mg base (L2N.CX P w) (n + 2) f fd d.ps (SpF mg K d.ps.length (T.run n d.name)) :=
  (Tx.good S O ho hi n).1 d hd
end
end Dn

/-! Den9: the operations' rules on values. -/
namespace Dn
open PySem PySem.Spec L2
open PyProof.Rows hiding St

/-! ### data without dicts -/
mutual
theorem dp_of {K : PySem.W.Frag} {H : Hp} : ∀ (d : PyData) (v : V), Rp K H d v → d.canLay0 = true → Dp K H v d
  | .none, _, h, _ => by cases h; exact .non
  | .bool b, _, h, _ => by cases h; exact .bl b
  | .int i, _, h, _ => by cases h; exact .int i
  | .str x, _, h, _ => by cases h; exact .str x
  | .list ds, _, h, c => by
    cases h with
    | lst h1 h2 => exact .lst (.inl (.inl h1)) (dpAll_of ds _ h2 (by simpa [PyData.canLay0] using c))
  | .tuple ds, _, h, c => by
    cases h with
    | tup h1 h2 h3 => exact .tup (.inl (.inr ⟨_, h1⟩)) (dpAll_of ds _ h3 (by simpa [PyData.canLay0] using c))
  | .dict es, _, _, c => by simp [PyData.canLay0] at c
theorem dpAll_of {K : PySem.W.Frag} {H : Hp} : ∀ (ds : List PyData) (vs : List V), RpAll K H ds vs → PyData.canLayAll0 ds = true → DpAll K H vs ds
  | [], _, h, _ => by cases h; exact .nil
  | d :: ds, _, h, c => by
    cases h with
    | cons h1 h2 =>
      simp only [PyData.canLayAll0, Bool.and_eq_true] at c
      exact .cons (dp_of d _ h1 c.1) (dpAll_of ds _ h2 c.2)
end
theorem shaped_lay {d : PyData} (h : SeqAt.shaped d = true) : d.canLay0 = true := SeqAt.canLay_of_shaped h
theorem dp_bp {K : PySem.W.Frag} {F H : Hp} {d : PyData} {v : V} (e : Ex F H) (b : Bp K F H d v) (h : SeqAt.shaped d = true) : Dp K H v d := dp_of d v (b.rp e) (shaped_lay h)

/-! ### helpers -/
theorem room_u {A : Around} (r : Room 0 A) : A.units + 65 < cLine := by have := r.un; omega
/-- an operation's outcome that is no new thing -/
theorem pq_val {K : PySem.W.Frag} {F H : Hp} {Q : VK} {d : PyData} {v : V} (e : Ex F H) (q : PQ K F H Q (.val d)) (r : Rp K F d v) : Q v H := q v F H (.refl e) r
/-- a new tuple -/
theorem pq_tup {K : PySem.W.Frag} {F H : Hp} {Q : VK} {ds : List PyData} {vs : List V} {p : Addr} {o : Obj} (e : Ex F H) (q : PQ K F H Q (.val (.tuple ds))) (hp : H p = none) (ho : o.dict = none) (r : RpAll K F ds vs) : Q (.ref p) (upd H p (.frz o (.tup vs))) :=
  q _ _ _ (.new e hp) (.tup upd_same ho (r.mono (.new (e.free hp))))
section
variable {K : PySem.W.Frag} {F H : Hp} {v : V}
/-- a list or a tuple among the operands -/
theorem Bp.seq {d : PyData} {ds : List PyData} (e : Ex F H) (b : Bp K F H d v) (h : d = .list ds ∨ d = .tuple ds) : ∃ a vs, v = .ref a ∧ (SqL K H a vs ∨ SqT K H a vs) ∧ RpAll K F ds vs := by
  rcases h with rfl | rfl
  · obtain ⟨a, vs, h1, h2, h3⟩ := b.lst e
    exact ⟨a, vs, h1, .inl (.inl (.inl h2)), h3⟩
  · obtain ⟨a, o, vs, h1, h2, h3, h4⟩ := b.tup
    exact ⟨a, vs, h1, .inr (.inl (.inr ⟨o, e _ _ h2⟩)), h4⟩
theorem atI_rp {ds : List PyData} {vs : List V} {i : Int} {d : PyData} (r : RpAll K F ds vs) (h : atI ds i = some d) : ∃ w, atI vs i = some w ∧ Rp K F d w := by
  unfold atI at h ⊢
  rw [← r.length]
  cases z : ixN ds.length i with
  | none => rw [z] at h; cases h
  | some j =>
    rw [z] at h
    exact RpAll.at' r (show ds[j]? = some d from h)
end

/-! ### whole numbers -/
def pI2 (C : Int → Int → Bool) (g : Int → Int → PyData) : Prim
  | [.int i, .int j] => if C i j then some (.val (g i j)) else none
  | _ => none
def big2 (i j : Int) : Bool := decide (i.natAbs.log2 + j.natAbs.log2 < 1000000)
theorem pI2_inv {C : Int → Int → Bool} {g : Int → Int → PyData} {ds : List PyData} {s : Slot} (h : pI2 C g ds = some s) : ∃ i j, ds = [.int i, .int j] ∧ C i j = true ∧ s = .val (g i j) := by
  unfold pI2 at h
  split at h
  · rename_i i j
    by_cases c : C i j = true
    · rw [if_pos c] at h; exact ⟨i, j, rfl, c, (Option.some.inj h).symm⟩
    · rw [if_neg c] at h; cases h
  · cases h
theorem rule_I {C : Int → Int → Prop} {c : Int → Int → Bool} {g : Int → Int → V} {g' : Int → Int → PyData} {K : PySem.W.Frag} (hc : ∀ i j, c i j = true → C i j) (hg : ∀ F i j, Rp K F (g' i j) (g i j)) : Rule K (rr2 (rI C g)) (pI2 c g') := by
  intro F H ds vs Q s e hb hs q
  obtain ⟨i, j, rfl, hC, rfl⟩ := pI2_inv hs
  obtain ⟨v, w, rfl, h1, h2⟩ := hb.two
  exact ⟨_, _, rfl, i, j, h1.int, h2.int, hc i j hC, pq_val e q (hg F i j)⟩
theorem rule_I0 {c : Int → Int → Bool} {g : Int → Int → V} {g' : Int → Int → PyData} {K : PySem.W.Frag} (hg : ∀ F i j, Rp K F (g' i j) (g i j)) : Rule K (rr2 (rI0 g)) (pI2 c g') := by
  intro F H ds vs Q s e hb hs q
  obtain ⟨i, j, rfl, hC, rfl⟩ := pI2_inv hs
  obtain ⟨v, w, rfl, h1, h2⟩ := hb.two
  exact ⟨_, _, rfl, i, j, h1.int, h2.int, pq_val e q (hg F i j)⟩
def yes2 (_ _ : Int) : Bool := true
def pSub : Prim := pI2 yes2 fun i j => .int (i - j)
def pDiv : Prim := pI2 (fun _ j => decide (0 < j) && decide (j.natAbs.log2 < 9000)) fun i j => .int (i / j)
def pMod : Prim := pI2 (fun _ j => decide (0 < j)) fun i j => .int (i % j)
def pPow : Prim := pI2 (fun i j => decide (0 ≤ j) && decide (j ≤ 1000000) && decide (i.natAbs < 2 ^ 64)) fun i j => .int (i ^ j.toNat)
def pShl : Prim := pI2 (fun i j => decide (0 ≤ j) && decide (j ≤ 1000000) && decide (i.natAbs < 2 ^ 64)) fun i j => .int (i * 2 ^ j.toNat)
def pShr : Prim := pI2 (fun _ j => decide (0 ≤ j)) fun i j => .int (i / 2 ^ j.toNat)
def pAndI : Prim := pI2 yes2 fun i j => .int (Builtin.bitAnd i j)
def pLt : Prim := pI2 yes2 fun i j => .bool (decide (i < j))
def pLe : Prim := pI2 yes2 fun i j => .bool (decide (i ≤ j))
def pGt : Prim := pI2 yes2 fun i j => .bool (decide (j < i))
def pGe : Prim := pI2 yes2 fun i j => .bool (decide (j ≤ i))
def pNeg : Prim
  | [.int i] => some (.val (.int (-i)))
  | _ => none
section
variable {Γ : Ctx} {d : DenOs} {p : Bool} {pos : Pos} {a b : Expr}
theorem e_sub (h : SndOs Γ [a, b] d p) : SndE Γ (.BinOp a .Sub b pos) (dP pSub d) p := snd_bin (r := fun _ => rI0 fun i j => .int (i - j)) (fun X _ _ => op_sub) (fun K => rule_I0 fun _ _ _ => .int _) h
theorem e_div (h : SndOs Γ [a, b] d p) : SndE Γ (.BinOp a .FloorDiv b pos) (dP pDiv d) p := snd_bin (r := fun _ => rI CDivW fun i j => .int (i / j)) (fun X _ _ => op_fdivW)
  (fun K => rule_I (fun i j z => by simp only [Bool.and_eq_true, decide_eq_true_eq] at z; exact z) fun _ _ _ => .int _) h
theorem e_mod (h : SndOs Γ [a, b] d p) : SndE Γ (.BinOp a .Mod b pos) (dP pMod d) p := snd_bin (r := fun _ => rI (fun _ j => 0 < j) fun i j => .int (i % j)) (fun X _ _ => op_mod)
  (fun K => rule_I (fun i j z => of_decide_eq_true z) fun _ _ _ => .int _) h
theorem e_shl (h : SndOs Γ [a, b] d p) : SndE Γ (.BinOp a .LShift b pos) (dP pShl d) p := snd_bin (r := fun _ => rI CPow fun i j => .int (i * 2 ^ j.toNat)) (fun X _ _ => op_shl)
  (fun K => rule_I (fun i j z => by simp only [Bool.and_eq_true, decide_eq_true_eq] at z; exact ⟨z.1.1, z.1.2, z.2⟩) fun _ _ _ => .int _) h
theorem e_lt (h : SndOs Γ [a, b] d p) (hb : notSet b = true) : SndE Γ (.Compare a [.Lt] [b] pos) (dP pLt d) p := snd_cmp (r := fun _ => rI0 fun i j => .bl (decide (i < j))) (fun X _ _ => op_lt) (fun K => rule_I0 fun _ _ _ => .bl _) h hb
theorem t_lt (h : SndOs Γ [a, b] d p) (hb : notSet b = true) : SndT Γ (.Compare a [.Lt] [b] pos) (dP pLt d) p := snd_cmpT (r := fun _ => rI0 fun i j => .bl (decide (i < j))) (fun X _ _ => op_lt) (fun K => rule_I0 fun _ _ _ => .bl _) h hb
theorem t_gt (h : SndOs Γ [a, b] d p) (hb : notSet b = true) : SndT Γ (.Compare a [.Gt] [b] pos) (dP pGt d) p := snd_cmpT (r := fun _ => rI0 fun i j => .bl (decide (j < i))) (fun X _ _ => op_gt) (fun K => rule_I0 fun _ _ _ => .bl _) h hb
end
theorem ic_lt : IntCmp .Lt fun i j => decide (i < j) := fun X => op_lt
theorem ic_le : IntCmp .LtE fun i j => decide (i ≤ j) := fun X => op_le
/-! ### + -/
/-- t + u: its object known -/
def rCatF (K : PySem.W.Frag) : R2 := fun x y H Q => ∃ a b xs ys, x = .ref a ∧ y = .ref b ∧ SqT K H a xs ∧ SqT K H b ys ∧ xs.length + ys.length ≤ sizeLine ∧
  (xs = [] → Q (.ref b) H) ∧ (xs ≠ [] → ys = [] → Q (.ref a) H) ∧ (xs ≠ [] → ys ≠ [] → ∀ p o, H p = none → o.dict = none → Q (.ref p) (upd H p (.frz o (.tup (xs ++ ys)))))
theorem op_catF {X : Cx} : OpR X (binaryOp .Add) (rCatF X.K) := by
  intro pins s σ H x y v u Q I rx ry ⟨a, b, xs, ys, ex, ey, ha, hb, hz, k0, k1, k2⟩
  subst ex
  subst ey
  by_cases hx : xs = []
  · exact op_catA pins s σ H _ _ v u Q I rx ry ⟨a, b, xs, ys, rfl, rfl, ha, hb, hz, k0, k1, fun n => absurd hx n⟩
  · by_cases hy : ys = []
    · exact op_catA pins s σ H _ _ v u Q I rx ry ⟨a, b, xs, ys, rfl, rfl, ha, hb, hz, k0, k1, fun _ n => absurd hy n⟩
    · cases rx; cases ry
      obtain ⟨i1, r1, p1, _⟩ := I.tuple ha
      obtain ⟨i2, r2, p2, _⟩ := I.tuple hb
      have n1 : ∀ {xs : List V} {us : List Value}, Vals xs us → us = [] → xs = [] := fun r z => by subst z; cases r; rfl
      refine HT.cat_tup p1 p2 (fun z => hx (n1 r1 z)) (fun z => absurd (n1 r2 z) hy) (fun _ => ?_) (by rw [← r1.length, ← r2.length]; exact hz)
      exact ⟨.ref s.heap.objs.size, _, laid_tup (t' := s.toks) I (r1.append r2) (by rw [List.length_append]; exact hz), rfl, k2 hx hy _ _ (I.hok.fresh (Nat.le_refl _)) rfl⟩
def rAdd (K : PySem.W.Frag) : R2 := fun x y H Q => (rI0 (fun i j => .int (i + j)) x y H Q ∨ (∃ i j, x = .str i ∧ y = .str j ∧ i.length + j.length ≤ sizeLine ∧ Q (.str (i ++ j)) H)) ∨ (rCat x y H Q ∨ rCatF K x y H Q)
theorem op_addA {X : Cx} : OpR X (binaryOp .Add) (rAdd X.K) := (op_add.or op_add_str).or (op_cat.or op_catF)
def pAdd : Prim
  | [.int i, .int j] => some (.val (.int (i + j)))
  | [.str i, .str j] => if i.length + j.length ≤ 1000000 then some (.val (.str (i ++ j))) else none
  | [.list i, .list j] => if i.length + j.length ≤ 1000000 then some (.own (i ++ j)) else none
  | [.tuple i, .tuple j] => if i.length + j.length ≤ 1000000 then some (.val (.tuple (i ++ j))) else none
  | _ => none
theorem rl_add (K : PySem.W.Frag) : Rule K (rr2 (rAdd K)) pAdd := by
  intro F H ds vs Q s e hb hs q
  unfold pAdd at hs
  split at hs
  · rename_i i j
    cases hs
    obtain ⟨v, w, rfl, h1, h2⟩ := hb.two
    exact ⟨_, _, rfl, .inl (.inl ⟨i, j, h1.int, h2.int, pq_val e q (.int _)⟩)⟩
  · rename_i i j
    split at hs
    · rename_i hl
      cases hs
      obtain ⟨v, w, rfl, h1, h2⟩ := hb.two
      exact ⟨_, _, rfl, .inl (.inr ⟨i, j, h1.str, h2.str, le_line hl, pq_val e q (.str _)⟩)⟩
    · cases hs
  · rename_i i j
    split at hs
    · rename_i hl
      cases hs
      obtain ⟨v, w, rfl, h1, h2⟩ := hb.two
      obtain ⟨a, xs, rfl, k1, k2⟩ := h1.lst e
      obtain ⟨b, ys, rfl, m1, m2⟩ := h2.lst e
      exact ⟨_, _, rfl, .inr (.inl ⟨a, b, xs, ys, rfl, rfl, k1, m1, le_line (by rw [← k2.length, ← m2.length]; exact hl), fun p hp => q p _ hp (k2.app m2)⟩)⟩
    · cases hs
  · rename_i i j
    split at hs
    · rename_i hl
      cases hs
      obtain ⟨v, w, rfl, h1, h2⟩ := hb.two
      obtain ⟨a, o, xs, rfl, k1, k0, k2⟩ := h1.tup
      obtain ⟨b, o', ys, rfl, m1, m0, m2⟩ := h2.tup
      refine ⟨_, _, rfl, .inr (.inr ⟨a, b, xs, ys, rfl, rfl, .inl (.inr ⟨_, e _ _ k1⟩), .inl (.inr ⟨_, e _ _ m1⟩), le_line (by rw [← k2.length, ← m2.length]; exact hl), fun z => ?_, fun _ z => ?_, fun _ _ p o hp ho => pq_tup e q hp ho (k2.app m2)⟩)⟩
      · subst z
        cases k2
        exact pq_val e q (.tup m1 m0 m2)
      · subst z
        cases m2
        rw [List.append_nil] at q
        exact pq_val e q (.tup k1 k0 k2)
    · cases hs
  · cases hs
/-! ### * -/
def rMulA : R2 := fun x y H Q => rI CMulW (fun i j => .int (i * j)) x y H Q ∨ rRep x y H Q
def pMul : Prim
  | [.int i, .int j] => if big2 i j then some (.val (.int (i * j))) else none
  | [.list xs, .int k] => if decide (-(2 ^ 62) ≤ k) && decide (k < 2 ^ 62) && decide (xs.length * k.toNat ≤ 1000000) then some (.own (List.replicate k.toNat xs).flatten) else none
  | _ => none
theorem RpAll.rep {K : PySem.W.Frag} {F : Hp} {ds : List PyData} {vs : List V} (r : RpAll K F ds vs) : ∀ n : Nat, RpAll K F (List.replicate n ds).flatten (List.replicate n vs).flatten
  | 0 => .nil
  | n + 1 => by
    rw [List.replicate_succ, List.replicate_succ, List.flatten_cons, List.flatten_cons]
    exact r.app (RpAll.rep r n)
theorem rl_mul (K : PySem.W.Frag) : Rule K (rr2 rMulA) pMul := by
  intro F H ds vs Q s e hb hs q
  unfold pMul at hs
  split at hs
  · rename_i i j
    split at hs
    · rename_i hl
      cases hs
      obtain ⟨v, w, rfl, h1, h2⟩ := hb.two
      exact ⟨_, _, rfl, .inl ⟨i, j, h1.int, h2.int, (by unfold CMulW; exact of_decide_eq_true hl), pq_val e q (.int _)⟩⟩
    · cases hs
  · rename_i xs k
    split at hs
    · rename_i hl
      cases hs
      simp only [Bool.and_eq_true, decide_eq_true_eq] at hl
      obtain ⟨v, w, rfl, h1, h2⟩ := hb.two
      obtain ⟨a, ys, rfl, k1, k2⟩ := h1.lst e
      exact ⟨_, _, rfl, .inr ⟨a, k, ys, rfl, h2.int, k1, by omega, by omega, le_line (by rw [← k2.length]; exact hl.2), fun p hp => q p _ hp (k2.rep _)⟩⟩
    · cases hs
  · cases hs
/-! ### ==, !=, is None -/
/-- two lists of different lengths, whatever they hold -/
def otherLen : PyData → PyData → Bool
  | .list xs, .list ys => decide (xs.length ≠ ys.length)
  | _, _ => false
def pEq : Prim
  | [.str x, .str y] => some (.val (.bool (x == y)))
  | [x, y] => if SeqAt.shaped x && SeqAt.shaped y then some (.val (.bool (PyData.eqv x y))) else if otherLen x y then some (.val (.bool false)) else none
  | _ => none
def pNe : Prim
  | [.str x, .str y] => some (.val (.bool (!(x == y))))
  | [x, y] => if SeqAt.shaped x && SeqAt.shaped y then some (.val (.bool (!PyData.eqv x y))) else if otherLen x y then some (.val (.bool true)) else none
  | _ => none
def otherL (K : PySem.W.Frag) (x y : V) (H : Hp) : Prop := ∃ a b vs ws, x = .ref a ∧ y = .ref b ∧ SqL K H a vs ∧ SqL K H b ws ∧ vs.length ≠ ws.length
def rEqS (K : PySem.W.Frag) : R2 := fun x y H Q => rEqD K x y H Q ∨ (∃ a b, x = .str a ∧ y = .str b ∧ Q (.bl (a == b)) H) ∨ (otherL K x y H ∧ Q (.bl false) H)
def rNeS (K : PySem.W.Frag) : R2 := fun x y H Q => rNeD K x y H Q ∨ (∃ a b, x = .str a ∧ y = .str b ∧ Q (.bl (!(a == b))) H) ∨ (otherL K x y H ∧ Q (.bl true) H)
theorem op_eqS {X : Cx} (hu : X.A.units + 64 < cLine) : OpR X (compareOp .Eq) (rEqS X.K) := fun pins s σ H x y v u Q I rx ry h => by
  rcases h with h | ⟨a, b, rfl, rfl, q⟩ | ⟨⟨a, b, vs, ws, rfl, rfl, h1, h2, ne⟩, q⟩
  · exact op_eqD hu pins s σ H x y v u Q I rx ry h
  · exact op_eq pins s σ H _ _ v u Q I rx ry ⟨rfl, by rw [dec_str]; exact q⟩
  · cases rx
    cases ry
    obtain ⟨i1, r1, p1, _⟩ := I.list h1
    obtain ⟨i2, r2, p2, _⟩ := I.list h2
    exact SeqAt.eq_list_lengthsAt p1.isList p2.isList (by simpa [← r1.length, ← r2.length] using ne) (by omega) ⟨.bl false, H, I, rfl, q⟩
theorem op_neS {X : Cx} (hu : X.A.units + 64 < cLine) : OpR X (compareOp .NotEq) (rNeS X.K) := fun pins s σ H x y v u Q I rx ry h => by
  rcases h with h | ⟨a, b, rfl, rfl, q⟩ | ⟨⟨a, b, vs, ws, rfl, rfl, h1, h2, ne⟩, q⟩
  · exact op_neD hu pins s σ H x y v u Q I rx ry h
  · exact op_ne pins s σ H _ _ v u Q I rx ry ⟨rfl, by rw [dec_str]; exact q⟩
  · cases rx
    cases ry
    obtain ⟨i1, r1, p1, _⟩ := I.list h1
    obtain ⟨i2, r2, p2, _⟩ := I.list h2
    exact SeqAt.RcNeAt.lists_lengths p1.isList p2.isList (by simpa [← r1.length, ← r2.length] using ne) (by omega) X.prog X.w X.xe _ ⟨.bl true, H, I, rfl, q⟩
theorem rl_eq (K : PySem.W.Frag) : Rule K (rr2 (rEqS K)) pEq := by
  intro F H ds vs Q s e hb hs q
  unfold pEq at hs
  split at hs
  · cases hs
    obtain ⟨v, w, rfl, h1, h2⟩ := hb.two
    exact ⟨_, _, rfl, .inr (.inl ⟨_, _, h1.str, h2.str, pq_val e q (.bl _)⟩)⟩
  · rename_i x y _
    split at hs
    · rename_i hl
      cases hs
      rw [Bool.and_eq_true] at hl
      obtain ⟨v, w, rfl, h1, h2⟩ := hb.two
      exact ⟨_, _, rfl, .inl ⟨x, y, dp_bp e h1 hl.1, dp_bp e h2 hl.2, hl.1, hl.2, pq_val e q (.bl _)⟩⟩
    · split at hs
      · rename_i hl
        cases hs
        obtain ⟨v, w, rfl, h1, h2⟩ := hb.two
        cases x <;> cases y <;> first | (cases hl; done) | skip
        obtain ⟨a, vs, rfl, g1, g2⟩ := h1.lst e
        obtain ⟨b, ws, rfl, g3, g4⟩ := h2.lst e
        exact ⟨_, _, rfl, .inr (.inr ⟨⟨a, b, vs, ws, rfl, rfl, .inl (.inl g1), .inl (.inl g3), by rw [← g2.length, ← g4.length]; exact of_decide_eq_true hl⟩, pq_val e q (.bl _)⟩)⟩
      · cases hs
  · cases hs
theorem rl_ne (K : PySem.W.Frag) : Rule K (rr2 (rNeS K)) pNe := by
  intro F H ds vs Q s e hb hs q
  unfold pNe at hs
  split at hs
  · cases hs
    obtain ⟨v, w, rfl, h1, h2⟩ := hb.two
    exact ⟨_, _, rfl, .inr (.inl ⟨_, _, h1.str, h2.str, pq_val e q (.bl _)⟩)⟩
  · rename_i x y _
    split at hs
    · rename_i hl
      cases hs
      rw [Bool.and_eq_true] at hl
      obtain ⟨v, w, rfl, h1, h2⟩ := hb.two
      exact ⟨_, _, rfl, .inl ⟨x, y, dp_bp e h1 hl.1, dp_bp e h2 hl.2, hl.1, hl.2, pq_val e q (.bl _)⟩⟩
    · split at hs
      · rename_i hl
        cases hs
        obtain ⟨v, w, rfl, h1, h2⟩ := hb.two
        cases x <;> cases y <;> first | (cases hl; done) | skip
        obtain ⟨a, vs, rfl, g1, g2⟩ := h1.lst e
        obtain ⟨b, ws, rfl, g3, g4⟩ := h2.lst e
        exact ⟨_, _, rfl, .inr (.inr ⟨⟨a, b, vs, ws, rfl, rfl, .inl (.inl g1), .inl (.inl g3), by rw [← g2.length, ← g4.length]; exact of_decide_eq_true hl⟩, pq_val e q (.bl _)⟩)⟩
      · cases hs
  · cases hs
def isNone : PyData → Bool
  | .none => true
  | _ => false
def pIsN : Prim
  | [x, .none] => some (.val (.bool (isNone x)))
  | _ => none
def pIsNN : Prim
  | [x, .none] => some (.val (.bool (!isNone x)))
  | _ => none
/-! ### in -/
def anyEq (ds : List PyData) (x : PyData) : Bool := ds.any fun z => PyData.eqv z x
def pIn : Prim
  | [x, .list ds] => if SeqAt.shaped x && SeqAt.shaped (.list ds) then some (.val (.bool (anyEq ds x))) else none
  | [x, .tuple ds] => if SeqAt.shaped x && SeqAt.shaped (.tuple ds) then some (.val (.bool (anyEq ds x))) else none
  | _ => none
def pNin : Prim
  | [x, .list ds] => if SeqAt.shaped x && SeqAt.shaped (.list ds) then some (.val (.bool (!anyEq ds x))) else none
  | [x, .tuple ds] => if SeqAt.shaped x && SeqAt.shaped (.tuple ds) then some (.val (.bool (!anyEq ds x))) else none
  | _ => none
def rInT (K : PySem.W.Frag) (n : Bool) : R2 := fun x y H Q => ∃ d ds, Dp K H x d ∧ Dp K H y (.tuple ds) ∧ SeqAt.shaped d = true ∧ SeqAt.shaped (.tuple ds) = true ∧ Q (.bl (n != ds.any fun z => PyData.eqv z d)) H
theorem op_inT {X : Cx} (hu : X.A.units + 65 < cLine) : OpR X (compareOp .In) (rInT X.K false) := by
  intro pins s σ H x y v u Q I rx ry ⟨d, ds, hd, he, sd, se, q⟩
  obtain ⟨as, w1⟩ := Dp.reads I d x v hd rx
  obtain ⟨bs, w2⟩ := Dp.reads I (.tuple ds) y u he ry
  refine SeqAt.in_tuple_reads w2 w1 (by simpa [PyData.canLay0] using shaped_lay se) (shaped_lay sd) (room_in_shaped sd hu) ⟨.bl _, H, I, rfl, ?_⟩
  rw [Bool.false_bne] at q
  exact q
theorem op_ninT {X : Cx} (hu : X.A.units + 65 < cLine) : OpR X (compareOp .NotIn) (rInT X.K true) := by
  intro pins s σ H x y v u Q I rx ry ⟨d, ds, hd, he, sd, se, q⟩
  obtain ⟨as, w1⟩ := Dp.reads I d x v hd rx
  obtain ⟨bs, w2⟩ := Dp.reads I (.tuple ds) y u he ry
  refine SeqAt.notIn_tuple_reads w2 w1 (by simpa [PyData.canLay0] using shaped_lay se) (shaped_lay sd) (room_in_shaped sd hu) ⟨.bl _, H, I, rfl, ?_⟩
  rw [Bool.true_bne] at q
  exact q
theorem rl_in (K : PySem.W.Frag) : Rule K (rr2 fun x y H Q => rInD K x y H Q ∨ rInT K false x y H Q) pIn := by
  intro F H ds vs Q s e hb hs q
  unfold pIn at hs
  split at hs
  · rename_i x ds
    split at hs
    · rename_i hl
      cases hs
      rw [Bool.and_eq_true] at hl
      obtain ⟨v, w, rfl, h1, h2⟩ := hb.two
      exact ⟨_, _, rfl, .inl ⟨x, ds, dp_bp e h1 hl.1, dp_bp e h2 hl.2, hl.1, hl.2, pq_val e q (.bl _)⟩⟩
    · cases hs
  · rename_i x ds
    split at hs
    · rename_i hl
      cases hs
      rw [Bool.and_eq_true] at hl
      obtain ⟨v, w, rfl, h1, h2⟩ := hb.two
      refine ⟨_, _, rfl, .inr ⟨x, ds, dp_bp e h1 hl.1, dp_bp e h2 hl.2, hl.1, hl.2, ?_⟩⟩
      rw [Bool.false_bne]
      exact pq_val e q (.bl _)
    · cases hs
  · cases hs
theorem rl_nin (K : PySem.W.Frag) : Rule K (rr2 fun x y H Q => rNotInD K x y H Q ∨ rInT K true x y H Q) pNin := by
  intro F H ds vs Q s e hb hs q
  unfold pNin at hs
  split at hs
  · rename_i x ds
    split at hs
    · rename_i hl
      cases hs
      rw [Bool.and_eq_true] at hl
      obtain ⟨v, w, rfl, h1, h2⟩ := hb.two
      exact ⟨_, _, rfl, .inl ⟨x, ds, dp_bp e h1 hl.1, dp_bp e h2 hl.2, hl.1, hl.2, pq_val e q (.bl _)⟩⟩
    · cases hs
  · rename_i x ds
    split at hs
    · rename_i hl
      cases hs
      rw [Bool.and_eq_true] at hl
      obtain ⟨v, w, rfl, h1, h2⟩ := hb.two
      refine ⟨_, _, rfl, .inr ⟨x, ds, dp_bp e h1 hl.1, dp_bp e h2 hl.2, hl.1, hl.2, ?_⟩⟩
      rw [Bool.true_bne]
      exact pq_val e q (.bl _)
    · cases hs
  · cases hs
/-! ### x[i] -/
def pIx : Prim
  | [.list ds, .int i] => (atI ds i).map .val
  | [.tuple ds, .int i] => (atI ds i).map .val
  | [.str z, .int i] => if z.length ≤ 1000000 then (atI z.cps.toList i).map fun c => .val (.str ⟨#[c]⟩) else none
  | _ => none
theorem rl_ix (K : PySem.W.Frag) : Rule K (rr2 (rIx K)) pIx := by
  intro F H ds vs Q s e hb hs q
  unfold pIx at hs
  split at hs
  · rename_i ds i
    obtain ⟨d, hd, rfl⟩ := Option.map_eq_some_iff.mp hs
    obtain ⟨v, w, rfl, h1, h2⟩ := hb.two
    obtain ⟨a, ys, rfl, k1, k2⟩ := h1.lst e
    obtain ⟨x, m1, m2⟩ := atI_rp k2 hd
    exact ⟨_, _, rfl, .inl ⟨a, ys, i, x, rfl, h2.int, .inl (.inl k1), m1, pq_val e q m2⟩⟩
  · rename_i ds i
    obtain ⟨d, hd, rfl⟩ := Option.map_eq_some_iff.mp hs
    obtain ⟨v, w, rfl, h1, h2⟩ := hb.two
    obtain ⟨a, o, ys, rfl, k1, k0, k2⟩ := h1.tup
    obtain ⟨x, m1, m2⟩ := atI_rp k2 hd
    exact ⟨_, _, rfl, .inr (.inl ⟨a, ys, i, x, rfl, h2.int, .inl (.inr ⟨_, e _ _ k1⟩), m1, pq_val e q m2⟩)⟩
  · rename_i z i
    split at hs
    · rename_i hl
      obtain ⟨c, hc, rfl⟩ := Option.map_eq_some_iff.mp hs
      obtain ⟨v, w, rfl, h1, h2⟩ := hb.two
      exact ⟨_, _, rfl, .inr (.inr ⟨z, i, c, h1.str, h2.int, le_line hl, hc, pq_val e q (.str _)⟩)⟩
    · cases hs
  · cases hs
section
variable {Γ : Ctx} {d : DenOs} {p : Bool} {pos : Pos} {a b : Expr}
theorem e_add (h : SndOs Γ [a, b] d p) : SndE Γ (.BinOp a .Add b pos) (dP pAdd d) p := snd_bin (r := rAdd) (fun X _ _ => op_addA) rl_add h
theorem e_mul (h : SndOs Γ [a, b] d p) : SndE Γ (.BinOp a .Mult b pos) (dP pMul d) p := snd_bin (r := fun _ => rMulA) (fun X _ _ => op_mulW.or op_rep) rl_mul h
theorem e_eq (h : SndOs Γ [a, b] d p) (hb : notSet b = true) : SndE Γ (.Compare a [.Eq] [b] pos) (dP pEq d) p := snd_cmp (r := rEqS) (fun X _ hr => op_eqS (by have := room_u hr; omega)) rl_eq h hb
theorem e_ne (h : SndOs Γ [a, b] d p) (hb : notSet b = true) : SndE Γ (.Compare a [.NotEq] [b] pos) (dP pNe d) p := snd_cmp (r := rNeS) (fun X _ hr => op_neS (by have := room_u hr; omega)) rl_ne h hb
theorem t_eq (h : SndOs Γ [a, b] d p) (hb : notSet b = true) : SndT Γ (.Compare a [.Eq] [b] pos) (dP pEq d) p := snd_cmpT (r := rEqS) (fun X _ hr => op_eqS (by have := room_u hr; omega)) rl_eq h hb
theorem t_ne (h : SndOs Γ [a, b] d p) (hb : notSet b = true) : SndT Γ (.Compare a [.NotEq] [b] pos) (dP pNe d) p := snd_cmpT (r := rNeS) (fun X _ hr => op_neS (by have := room_u hr; omega)) rl_ne h hb
theorem e_in (h : SndOs Γ [a, b] d p) (hb : notSet b = true) : SndE Γ (.Compare a [.In] [b] pos) (dP pIn d) p := snd_cmp (r := fun K => fun x y H Q => rInD K x y H Q ∨ rInT K false x y H Q) (fun X _ hr => (op_inD (room_u hr)).or (op_inT (room_u hr))) rl_in h hb
theorem e_nin (h : SndOs Γ [a, b] d p) (hb : notSet b = true) : SndE Γ (.Compare a [.NotIn] [b] pos) (dP pNin d) p := snd_cmp (r := fun K => fun x y H Q => rNotInD K x y H Q ∨ rInT K true x y H Q) (fun X _ hr => (op_notInD (room_u hr)).or (op_ninT (room_u hr))) rl_nin h hb
theorem t_nin (h : SndOs Γ [a, b] d p) (hb : notSet b = true) : SndT Γ (.Compare a [.NotIn] [b] pos) (dP pNin d) p := snd_cmpT (r := fun K => fun x y H Q => rNotInD K x y H Q ∨ rInT K true x y H Q) (fun X _ hr => (op_notInD (room_u hr)).or (op_ninT (room_u hr))) rl_nin h hb
theorem e_ix (h : SndOs Γ [a, b] d p) (hb : notSlice b = true) : SndE Γ (.Subscript a b pos) (dP pIx d) p := snd_ix (r := rIx) (fun X => ix_seq) rl_ix h hb
end
end Dn

/-! Den10: slices, built-in calls, sorting, reading methods. -/
namespace Dn
open PySem PySem.Spec L2
open PyProof.Rows hiding St

/-! ### a[lo:hi] -/
def cutD (ds : List PyData) (lo hi : Option Int) : List PyData := (ds.drop (HT.sIx ds.length 0 lo)).take (HT.sIx ds.length ds.length hi - HT.sIx ds.length 0 lo)
def rSlF (K : PySem.W.Frag) : V → Option Int → Option Int → Hp → VK → Prop := fun x lo hi H Q => ∃ a xs, x = .ref a ∧ SqT K H a xs ∧
  (HT.sIx xs.length 0 lo = 0 ∧ HT.sIx xs.length xs.length hi = xs.length → Q (.ref a) H) ∧ (¬ (HT.sIx xs.length 0 lo = 0 ∧ HT.sIx xs.length xs.length hi = xs.length) → ∀ p o, H p = none → o.dict = none → Q (.ref p) (upd H p (.frz o (.tup (cutV xs lo hi)))))
def pSlc (x : PyData) (lo hi : Option Int) : Option Slot := match x with
  | .list ds => some (.own (cutD ds lo hi))
  | .tuple ds => some (.val (.tuple (cutD ds lo hi)))
  | .str z => if z.length ≤ 1000000 then some (.val (.str (cutS z lo hi))) else none
  | _ => none
section
variable {Γ : Ctx} {x : DenO} {l u : Option DenO} {m p p1 p2 : Bool} {pos ppos : Pos} {a : Expr} {lo hi : Option Expr}
end

/-! ### calls of built-ins -/
def pLen : Prim
  | [.list ds] => some (.val (.int ds.length))
  | [.tuple ds] => some (.val (.int ds.length))
  | [.str z] => if z.length ≤ 1000000 then some (.val (.int z.length)) else none
  | _ => none
theorem rl_len (K : PySem.W.Frag) : Rule K (fun xs H Q => (∃ p ys, xs = [.ref p] ∧ (SqL K H p ys ∨ SqT K H p ys) ∧ Q (.int ys.length) H) ∨ (∃ z, xs = [.str z] ∧ z.length ≤ sizeLine ∧ Q (.int z.length) H)) pLen := by
  intro F H ds vs Q s e hb hs q
  unfold pLen at hs
  split at hs
  · rename_i ys
    cases hs
    obtain ⟨v, rfl, h1⟩ := hb.one
    obtain ⟨a, xs, rfl, k1, k2⟩ := h1.seq e (.inl rfl)
    refine .inl ⟨a, xs, rfl, k1, ?_⟩
    rw [← k2.length]
    exact pq_val e q (.int _)
  · rename_i ys
    cases hs
    obtain ⟨v, rfl, h1⟩ := hb.one
    obtain ⟨a, xs, rfl, k1, k2⟩ := h1.seq e (.inr rfl)
    refine .inl ⟨a, xs, rfl, k1, ?_⟩
    rw [← k2.length]
    exact pq_val e q (.int _)
  · rename_i z
    split at hs
    · rename_i hl
      cases hs
      obtain ⟨v, rfl, h1⟩ := hb.one
      exact .inr ⟨z, by rw [h1.str], le_line hl, pq_val e q (.int _)⟩
    · cases hs
  · cases hs
def pAbs : Prim
  | [.int i] => some (.val (.int (if i < 0 then -i else i)))
  | _ => none
/-- the whole numbers of a list -/
def numsOf : List PyData → Option (List Int)
  | [] => some []
  | .int i :: ds => (numsOf ds).map (i :: ·)
  | _ :: _ => none
def boolsOf : List PyData → Option (List Bool)
  | [] => some []
  | .bool i :: ds => (boolsOf ds).map (i :: ·)
  | _ :: _ => none
theorem numsOf_rp {K : PySem.W.Frag} {F : Hp} : ∀ {ds : List PyData} {vs : List V} {ns : List Int}, RpAll K F ds vs → numsOf ds = some ns → vs = ns.map V.int
  | [], _, _, r, h => by cases r; cases h; rfl
  | d :: ds, _, ns, r, h => by
    cases r with
    | cons r1 r2 =>
      unfold numsOf at h
      split at h
      · rename_i z; cases z
      · rename_i i ds' z
        cases z
        obtain ⟨ms, h1, rfl⟩ := Option.map_eq_some_iff.mp h
        cases r1
        rw [numsOf_rp r2 h1]
        rfl
      · cases h
theorem boolsOf_rp {K : PySem.W.Frag} {F : Hp} : ∀ {ds : List PyData} {vs : List V} {ns : List Bool}, RpAll K F ds vs → boolsOf ds = some ns → vs = ns.map V.bl
  | [], _, _, r, h => by cases r; cases h; rfl
  | d :: ds, _, ns, r, h => by
    cases r with
    | cons r1 r2 =>
      unfold boolsOf at h
      split at h
      · rename_i z; cases z
      · rename_i i ds' z
        cases z
        obtain ⟨ms, h1, rfl⟩ := Option.map_eq_some_iff.mp h
        cases r1
        rw [boolsOf_rp r2 h1]
        rfl
      · cases h
def topOf : List Int → Option Int
  | [] => none
  | n :: ns => some (ns.foldl max n)
def lowOf : List Int → Option Int
  | [] => none
  | n :: ns => some (ns.foldl min n)
theorem foldl_max (ns : List Int) : ∀ n : Int, (ns.foldl max n = n ∨ ns.foldl max n ∈ ns) ∧ n ≤ ns.foldl max n ∧ ∀ y ∈ ns, y ≤ ns.foldl max n := by
  induction ns with
  | nil => intro n; exact ⟨.inl rfl, Int.le_refl _, fun y hy => nomatch hy⟩
  | cons m ms ih =>
    intro n
    obtain ⟨h1, h2, h3⟩ := ih (max n m)
    rw [List.foldl_cons]
    refine ⟨?_, by omega, fun y hy => ?_⟩
    · rcases h1 with h1 | h1
      · rw [h1]
        rcases Int.le_total n m with z | z
        · right; rw [Int.max_eq_right z]; exact List.mem_cons_self
        · left; rw [Int.max_eq_left z]
      · right; exact List.mem_cons_of_mem _ h1
    · rcases List.mem_cons.mp hy with z | z
      · subst z; omega
      · exact h3 y z
theorem foldl_min (ns : List Int) : ∀ n : Int, (ns.foldl min n = n ∨ ns.foldl min n ∈ ns) ∧ ns.foldl min n ≤ n ∧ ∀ y ∈ ns, ns.foldl min n ≤ y := by
  induction ns with
  | nil => intro n; exact ⟨.inl rfl, Int.le_refl _, fun y hy => nomatch hy⟩
  | cons m ms ih =>
    intro n
    obtain ⟨h1, h2, h3⟩ := ih (min n m)
    rw [List.foldl_cons]
    refine ⟨?_, by omega, fun y hy => ?_⟩
    · rcases h1 with h1 | h1
      · rw [h1]
        rcases Int.le_total n m with z | z
        · left; rw [Int.min_eq_left z]
        · right; rw [Int.min_eq_right z]; exact List.mem_cons_self
      · right; exact List.mem_cons_of_mem _ h1
    · rcases List.mem_cons.mp hy with z | z
      · subst z; omega
      · exact h3 y z
/-- max(a, b), max(xs); the other -/
def pMax : Prim
  | [.int i, .int j] => some (.val (.int (if j > i then j else i)))
  | [.list ds] => (numsOf ds).bind fun ns => (topOf ns).map fun n => .val (.int n)
  | _ => none
def pMin : Prim
  | [.int i, .int j] => some (.val (.int (if j < i then j else i)))
  | [.list ds] => (numsOf ds).bind fun ns => (lowOf ns).map fun n => .val (.int n)
  | _ => none
theorem rl_max (K : PySem.W.Frag) : Rule K (fun xs H Q => (∃ i j, xs = [.int i, .int j] ∧ Q (.int (if j > i then j else i)) H) ∨ rMax K xs H Q) pMax := by
  intro F H ds vs Q s e hb hs q
  unfold pMax at hs
  split at hs
  · cases hs
    obtain ⟨v, w, rfl, h1, h2⟩ := hb.two
    exact .inl ⟨_, _, by rw [h1.int, h2.int], pq_val e q (.int _)⟩
  · obtain ⟨ns, hn, hs⟩ := Option.bind_eq_some_iff.mp hs
    obtain ⟨n, ht, rfl⟩ := Option.map_eq_some_iff.mp hs
    obtain ⟨v, rfl, h1⟩ := hb.one
    obtain ⟨a, xs, rfl, k1, k2⟩ := h1.lst e
    have := numsOf_rp k2 hn
    subst this
    cases ns with
    | nil => cases ht
    | cons m ms =>
      have ht : some (ms.foldl max m) = some n := ht
      cases ht
      obtain ⟨g1, g2, g3⟩ := foldl_max ms m
      refine .inr ⟨a, m :: ms, rfl, .inl (.inl k1), Nat.succ_pos _, fun k hk1 hk2 => ?_⟩
      have : k = ms.foldl max m := by
        have u1 : k ≤ ms.foldl max m := by
          rcases List.mem_cons.mp hk1 with z | z
          · subst z; exact g2
          · exact g3 k z
        have u2 : ms.foldl max m ≤ k := by
          rcases g1 with z | z
          · rw [z]; exact hk2 m List.mem_cons_self
          · exact hk2 _ (List.mem_cons_of_mem _ z)
        omega
      subst this
      exact pq_val e q (.int _)
  · cases hs
theorem rl_min (K : PySem.W.Frag) : Rule K (fun xs H Q => (∃ i j, xs = [.int i, .int j] ∧ Q (.int (if j < i then j else i)) H) ∨ rMin K xs H Q) pMin := by
  intro F H ds vs Q s e hb hs q
  unfold pMin at hs
  split at hs
  · cases hs
    obtain ⟨v, w, rfl, h1, h2⟩ := hb.two
    exact .inl ⟨_, _, by rw [h1.int, h2.int], pq_val e q (.int _)⟩
  · obtain ⟨ns, hn, hs⟩ := Option.bind_eq_some_iff.mp hs
    obtain ⟨n, ht, rfl⟩ := Option.map_eq_some_iff.mp hs
    obtain ⟨v, rfl, h1⟩ := hb.one
    obtain ⟨a, xs, rfl, k1, k2⟩ := h1.lst e
    have := numsOf_rp k2 hn
    subst this
    cases ns with
    | nil => cases ht
    | cons m ms =>
      have ht : some (ms.foldl min m) = some n := ht
      cases ht
      obtain ⟨g1, g2, g3⟩ := foldl_min ms m
      refine .inr ⟨a, m :: ms, rfl, .inl (.inl k1), Nat.succ_pos _, fun k hk1 hk2 => ?_⟩
      have : k = ms.foldl min m := by
        have u1 : ms.foldl min m ≤ k := by
          rcases List.mem_cons.mp hk1 with z | z
          · subst z; exact g2
          · exact g3 k z
        have u2 : k ≤ ms.foldl min m := by
          rcases g1 with z | z
          · rw [z]; exact hk2 m List.mem_cons_self
          · exact hk2 _ (List.mem_cons_of_mem _ z)
        omega
      subst this
      exact pq_val e q (.int _)
  · cases hs
def pSum : Prim
  | [.list ds] => (numsOf ds).map fun ns => .val (.int ns.sum)
  | _ => none
def pAll : Prim
  | [.list ds] => (boolsOf ds).map fun bs => .val (.bool (bs.all id))
  | _ => none
def pAny : Prim
  | [.list ds] => (boolsOf ds).map fun bs => .val (.bool (bs.any id))
  | _ => none
theorem rl_all (K : PySem.W.Frag) : Rule K (rAll K) pAll := by
  intro F H ds vs Q s e hb hs q
  unfold pAll at hs
  split at hs
  · obtain ⟨ns, hn, rfl⟩ := Option.map_eq_some_iff.mp hs
    obtain ⟨v, rfl, h1⟩ := hb.one
    obtain ⟨a, xs, rfl, k1, k2⟩ := h1.lst e
    have := boolsOf_rp k2 hn
    subst this
    exact ⟨a, ns, rfl, .inl (.inl k1), pq_val e q (.bl _)⟩
  · cases hs
/-- list(xs), tuple(xs) -/
def pListOf : Prim
  | [.list ds] => some (.own ds)
  | [.tuple ds] => some (.own ds)
  | _ => none
theorem rl_listOf (K : PySem.W.Frag) : Rule K (fun xs H Q => ∃ p ys, xs = [.ref p] ∧ (SqL K H p ys ∨ SqT K H p ys) ∧ ∀ l, H l = none → Q (.ref l) (upd H l (.lst ys))) pListOf := by
  intro F H ds vs Q s e hb hs q
  unfold pListOf at hs
  split at hs
  · cases hs
    obtain ⟨v, rfl, h1⟩ := hb.one
    obtain ⟨a, xs, rfl, k1, k2⟩ := h1.seq e (.inl rfl)
    exact ⟨a, xs, rfl, k1, fun l hl => q l xs hl k2⟩
  · cases hs
    obtain ⟨v, rfl, h1⟩ := hb.one
    obtain ⟨a, xs, rfl, k1, k2⟩ := h1.seq e (.inr rfl)
    exact ⟨a, xs, rfl, k1, fun l hl => q l xs hl k2⟩
  · cases hs
def pTupOf : Prim
  | [.list ds] => some (.val (.tuple ds))
  | [.tuple ds] => some (.val (.tuple ds))
  | _ => none
def rTupF (K : PySem.W.Frag) : List V → Hp → VK → Prop := fun xs H Q => ∃ p ys, xs = [.ref p] ∧ ((SqL K H p ys ∧ ∀ l o, H l = none → o.dict = none → Q (.ref l) (upd H l (.frz o (.tup ys)))) ∨ (SqT K H p ys ∧ Q (.ref p) H))
theorem call_tupF {X : Cx} : CallR X (.type "tuple") (rTupF X.K) := by
  intro pins s σ H xs us Q I r ⟨p, ys, ep, h⟩
  subst ep
  rcases h with ⟨hq, q⟩ | h
  · rw [Vals.ref1 r]
    obtain ⟨its, r', pl, hz⟩ := I.list hq
    refine call_tuple_list pl.isList (fun g kp => ?_) (by rw [List.size_toArray, ← r'.length]; exact hz)
    have J : Inv X pins σ H { s with heap := g } := I.kept (t' := s.toks) kp
    exact ⟨.ref g.objs.size, _, laid_tup (t' := s.toks) J r' hz, rfl, q _ _ (J.hok.fresh (Nat.le_refl _)) rfl⟩
  · exact call_tuple_of pins s σ H _ us Q I r ⟨p, ys, rfl, .inr h⟩
theorem rl_tupOf (K : PySem.W.Frag) : Rule K (rTupF K) pTupOf := by
  intro F H ds vs Q s e hb hs q
  unfold pTupOf at hs
  split at hs
  · cases hs
    obtain ⟨v, rfl, h1⟩ := hb.one
    obtain ⟨a, xs, rfl, k1, k2⟩ := h1.lst e
    exact ⟨a, xs, rfl, .inl ⟨.inl (.inl k1), fun l o hl ho => pq_tup e q hl ho k2⟩⟩
  · cases hs
    obtain ⟨v, rfl, h1⟩ := hb.one
    obtain ⟨a, o, xs, rfl, k1, k0, k2⟩ := h1.tup
    exact ⟨a, xs, rfl, .inr ⟨.inl (.inr ⟨_, e _ _ k1⟩), pq_val e q (.tup k1 k0 k2)⟩⟩
  · cases hs
/-- divmod(a, b) -/
def pDvm : Prim
  | [.int i, .int j] => if decide (0 < j) && decide (j < 1073741824) then some (.val (.tuple [.int (i / j), .int (i % j)])) else none
  | _ => none
def rDvmF : List V → Hp → VK → Prop := fun xs H Q => ∃ i j, xs = [.int i, .int j] ∧ CDiv i j ∧ ∀ p o, H p = none → o.dict = none → Q (.ref p) (upd H p (.frz o (.tup [.int (i / j), .int (i % j)])))
theorem call_dvmF {X : Cx} : CallR X (.builtin "divmod") rDvmF := by
  intro pins s σ H xs us Q I r ⟨i, j, e, ⟨h1, h2⟩, q⟩
  subst e
  obtain ⟨u, w', rfl, ⟨t, rfl⟩, ⟨t', rfl⟩⟩ := vals2 r
  refine divmod_int (by omega) ?_ (.inl (PyProof.noPylong_small (by omega)))
  rw [Int.fdiv_eq_ediv_of_nonneg i (by omega), Int.fmod_eq_emod_of_nonneg i (by omega)]
  refine ⟨.ref s.heap.objs.size, _, laid_tup (t' := s.toks + 1 + 1) I (xs := [.int (i / j), .int (i % j)]) (us := [.int (i / j) s.toks, .int (i % j) (s.toks + 1)]) (.cons ⟨_, rfl⟩ (.cons ⟨_, rfl⟩ .nil)) (by show 2 ≤ sizeLine; rw [sizeLine_eq]; decide), rfl, q _ _ (I.hok.fresh (Nat.le_refl _)) rfl⟩
theorem rl_dvm (K : PySem.W.Frag) : Rule K rDvmF pDvm := by
  intro F H ds vs Q s e hb hs q
  unfold pDvm at hs
  split at hs
  · rename_i i j
    split at hs
    · rename_i hl
      cases hs
      simp only [Bool.and_eq_true, decide_eq_true_eq] at hl
      obtain ⟨v, w, rfl, h1, h2⟩ := hb.two
      exact ⟨i, j, by rw [h1.int, h2.int], hl, fun p o hp ho => pq_tup e q hp ho (.cons (.int _) (.cons (.int _) .nil))⟩
    · cases hs
  · cases hs
/-- int(x), bool(x), str(i) -/
def pInt : Prim
  | [.int i] => some (.val (.int i))
  | [.bool b] => some (.val (.int (if b then 1 else 0)))
  | _ => none
theorem rl_int (K : PySem.W.Frag) : Rule K (fun xs H Q => (∃ i, xs = [.int i] ∧ Q (.int i) H) ∨ ∃ k, xs = [.bl k] ∧ Q (.int (if k then 1 else 0)) H) pInt := by
  intro F H ds vs Q s e hb hs q
  unfold pInt at hs
  split at hs
  · cases hs
    obtain ⟨v, rfl, h1⟩ := hb.one
    exact .inl ⟨_, by rw [h1.int], pq_val e q (.int _)⟩
  · cases hs
    obtain ⟨v, rfl, h1⟩ := hb.one
    exact .inr ⟨_, by rw [h1.bool], pq_val e q (.int _)⟩
  · cases hs
def pStrI : Prim
  | [.int i] => if i.natAbs.log2 < 1920 then some (.val (.str (toString i))) else none
  | _ => none
section
variable {Γ : Ctx} {d : DenOs} {p : Bool} {pos fpos : Pos} {a : Expr} {es : List Expr}
theorem e_len (h : SndOs Γ (a :: es) d p) (he : (a :: es).all plainE = true) (hg : Γ.sc.names.lookup ("len" : Str) = some .globalImplicit) (hf : ("len" : Str) ∈ Γ.blts) : SndE Γ (.Call (.Name "len" fpos) (a :: es) [] pos) (dP pLen d) p :=
  snd_callB (r := fun K xs H Q => (∃ p ys, xs = [.ref p] ∧ (SqL K H p ys ∨ SqT K H p ys) ∧ Q (.int ys.length) H) ∨ (∃ z, xs = [.str z] ∧ z.length ≤ sizeLine ∧ Q (.int z.length) H)) (fun X _ _ => call_len_seq.or call_len_str) rl_len PySem.boot_len h he hg hf (by decide)
theorem boot_max' : bootBuiltins "max" = some (.builtin "max") := by decide +kernel
theorem boot_min' : bootBuiltins "min" = some (.builtin "min") := by decide +kernel
theorem boot_all' : bootBuiltins "all" = some (.builtin "all") := by decide +kernel
theorem boot_dvm' : bootBuiltins "divmod" = some (.builtin "divmod") := by decide +kernel
theorem boot_list' : bootBuiltins "list" = some (.type "list") := by decide +kernel
theorem boot_tuple' : bootBuiltins "tuple" = some (.type "tuple") := by decide +kernel
theorem boot_int' : bootBuiltins "int" = some (.type "int") := by decide +kernel
theorem boot_bool' : bootBuiltins "bool" = some (.type "bool") := by decide +kernel
theorem e_max (h : SndOs Γ (a :: es) d p) (he : (a :: es).all plainE = true) (hg : Γ.sc.names.lookup ("max" : Str) = some .globalImplicit) (hf : ("max" : Str) ∈ Γ.blts) : SndE Γ (.Call (.Name "max" fpos) (a :: es) [] pos) (dP pMax d) p :=
  snd_callB (r := fun K xs H Q => (∃ i j, xs = [.int i, .int j] ∧ Q (.int (if j > i then j else i)) H) ∨ rMax K xs H Q) (fun X c _ => (call_max2 c).or (cr_max c)) rl_max boot_max' h he hg hf (by decide)
theorem e_min (h : SndOs Γ (a :: es) d p) (he : (a :: es).all plainE = true) (hg : Γ.sc.names.lookup ("min" : Str) = some .globalImplicit) (hf : ("min" : Str) ∈ Γ.blts) : SndE Γ (.Call (.Name "min" fpos) (a :: es) [] pos) (dP pMin d) p :=
  snd_callB (r := fun K xs H Q => (∃ i j, xs = [.int i, .int j] ∧ Q (.int (if j < i then j else i)) H) ∨ rMin K xs H Q) (fun X c _ => (call_min2 c).or (cr_min c)) rl_min boot_min' h he hg hf (by decide)
theorem e_all (h : SndOs Γ (a :: es) d p) (he : (a :: es).all plainE = true) (hg : Γ.sc.names.lookup ("all" : Str) = some .globalImplicit) (hf : ("all" : Str) ∈ Γ.blts) : SndE Γ (.Call (.Name "all" fpos) (a :: es) [] pos) (dP pAll d) p :=
  snd_callB (r := rAll) (fun X c _ => cr_all c) rl_all boot_all' h he hg hf (by decide)
theorem e_dvm (h : SndOs Γ (a :: es) d p) (he : (a :: es).all plainE = true) (hg : Γ.sc.names.lookup ("divmod" : Str) = some .globalImplicit) (hf : ("divmod" : Str) ∈ Γ.blts) : SndE Γ (.Call (.Name "divmod" fpos) (a :: es) [] pos) (dP pDvm d) p :=
  snd_callB (r := fun _ => rDvmF) (fun X _ _ => call_dvmF) rl_dvm boot_dvm' h he hg hf (by decide)
theorem e_listOf (h : SndOs Γ (a :: es) d p) (he : (a :: es).all plainE = true) (hg : Γ.sc.names.lookup ("list" : Str) = some .globalImplicit) (hf : ("list" : Str) ∈ Γ.blts) : SndE Γ (.Call (.Name "list" fpos) (a :: es) [] pos) (dP pListOf d) p :=
  snd_callTy (r := fun K xs H Q => ∃ p ys, xs = [.ref p] ∧ (SqL K H p ys ∨ SqT K H p ys) ∧ ∀ l, H l = none → Q (.ref l) (upd H l (.lst ys))) (fun X _ _ => call_list_of) rl_listOf boot_list' h he hg hf (by decide)
theorem e_tupOf (h : SndOs Γ (a :: es) d p) (he : (a :: es).all plainE = true) (hg : Γ.sc.names.lookup ("tuple" : Str) = some .globalImplicit) (hf : ("tuple" : Str) ∈ Γ.blts) : SndE Γ (.Call (.Name "tuple" fpos) (a :: es) [] pos) (dP pTupOf d) p :=
  snd_callTy (r := rTupF) (fun X _ _ => call_tupF) rl_tupOf boot_tuple' h he hg hf (by decide)
theorem e_int (h : SndOs Γ (a :: es) d p) (he : (a :: es).all plainE = true) (hg : Γ.sc.names.lookup ("int" : Str) = some .globalImplicit) (hf : ("int" : Str) ∈ Γ.blts) : SndE Γ (.Call (.Name "int" fpos) (a :: es) [] pos) (dP pInt d) p :=
  snd_callTy (r := fun _ xs H Q => (∃ i, xs = [.int i] ∧ Q (.int i) H) ∨ ∃ k, xs = [.bl k] ∧ Q (.int (if k then 1 else 0)) H) (fun X _ _ => call_int1) rl_int boot_int' h he hg hf (by decide)
end
/-! ### sorted(xs) -/
open PySem.W in
def sortOk (ds : List PyData) : Bool := ds.all (fun d => SeqAt.shaped d && ds.all fun e => alike d e) && (ds.all (fun d => match d with
  | .tuple (_ :: _) => true
  | _ => false) || ds.all fun d => match d with
  | .none => false
  | .tuple _ => false
  | _ => true)
open PySem.W in
def sortD (ds : List PyData) : List PyData := ds.mergeSort (dataLe false id)
def pSorted : Prim
  | [.list ds] => if sortOk ds && decide (ds.length ≤ 1000000) then some (.own (sortD ds)) else none
  | _ => none
open PySem.W in
theorem sortOk_like {ds : List PyData} (h : sortOk ds = true) : AllAlike ds := by
  unfold sortOk at h
  simp only [Bool.and_eq_true, List.all_eq_true] at h
  exact fun d hd e he => (h.1 d hd).2 e he
open PySem.W in
theorem sortOk_able {ds : List PyData} (h : sortOk ds = true) : Sortable ds := by
  unfold sortOk at h
  simp only [Bool.and_eq_true, Bool.or_eq_true, List.all_eq_true] at h
  rcases h.2 with h | h
  · refine .inl fun d hd => ?_
    have := h d hd
    cases d with
    | tuple xs =>
      cases xs with
      | nil => cases this
      | cons x r => exact ⟨x, r, rfl⟩
    | _ => cases this
  · refine .inr fun d hd => ?_
    have := h d hd
    cases d with
    | none => cases this
    | tuple xs => cases this
    | _ => exact ⟨(fun z => nomatch z), (fun xs z => nomatch z)⟩
/-- data with the values that stand for them -/
def rSortF (K : PySem.W.Frag) : List V → Hp → VK → Prop := fun vs H Q => ∃ (a : Addr) (zs : List (PyData × V)), vs = [.ref a] ∧ SqL K H a (zs.map (·.2)) ∧ (∀ z ∈ zs, Dp K H z.2 z.1) ∧ sortOk (zs.map (·.1)) = true ∧
  ∀ p, H p = none → Q (.ref p) (upd H p (.lst ((zs.mergeSort (PySem.W.dataLe false Prod.fst)).map (·.2))))
open PySem.W in
theorem each_of {X : Cx} {pins : List (Addr × Obj)} {σ : St} {H : Hp} {s : Shared} (I : Inv X pins σ H s) : ∀ {zs : List (PyData × V)} {us : List Value}, Vals (zs.map (·.2)) us → (∀ z ∈ zs, Dp X.K H z.2 z.1) →
    EachIs (fun u (z : PyData × V) => RelV z.2 u) us zs ∧ EachIs (fun u (z : PyData × V) => ∃ as, Reads s.heap u z.1 as) us zs
  | [], _, r, _ => by cases r; exact ⟨.nil, .nil⟩
  | z :: zs, _, r, h => by
    cases r with
    | cons r1 r2 =>
      obtain ⟨h1, h2⟩ := each_of I (zs := zs) r2 fun y hy => h y (List.mem_cons_of_mem _ hy)
      exact ⟨.cons r1 h1, .cons (Dp.reads I z.1 z.2 _ (h z List.mem_cons_self) r1) h2⟩
open PySem.W in
theorem vals_each : ∀ {us : List Value} {zs : List (PyData × V)}, EachIs (fun u (z : PyData × V) => RelV z.2 u) us zs → Vals (zs.map (·.2)) us
  | _, _, .nil => .nil
  | _, _, .cons h t => .cons h (vals_each t)
theorem boot_sorted' : bootBuiltins "sorted" = some (.builtin "sorted") := by decide +kernel
section
variable {Γ : Ctx} {d : DenOs} {p : Bool} {pos fpos : Pos} {a : Expr} {es : List Expr}
end
end Dn

/-! Den11: changes of own lists, more sources, index, list(range), a, b = x, y. -/
namespace Dn
open PySem PySem.Spec L2
open PyProof.Rows hiding St

/-! ### changes of own lists -/
def mAppend : MutF := fun ds as => match as with
  | [d] => if ds.length < 1000000 then some (.none, ds ++ [d]) else none
  | _ => none
theorem rm_append (K : PySem.W.Frag) : RuleM K rAppend mAppend := by
  intro F H a ds as vs avs res ds' Q e hF hH r ra h q
  unfold mAppend at h
  split at h
  · split at h
    · rename_i d hl
      cases h
      cases ra with
      | cons r1 r2 =>
        cases r2
        exact ⟨a, vs, _, rfl, rfl, hH, lt_line (by rw [← r.length]; omega), q _ _ .non (r.app (.cons r1 .nil))⟩
    · cases h
  · cases h
def mExtend : MutF := fun ds as => match as with
  | [.list es] => if ds.length + es.length ≤ 1000000 then some (.none, ds ++ es) else none
  | _ => none
theorem rm_extend (K : PySem.W.Frag) : RuleM K rExtend mExtend := by
  intro F H a ds as vs avs res ds' Q e hF hH r ra h q
  unfold mExtend at h
  split at h
  · split at h
    · rename_i es hl
      cases h
      cases ra with
      | cons r1 r2 =>
        cases r2
        cases r1 with
        | lst h1 h2 => exact ⟨a, _, vs, _, rfl, rfl, hH, e _ _ h1, le_line (by rw [← r.length, ← h2.length]; exact hl), q _ _ .non (r.app h2)⟩
    · cases h
  · cases h
def mPop : MutF := fun ds as => match as with
  | [] => (ds[ds.length - 1]?).map fun d => (d, ds.dropLast)
  | _ => none
def mPopAt : MutF := fun ds as => match as with
  | [.int i] => if decide (-(2 ^ 62) ≤ i) && decide (i < 2 ^ 62) then (seqIndex? i ds.length).bind fun k => (ds[k]?).map fun d => (d, ds.eraseIdx k) else none
  | _ => none
theorem rm_popAt (K : PySem.W.Frag) : RuleM K rPopAt mPopAt := by
  intro F H a ds as vs avs res ds' Q e hF hH r ra h q
  unfold mPopAt at h
  split at h
  · split at h
    · rename_i i hl
      simp only [Bool.and_eq_true, decide_eq_true_eq] at hl
      obtain ⟨k, hk, h⟩ := Option.bind_eq_some_iff.mp h
      obtain ⟨d, hd, e1⟩ := Option.map_eq_some_iff.mp h
      cases e1
      cases ra with
      | cons r1 r2 =>
        cases r2
        cases r1
        obtain ⟨v, hv, rv⟩ := RpAll.at' r hd
        exact ⟨a, vs, i, k, v, rfl, rfl, hH, by omega, by omega, by rw [← r.length]; exact hk, hv, q _ _ rv (r.erase k)⟩
    · cases h
  · cases h
def mReverse : MutF := fun ds as => match as with
  | [] => some (.none, ds.reverse)
  | _ => none
section
variable {Γ : Ctx} {as : DenOs} {p : Bool} {pos xpos apos : Pos} {e : Expr} {x : Str} {i : Nat}
theorem u_append (hN : Γ.N[i]? = some x) (hv : visB Γ.sc x = true) (hx : okName x = true) (h : SndFs Γ [e] as p) (he : [e].all plainE = true) (hline : (apos.endLine == pos.line) = true) : SndE Γ (.Call (.Attribute (.Name x xpos) "append" apos) [e] [] pos) (dMut i mAppend as) false :=
  snd_mut PySem.F.slot_list_append PySem.F.type_list_append (fun X _ => mt_append) rm_append hN hv hx h he (show 1 < 20 by decide) hline
theorem u_extend (hN : Γ.N[i]? = some x) (hv : visB Γ.sc x = true) (hx : okName x = true) (h : SndFs Γ [e] as p) (he : [e].all plainE = true) (hline : (apos.endLine == pos.line) = true) : SndE Γ (.Call (.Attribute (.Name x xpos) "extend" apos) [e] [] pos) (dMut i mExtend as) false :=
  snd_mut PySem.F.slot_list_extend PySem.F.type_list_extend (fun X _ => mt_extend) rm_extend hN hv hx h he (show 1 < 20 by decide) hline
theorem u_popAt (hN : Γ.N[i]? = some x) (hv : visB Γ.sc x = true) (hx : okName x = true) (h : SndFs Γ [e] as p) (he : [e].all plainE = true) (hline : (apos.endLine == pos.line) = true) : SndE Γ (.Call (.Attribute (.Name x xpos) "pop" apos) [e] [] pos) (dMut i mPopAt as) false :=
  snd_mut PySem.F.slot_list_pop PySem.F.type_list_pop (fun X _ => mt_popAt) rm_popAt hN hv hx h he (show 1 < 20 by decide) hline
end

/-! ### a, b = x, y -/
def dPar (i j : Nat) (a : DenOs) : DenS := fun Φ ρ => (a Φ ρ).bind fun r => match r.1 with
  | [x, y] => .ok (.nx, (r.2.set i (.val x)).set j (.val y))
  | _ => .stuck
/-! ### list(range(..)) -/
def dListR (s : DenI) : Den := fun Φ ρ => (s Φ ρ).bind fun r => guard' (decide (r.1.length ≤ 1000000)) (.ok (.own r.1, r.2))
section
variable {Γ : Ctx} {a b : Expr} {d d' : DenO} {p p' m m' : Bool} {fpos rpos pos lpos : Pos}
theorem rg_rp {K : PySem.W.Frag} {F : Hp} (lo hi : Int) : RpAll K F (rngD lo (hi - lo).toNat) (rgV lo hi) := by
  unfold rngD rgV
  generalize (hi - lo).toNat = n
  induction (List.range n) with
  | nil => exact .nil
  | cons x xs ih => exact .cons (.int _) ih
theorem rngD_length (lo : Int) (n : Nat) : (rngD lo n).length = n := by simp [rngD]
theorem snd_listR1 (h : SndO Γ a d p m) (he : plainE a = true) (hg : Γ.sc.names.lookup ("range" : Str) = some .globalImplicit) (hf : ("range" : Str) ∈ Γ.blts) (hg2 : Γ.sc.names.lookup ("list" : Str) = some .globalImplicit) (hf2 : ("list" : Str) ∈ Γ.blts) :
    SndE Γ (.Call (.Name "list" fpos) [.Call (.Name "range" rpos) [a] [] pos] [] lpos) (dListR (iR1 d)) p := by
  intro X Φ B F H ρ σ Q W C hK T R hq
  refine PE.w (pe_listRg C.calm (gl_of C hg2) (C.blt _ hf2) (prg_1 (gl_of C hg) (C.blt _ hf) pe_w (star_of he))) ?_
  refine h X Φ B F H ρ σ _ W C hK T R (wp_mono (wp_bind (c := d Φ ρ) (wp_bind (c := iR1 d Φ ρ) hq)) (fun y q v F1 H1 R1 e1 e2 hv => ?_) fun _ q => q)
  obtain ⟨y, ρ1⟩ := y
  cases y with
  | int n =>
    obtain ⟨g, q⟩ := wp_guard q
    have := small_of g
    have hv := hv.bp.int
    subst hv
    obtain ⟨g2, q⟩ := wp_guard q
    rw [rngD_length] at g2
    have g2 := of_decide_eq_true g2
    refine ⟨n, rfl, ⟨by omega, by omega, this.1, this.2, ?_⟩, fun l hl => pq_of R1 e1 e2 q l _ hl ?_⟩
    · rw [Int.sub_zero]; omega
    · have := rg_rp (K := B.K) (F := F1) 0 n
      rw [Int.sub_zero] at this
      exact this
  | _ => exact q.elim
end

/-! ### x.index(y) -/
def firstAt (y : PyData) : List PyData → Nat → Option Nat
  | [], _ => none
  | d :: ds, n => if PyData.eqv d y then some n else firstAt y ds (n + 1)
theorem firstAt_at {y : PyData} : ∀ {ds : List PyData} {n k : Nat}, firstAt y ds n = some k → ∃ j z, k = n + j ∧ ds[j]? = some z ∧ PyData.eqv z y = true ∧ ∀ m z', m < j → ds[m]? = some z' → PyData.eqv z' y = false
  | [], _, _, h => by cases h
  | d :: ds, n, k, h => by
    unfold firstAt at h
    split at h
    · rename_i c
      cases h
      exact ⟨0, d, rfl, rfl, c, fun m z hm => absurd hm (Nat.not_lt_zero _)⟩
    · rename_i c
      obtain ⟨j, z, h1, h2, h3, h4⟩ := firstAt_at h
      refine ⟨j + 1, z, by omega, by simpa using h2, h3, fun m z' hm hz => ?_⟩
      cases m with
      | zero => simp at hz; subst hz; simpa using c
      | succ m => exact h4 m z' (by omega) (by simpa using hz)
def pLIndex : Prim
  | [.list ds, y] => if SeqAt.shaped (.list ds) && SeqAt.shaped y then (firstAt y ds 0).map fun k : Nat => Slot.val (.int (k : Int)) else none
  | _ => none
def rTIndexD (K : PySem.W.Frag) : V → List V → Hp → VK → Prop := fun x xs H Q => ∃ (a : Addr) (y : V) (d : PyData) (ds : List PyData) (j : Nat) (z : PyData), x = V.ref a ∧ xs = [y] ∧ Dp K H (V.ref a) (.tuple ds) ∧ Dp K H y d ∧
  SeqAt.shaped (.tuple ds) = true ∧ SeqAt.shaped d = true ∧ ds[j]? = some z ∧ PyData.eqv z d = true ∧ (∀ (m : Nat) (z' : PyData), m < j → ds[m]? = some z' → PyData.eqv z' d = false) ∧ Q (.int (j : Nat)) H
theorem mt_tindexD {X : Cx} (hu : X.A.units + 65 < cLine) : MtR X "tuple.index" (rTIndexD X.K) := by
  intro pins s σ H x xs v us Q I rx rxs ⟨a, y, d, ds, j, z, e1, e2, hl, hy, sl, sd, hz, hzj, hno, q⟩
  subst e1
  subst e2
  cases rx
  obtain ⟨uy, eu, ry⟩ := Vals.one rxs
  subst eu
  obtain ⟨bs, w1⟩ := Dp.reads I d y uy hy ry
  have lay : PyData.canLayAll0 ds = true := by simpa [PyData.canLay0] using shaped_lay sl
  cases hl with
  | tup hs ha =>
    obtain ⟨its, rv, ⟨⟨cls, dd, data, sls⟩, ho, hc, n, hd⟩, hz'⟩ := I.tuple hs
    simp only at hc hd
    subst hc
    subst hd
    obtain ⟨as, w4⟩ := Dp.readsAll I ds _ its ha rv
    have hn : its.length = ds.length := SeqAt.ReadsAll.length ds its as w4
    have hmap : its.map (SeqAt.readOf s.heap) = ds := SeqAt.readsAll_map ds its as lay w4
    have hj : j < its.toArray.size := by
      have := (List.getElem?_eq_some_iff.mp hz).1
      rw [List.size_toArray]; omega
    have rd : ∀ (m : Nat) (hm : m < its.toArray.size) (y' : PyData), ds[m]? = some y' → SeqAt.readOf s.heap its.toArray[m] = y' := fun m hm y' hy' => by
      have hml : m < its.length := by simpa using hm
      rw [← hmap, List.getElem?_map, List.getElem?_eq_getElem hml] at hy'
      simpa using hy'
    refine call_meets PySem.F.slot_tuple_index ⟨_, ho, rfl⟩ PySem.F.entry_tuple_index (PySem.F.args_tuple_index_2 _ _)
      (TI.tuple_indexAt a its.toArray n dd sls uy (fun u => PyData.eqv (SeqAt.readOf s.heap u) d) j hj ?_ ?_)
      ⟨ho, SeqAt.items_eqAt (vs := its.toArray) (show ReadsAll s.heap its.toArray.toList ds as from w4) w1 lay (shaped_lay sd) (room_in_shaped sd hu), ⟨.int (j : Nat), H, I.tok _, ⟨_, rfl⟩, q⟩⟩
    · show PyData.eqv (SeqAt.readOf s.heap its.toArray[j]) d = true
      rw [rd j hj z hz]
      exact hzj
    · intro m hm hmj
      have hmd : m < ds.length := by rw [List.size_toArray] at hm; omega
      show PyData.eqv (SeqAt.readOf s.heap its.toArray[m]) d = false
      rw [rd m hm _ (List.getElem?_eq_getElem hmd)]
      exact hno m _ hmj (List.getElem?_eq_getElem hmd)
def pTIndex : Prim
  | [.tuple ds, y] => if SeqAt.shaped (.tuple ds) && SeqAt.shaped y then (firstAt y ds 0).map fun k : Nat => Slot.val (.int (k : Int)) else none
  | _ => none
theorem rl_tindex (K : PySem.W.Frag) : Rule K (rrm (rTIndexD K)) pTIndex := by
  intro F H ds vs Q s e hb hs q
  unfold pTIndex at hs
  split at hs
  · rename_i ys y
    split at hs
    · rename_i hl
      rw [Bool.and_eq_true] at hl
      obtain ⟨k, hk, rfl⟩ := Option.map_eq_some_iff.mp hs
      obtain ⟨v, w, rfl, h1, h2⟩ := hb.two
      obtain ⟨a, o, xs, rfl, k1, k0, k2⟩ := h1.tup
      obtain ⟨j, z, rfl, g2, g3, g4⟩ := firstAt_at hk
      rw [Nat.zero_add] at q
      exact ⟨_, _, rfl, a, w, y, ys, j, z, rfl, rfl, dp_bp e h1 hl.1, dp_bp e h2 hl.2, hl.1, hl.2, g2, g3, g4, pq_val e q (.int _)⟩
    · cases hs
  · cases hs
section
variable {Γ : Ctx} {x : DenO} {d : DenOs} {p p' pm : Bool} {pos apos : Pos} {o a : Expr} {es : List Expr}
theorem e_tindex (h1 : SndO Γ o x p pm) (h2 : SndOs Γ (a :: es) d p') (hp : (p' || !pm) = true) (he : (a :: es).all plainE = true) (hl : (a :: es).length < 20) (hc : notCall o = true) (hline : (apos.endLine == pos.line) = true) : SndE Γ (.Call (.Attribute o "index" apos) (a :: es) [] pos) (dM "tuple" pTIndex x d) (p && p') :=
  snd_meth PySem.F.plainAttrs_tuple PySem.F.slot_tuple_index PySem.F.type_tuple_index (fun X _ hr => mt_tindexD (room_u hr)) rl_tindex (by decide) h1 h2 hp he hl hc hline
end

/-! ### enumerate, zip -/
def pairUp : List PyData → List PyData → List PyData
  | x :: xs, y :: ys => .tuple [x, y] :: pairUp xs ys
  | _, _ => []
def iEnumD (d : Den) : DenI := fun Φ ρ => (oOf d Φ ρ).bind fun r => match r.1 with
  | .list ds => .ok (pairUp (rngD 0 ds.length) ds, r.2)
  | _ => .stuck
def iZipD (a : DenOs) : DenI := fun Φ ρ => (a Φ ρ).bind fun r => match r.1 with
  | [.list ds, .list es] => .ok (pairUp ds es, r.2)
  | [.tuple ds, .tuple es] => .ok (pairUp ds es, r.2)
  | _ => .stuck
section
variable {Γ : Ctx} {tg e e2 : Expr} {d : Den} {a : DenOs} {p tp : Bool} {fpos pos tpos : Pos} {elts : List Expr} {kk : Nat}
end
end Dn

/-! Den13: sorted(set(xs)) of pairs as one operation. -/
namespace Dn
open PySem PySem.Spec L2
open PyProof.Rows hiding St

section
variable {X : Cx}
/-- set(xs), the pairs known -/
def rSetF (K : PySem.W.Frag) (P : Program) (w : World) : List V → Hp → VK → Prop := fun xs H Q => ∃ (l : Addr) (ks : List (Addr × List Int)), xs = [V.ref l] ∧ (SqL K H l (ks.map fun p => V.ref p.1) ∨ SqT K H l (ks.map fun p => V.ref p.1)) ∧ (∀ p ∈ ks, SqT K H p.1 (p.2.map V.int)) ∧
  (∀ L : List (Addr × List Int), (L.map (·.2)).Nodup → (∀ p ∈ L, p ∈ ks) → L.length ≤ 64) ∧
  ∀ a L, H a = none → (∀ p ∈ L, p ∈ ks) → (∀ p ∈ ks, p.2 ∈ L.map (·.2)) → Q (.ref a) (upd H a (SetTW P w a L))
theorem call_setF (hc : X.calm = true) (hu : X.A.units + 64 < cLine) : CallR X (.type "set") (rSetF X.K X.prog X.w) := by
  intro pins s σ H xs us Q I r ⟨l, ks, e, hl, hk, few, q⟩
  subst e
  rw [Vals.ref1 r]
  have hn : H s.heap.objs.size = none := I.hok.fresh (Nat.le_refl _)
  have fin : ∀ (g : Heap) (tk : Nat) L es ep t, SetW X.prog X.w g s.heap.objs.size L es ep t → Got ks ks.length L → (∀ b o, s.heap.get? b = some o → g.get? b = some o) → EP X pins σ Q (.ref s.heap.objs.size) { s with heap := g, toks := tk } := fun g tk L es ep t R got k =>
    ⟨.ref s.heap.objs.size, upd H s.heap.objs.size (SetTW X.prog X.w s.heap.objs.size L), I.laid (t' := tk) k (Nat.le_refl _) (setTW_new (R.w0 (few L R.2.1 fun p hp => List.mem_of_mem_take (got.sub p hp)))), rfl, q _ L hn (fun p hp => List.mem_of_mem_take (got.sub p hp)) fun p hp => got.all p (by rw [List.take_length]; exact hp)⟩
  rcases hl with hl | hl
  · obtain ⟨its, rv, pl, hz⟩ := I.list hl
    exact set_of_list (P := X.prog) (w := X.w) ks (I.ok.hd hc) pl.isList (by simpa using refs_of_vals rv) (fun p hp => I.isT (hk p hp)) few (by omega) fin
  · obtain ⟨its, rv, pl, hz⟩ := I.tuple hl
    exact set_of_tuple (P := X.prog) (w := X.w) ks (I.ok.hd hc) pl (by simpa using refs_of_vals rv) (fun p hp => I.isT (hk p hp)) few (by omega) fin
end
/-! ### pairs -/
def pairsOf : List PyData → Option (List (Int × Int))
  | [] => some []
  | .tuple [.int i, .int j] :: ds => (pairsOf ds).map ((i, j) :: ·)
  | _ :: _ => none
def prD (p : Int × Int) : PyData := .tuple [.int p.1, .int p.2]
def lexP (p q : Int × Int) : Bool := decide (p.1 < q.1 ∨ (p.1 = q.1 ∧ p.2 ≤ q.2))
def dedP : List (Int × Int) → List (Int × Int)
  | [] => []
  | p :: ps => if p ∈ ps then dedP ps else p :: dedP ps
def setSort (ps : List (Int × Int)) : List (Int × Int) := (dedP ps).mergeSort lexP
def smallP (ps : List (Int × Int)) : Bool := ps.all fun p => decide (0 ≤ p.1) && decide (p.1 < 64) && decide (0 ≤ p.2) && decide (p.2 < 64)
def coreSS (ds : List PyData) : Option (List PyData) := (pairsOf ds).bind fun ps => if smallP ps && decide ((dedP ps).length ≤ 64) then some ((setSort ps).map prD) else none
def pSortSet : PyData → Option (List PyData)
  | .list ds => coreSS ds
  | .tuple ds => coreSS ds
  | _ => none
def dSS (d : DenO) : Den := fun Φ ρ => (d Φ ρ).bind fun r => (opt (pSortSet r.1)).bind fun ds => .ok (.own ds, r.2)
theorem dedP_mem {p : Int × Int} : ∀ ps, p ∈ dedP ps ↔ p ∈ ps
  | [] => Iff.rfl
  | q :: ps => by
    unfold dedP
    split
    · rename_i h
      rw [dedP_mem ps, List.mem_cons]
      exact ⟨.inr, fun z => z.elim (fun e => e ▸ h) id⟩
    · rw [List.mem_cons, List.mem_cons, dedP_mem ps]
theorem dedP_nodup : ∀ ps, (dedP ps).Nodup
  | [] => List.nodup_nil
  | q :: ps => by
    unfold dedP
    split
    · exact dedP_nodup ps
    · rename_i h
      exact List.nodup_cons.mpr ⟨fun z => h ((dedP_mem ps).mp z), dedP_nodup ps⟩
theorem lexP_trans (a b c : Int × Int) (h : lexP a b = true) (h' : lexP b c = true) : lexP a c = true := by
  unfold lexP at *
  simp only [decide_eq_true_eq] at *
  omega
theorem lexP_total (a b : Int × Int) : (lexP a b || lexP b a) = true := by
  unfold lexP
  simp only [Bool.or_eq_true, decide_eq_true_eq]
  omega
theorem lexP_anti {a b : Int × Int} (h : lexP a b = true) (h' : lexP b a = true) : a = b := by
  unfold lexP at *
  simp only [decide_eq_true_eq] at *
  exact Prod.ext (by omega) (by omega)
theorem setSort_mem {p : Int × Int} {ps : List (Int × Int)} : p ∈ setSort ps ↔ p ∈ ps := by
  unfold setSort
  rw [List.mem_mergeSort, dedP_mem]
theorem setSort_sorted (ps : List (Int × Int)) : (setSort ps).Pairwise fun a b => lexP a b = true := List.pairwise_mergeSort lexP_trans lexP_total _
theorem setSort_nodup (ps : List (Int × Int)) : (setSort ps).Nodup := ((List.mergeSort_perm _ _).nodup_iff).mpr (dedP_nodup ps)
/-- what is sorted so, without doubles, and holds the same -/
theorem setSort_eq {ps qs : List (Int × Int)} (h : ∀ p, p ∈ qs ↔ p ∈ ps) (nd : qs.Nodup) (st : qs.Pairwise fun a b => lexP a b = true) : qs = setSort ps :=
  List.Perm.eq_of_pairwise (fun a b _ _ => lexP_anti) st (setSort_sorted ps) ((List.perm_ext_iff_of_nodup nd (setSort_nodup ps)).mpr fun p => by rw [h, setSort_mem])
def keyP (p : Int × Int) : List Int := [p.1, p.2]
/-- the pairs with their tuples -/
theorem pairs_rp {K : PySem.W.Frag} {F : Hp} : ∀ {ds : List PyData} {vs : List V} {ps : List (Int × Int)}, RpAll K F ds vs → pairsOf ds = some ps →
    ∃ ks : List (Addr × List Int), vs = ks.map (fun k => V.ref k.1) ∧ ks.map (·.2) = ps.map keyP ∧ ∀ k ∈ ks, ∃ o, F k.1 = some (.frz o (.tup (k.2.map V.int))) ∧ o.dict = none
  | [], _, _, r, h => by cases r; cases h; exact ⟨[], rfl, rfl, fun k z => nomatch z⟩
  | d :: ds, _, ps, r, h => by
    cases r with
    | cons r1 r2 =>
      unfold pairsOf at h
      split at h
      · rename_i z; cases z
      · rename_i i j ds' z
        cases z
        obtain ⟨qs, h1, rfl⟩ := Option.map_eq_some_iff.mp h
        obtain ⟨ks, g1, g2, g3⟩ := pairs_rp r2 h1
        cases r1 with
        | tup k1 k0 k2 =>
          cases k2 with
          | cons m1 m2 =>
            cases m2 with
            | cons m2 m3 =>
              cases m3
              cases m1
              cases m2
              refine ⟨(_, [i, j]) :: ks, by rw [g1]; rfl, by rw [List.map_cons, List.map_cons, g2]; rfl, fun k hk => ?_⟩
              rcases List.mem_cons.mp hk with e | hk
              · subst e; exact ⟨_, k1, k0⟩
              · exact g3 k hk
      · cases h
theorem nodup_len {α : Type} [DecidableEq α] : ∀ (xs ys : List α), xs.Nodup → (∀ x ∈ xs, x ∈ ys) → xs.length ≤ ys.length
  | [], _, _, _ => Nat.zero_le _
  | x :: xs, ys, nd, h => by
    obtain ⟨h1, h2⟩ := List.nodup_cons.mp nd
    have hx := h x List.mem_cons_self
    have := nodup_len xs (ys.erase x) h2 fun y hy => (List.mem_erase_of_ne (fun e : y = x => h1 (by rw [← e]; exact hy))).mpr (h y (List.mem_cons_of_mem _ hy))
    rw [List.length_erase_of_mem hx] at this
    have := List.length_pos_of_mem hx
    rw [List.length_cons]
    omega
theorem len_of_keys {L : List (Addr × List Int)} {qs : List (Int × Int)} (nd : (L.map (·.2)).Nodup) (sub : ∀ k ∈ L, ∃ q ∈ qs, k.2 = keyP q) (hl : (dedP qs).length ≤ 64) : L.length ≤ 64 := by
  have h : (L.map (·.2)).length ≤ ((dedP qs).map keyP).length := by
    refine nodup_len _ _ nd fun x hx => ?_
    obtain ⟨k, hk, rfl⟩ := List.mem_map.mp hx
    obtain ⟨q, hq, e⟩ := sub k hk
    rw [e]
    exact List.mem_map.mpr ⟨q, (dedP_mem qs).mpr hq, rfl⟩
  rw [List.length_map, List.length_map] at h
  omega
theorem keyP_inj {p q : Int × Int} (h : keyP p = keyP q) : p = q := by
  unfold keyP at h
  injection h with h1 h2
  injection h2 with h2 _
  exact Prod.ext h1 h2
theorem back_keys {L : List (Addr × List Int)} {qs : List (Int × Int)} (sub : ∀ k ∈ L, ∃ q ∈ qs, k.2 = keyP q) : ∃ rs : List (Int × Int), L.map (·.2) = rs.map keyP ∧ ∀ r ∈ rs, r ∈ qs := by
  induction L with
  | nil => exact ⟨[], rfl, fun r h => nomatch h⟩
  | cons k L ih =>
    obtain ⟨rs, h1, h2⟩ := ih fun y hy => sub y (List.mem_cons_of_mem _ hy)
    obtain ⟨q, hq, e⟩ := sub k List.mem_cons_self
    refine ⟨q :: rs, by rw [List.map_cons, List.map_cons, h1, e], fun r hr => ?_⟩
    rcases List.mem_cons.mp hr with z | z
    · rw [z]; exact hq
    · exact h2 r z
theorem boot_set' : bootBuiltins "set" = some (.type "set") := by decide +kernel
theorem rp_keys {K : PySem.W.Frag} {F : Hp} : ∀ {L : List (Addr × List Int)} {rs : List (Int × Int)}, L.map (·.2) = rs.map keyP → (∀ k ∈ L, ∃ o, F k.1 = some (.frz o (.tup (k.2.map V.int))) ∧ o.dict = none) → RpAll K F (rs.map prD) (L.map fun k => V.ref k.1)
  | [], [], _, _ => .nil
  | [], _ :: _, h, _ => by cases h
  | _ :: _, [], h, _ => by cases h
  | k :: L, r :: rs, h, f => by
    rw [List.map_cons, List.map_cons] at h
    injection h with h1 h2
    obtain ⟨o, g1, g2⟩ := f k List.mem_cons_self
    rw [h1] at g1
    exact .cons (.tup g1 g2 (.cons (.int _) (.cons (.int _) .nil))) (rp_keys h2 fun y hy => f y (List.mem_cons_of_mem _ hy))
theorem pSortSet_inv {y : PyData} {ds : List PyData} (h : pSortSet y = some ds) : ∃ ys ps, (y = .list ys ∨ y = .tuple ys) ∧ pairsOf ys = some ps ∧ smallP ps = true ∧ (dedP ps).length ≤ 64 ∧ ds = (setSort ps).map prD := by
  have core : ∀ ys, coreSS ys = some ds → ∃ ps, pairsOf ys = some ps ∧ smallP ps = true ∧ (dedP ps).length ≤ 64 ∧ ds = (setSort ps).map prD := fun ys h => by
    unfold coreSS at h
    obtain ⟨ps, h1, h2⟩ := Option.bind_eq_some_iff.mp h
    split at h2
    · rename_i c
      rw [Bool.and_eq_true, decide_eq_true_eq] at c
      cases h2
      exact ⟨ps, h1, c.1, c.2, rfl⟩
    · cases h2
  unfold pSortSet at h
  split at h
  · obtain ⟨ps, g⟩ := core _ h; exact ⟨_, ps, .inl rfl, g⟩
  · obtain ⟨ps, g⟩ := core _ h; exact ⟨_, ps, .inr rfl, g⟩
  · cases h
theorem snd_sortSet {Γ : Ctx} {e : Expr} {d : DenO} {p m : Bool} {fpos spos pos pos2 : Pos} (h : SndO Γ e d p m) (he : plainE e = true) (hg : Γ.sc.names.lookup ("sorted" : Str) = some .globalImplicit) (hf : ("sorted" : Str) ∈ Γ.blts) (hg2 : Γ.sc.names.lookup ("set" : Str) = some .globalImplicit) (hf2 : ("set" : Str) ∈ Γ.blts) :
    SndE Γ (.Call (.Name "sorted" fpos) [.Call (.Name "set" spos) [e] [] pos2] [] pos) (dSS d) p := by
  intro X Φ B F H ρ σ Q W C hK T R hq
  have hu := C.room.un
  have I1 : PE X (.Call (.Name "set" spos) [e] [] pos2) (tCB (rSetF X.K X.prog X.w) (wEs X [e])) :=
    pe_callTy (call_setF C.calm (by omega)) (gl_of C hg2) (C.blt _ hf2) boot_set' (pa_ws (by rw [List.all_cons, List.all_nil, Bool.and_true]; exact he)) (by decide) (by decide) (star_of he)
  refine PE.w (pe_callB (call_sortedW C.calm (by omega)) (gl_of C hg) (C.blt _ hf) boot_sorted' (pa_cons I1 pa_nil) (by decide) (by decide)) ?_
  refine h X Φ B F H ρ σ _ W C hK T R (wp_mono (wp_bind (c := d Φ ρ) hq) (fun y q v F1 H1 R1 e1 e2 hv => ?_) fun _ q => q)
  obtain ⟨y, ρ1⟩ := y
  cases g : pSortSet y with
  | none =>
    replace q : ((opt (pSortSet y)).bind fun ds => Out.ok (Slot.own ds, ρ1)).wp (EvP B F H σ p Q) (ExP X B F σ W) := q
    rw [g] at q; exact q.elim
  | some ds =>
    replace q : ((opt (pSortSet y)).bind fun ds => Out.ok (Slot.own ds, ρ1)).wp (EvP B F H σ p Q) (ExP X B F σ W) := q
    rw [g] at q
    replace q : EvP B F H σ p Q (.own ds, ρ1) := q
    obtain ⟨ys, ps, hy, h1, h2, h3, rfl⟩ := pSortSet_inv g
    obtain ⟨l, vs, rfl, k1, k2⟩ := hv.bp.seq R1.kept.ex hy
    obtain ⟨ks, rfl, g2, g3⟩ := pairs_rp k2 h1
    have hF : ∀ {F' : Hp}, Ex F1 F' → ∀ k ∈ ks, SqT X.K F' k.1 (k.2.map V.int) := fun ex k hk => by
      obtain ⟨o, z, _⟩ := g3 k hk
      exact .inl (.inr ⟨o, ex _ _ z⟩)
    have sub : ∀ k ∈ ks, ∃ p ∈ ps, k.2 = keyP p := fun k hk => by
      have : k.2 ∈ ps.map keyP := by rw [← g2]; exact List.mem_map.mpr ⟨k, hk, rfl⟩
      obtain ⟨p, hp, e⟩ := List.mem_map.mp this
      exact ⟨p, hp, e.symm⟩
    have bd : ∀ p ∈ ps, (0 ≤ p.1 ∧ p.1 < 64) ∧ (0 ≤ p.2 ∧ p.2 < 64) := fun p hp => by
      have := List.all_eq_true.mp h2 p hp
      simp only [Bool.and_eq_true, decide_eq_true_eq] at this
      exact ⟨⟨this.1.1.1, this.1.1.2⟩, this.1.2, this.2⟩
    refine ⟨l, ks, rfl, hK ▸ k1, hF R1.kept.ex, fun L nd hs => len_of_keys nd (fun k hk => sub k (hs k hk)) h3, fun a L ha hL1 hL2 => ?_⟩
    have exa : Ex H1 (upd H1 a (SetTW X.prog X.w a L)) := .new ha
    refine ⟨a, L, rfl, upd_same, fun k hk => hF (R1.kept.ex.trans exa) k (hL1 k hk), fun k hk => ?_, fun L' t pm nd hw ht => ?_⟩
    · obtain ⟨p, hp, e⟩ := sub k (hL1 k hk)
      exact ⟨p.1, p.2, e⟩
    · have inL : ∀ k ∈ L', k ∈ ks := fun k hk => hL1 k (pm.mem_iff.mp hk)
      obtain ⟨rs, w1, w2⟩ := back_keys (L := L') (qs := ps) fun k hk => sub k (inL k hk)
      have rnd : rs.Nodup := by
        rw [w1] at nd
        exact List.Pairwise.of_map keyP (fun a b hne e => hne (congrArg keyP e)) nd
      have rmem : ∀ r, r ∈ rs ↔ r ∈ ps := fun r => by
        refine ⟨w2 r, fun hr => ?_⟩
        have z1 : keyP r ∈ ks.map (·.2) := by rw [g2]; exact List.mem_map.mpr ⟨r, hr, rfl⟩
        obtain ⟨k, hk, ek⟩ := List.mem_map.mp z1
        have z2 : k.2 ∈ L'.map (·.2) := (pm.map (·.2)).mem_iff.mpr (hL2 k hk)
        rw [ek, w1] at z2
        obtain ⟨r', hr', er⟩ := List.mem_map.mp z2
        rw [← keyP_inj er]; exact hr'
      have rst : rs.Pairwise fun a b => lexP a b = true := by
        let f : List Int → List Int → Prop := fun x y => x.getD 0 0 < y.getD 0 0 ∨ x.getD 0 0 = y.getD 0 0 ∧ x.getD 1 0 ≤ y.getD 1 0
        have z : (L'.map (·.2)).Pairwise f := List.pairwise_map.mpr (hw.imp fun {x y} h => by
          rw [leK_eq, decide_eq_true_eq] at h
          exact h)
        rw [w1, List.pairwise_map] at z
        exact z.imp fun {x y} h => decide_eq_true h
      have er := setSort_eq rmem rnd rst
      subst er
      exact pq_of (R1.grow exa) e1 (fun z => (e2 z).trans exa) q t _ ht (rp_keys w1 fun k hk => g3 k (inL k hk))
/-! ### x = [..] where a comprehension's block sees x -/
end Dn

/-! Den14: plain reasoning over meanings. -/
namespace Dn
open PySem PySem.Spec L2
open PyProof.Rows hiding St

theorem run_at (T : Tx) {x : Str} {d : DefI} (h : T.find x = some d) (n : Nat) (as : List Slot) : T.run (n + 1) x as = dBody d.ps.length d.N.length d.b (T.run n) as := by
  show (match T.find x with
    | some d => dBody d.ps.length d.N.length d.b (T.run n) as
    | none => match T.findX x with
      | some d => dBodyX (d.ps.length + d.k) d.N.length d.b (T.run n) as
      | none => .stuck) = _
  rw [h]
theorem wp_bind' {α β : Type} {c : Out α} {f : α → Out β} {P : β → Prop} {E : Exc → Prop} (h : c.wp (fun a => (f a).wp P E) E) : (c.bind f).wp P E := by
  cases c with
  | ok a => exact h
  | exc x => exact h
  | stuck => exact h
  | any g => exact h
  | exs x ρ => exact h
theorem wp_eq {α : Type} {c : Out α} {a : α} {P : α → Prop} {E : Exc → Prop} (e : c = .ok a) (h : P a) : c.wp P E := by rw [e]; exact h
theorem ok_bind {α β : Type} (a : α) (f : α → Out β) : (Out.ok a).bind f = f a := rfl
theorem forL_wp {f : PyData → Env → Out (Fl × Env)} {P : Fl × Env → Prop} {E : Exc → Prop} (I : List PyData → Env → Prop) (fin : ∀ ρ, I [] ρ → P (.nx, ρ))
    (step : ∀ d ds ρ, I (d :: ds) ρ → (f d ρ).wp (fun r => match r.1 with
      | .nx => I ds r.2
      | .cnt => I ds r.2
      | .brk => P (.nx, r.2)
      | .ret s => P (.ret s, r.2)) E) : ∀ (ds : List PyData) (ρ : Env), I ds ρ → (forL f ds ρ).wp P E
  | [], ρ, h => fin ρ h
  | d :: ds, ρ, h => by
    refine wp_bind' (wp_mono (step d ds ρ h) (fun r q => ?_) fun _ q => q)
    obtain ⟨fl, ρ1⟩ := r
    cases fl with
    | nx => exact forL_wp I fin step ds ρ1 q
    | cnt => exact forL_wp I fin step ds ρ1 q
    | brk => exact q
    | ret s => exact q
theorem lcL_wp {f : PyData → Env → Out (Option PyData × Env)} {P : List PyData × Env → Prop} {E : Exc → Prop} (I : List PyData → List PyData → Env → Prop) 
    (step : ∀ d ds acc ρ, I (d :: ds) acc ρ → (f d ρ).wp (fun r => I ds (acc ++ r.1.toList) r.2) E) : ∀ (ds acc : List PyData) (ρ : Env), I ds acc ρ → (∀ out ρ', I [] (acc ++ out) ρ' → P (out, ρ')) → (lcL f ds ρ).wp P E
  | [], acc, ρ, h, fin => fin [] ρ (by rw [List.append_nil]; exact h)
  | d :: ds, acc, ρ, h, fin => by
    refine wp_bind' (wp_mono (step d ds acc ρ h) (fun r q => ?_) fun _ q => q)
    refine wp_bind' (lcL_wp (P := fun z => P (r.1.toList ++ z.1, z.2)) I step ds _ r.2 q fun out ρ' h' => fin _ ρ' ?_)
    rw [← List.append_assoc]
    exact h'
theorem whileN_wp {c : Den} {b : DenS} {Φ : Calls} {P : Fl × Env → Prop} {E : Exc → Prop} (I : Nat → Env → Prop)
    (step : ∀ k ρ, I k ρ → (c Φ ρ).wp (fun r => match r.1 with
      | .val (.bool true) => (b Φ r.2).wp (fun s => match s.1 with
        | .nx => ∃ j, j < k ∧ I j s.2
        | .cnt => ∃ j, j < k ∧ I j s.2
        | .brk => P (.nx, s.2)
        | .ret x => P (.ret x, s.2)) E
      | .val (.bool false) => P (.nx, r.2)
      | _ => False) E) : ∀ (n k : Nat) (ρ : Env), k < n → I k ρ → (whileN c b Φ n ρ).wp P E
  | 0, k, ρ, hk, _ => absurd hk (Nat.not_lt_zero _)
  | n + 1, k, ρ, hk, h => by
    refine wp_bind' (wp_mono (step k ρ h) (fun r q => ?_) fun _ q => q)
    obtain ⟨s, ρ1⟩ := r
    cases s with
    | val d =>
      cases d with
      | bool v =>
        cases v with
        | true =>
          refine wp_bind' (wp_mono q (fun r q => ?_) fun _ q => q)
          obtain ⟨fl, ρ2⟩ := r
          cases fl with
          | nx => obtain ⟨j, hj, hi⟩ := q; exact whileN_wp I step n j ρ2 (by omega) hi
          | cnt => obtain ⟨j, hj, hi⟩ := q; exact whileN_wp I step n j ρ2 (by omega) hi
          | brk => exact q
          | ret x => exact q
        | false => exact q
      | _ => exact q.elim
    | _ => exact q.elim
/-- the law's end, by what it may give -/
theorem law_of {K : PySem.W.Frag} {mg : Str → Option Value} {H : Hp} {a : Addr} {ns : List Int} {φ : List Slot → Out (Slot × List Slot)} (h : (φ [.scr ns]).wp (fun r => r.1 = .val (.bool true)) fun _ => False) (hS : SqL K H a (ns.map V.int)) {Q : VK} {E : XK} (hQ : ∀ H', Q (.bl true) H') : SpF mg K 1 φ [.ref a] H Q E := by
  refine ⟨rfl, H, [.scr ns], .refl H, rfl, ⟨rfl, fun i d q => ?_, fun i ms q => ?_, fun i s q qs => ?_, fun i v q => ?_, fun i j s t b ne q qs => ?_⟩, fun s hs => ?_, ?_⟩
  · cases i with
    | zero => cases q
    | succ i => simp at q
  · cases i with
    | zero => cases q; exact ⟨a, rfl, hS⟩
    | succ i => simp at q
  · cases i with
    | zero => cases q; cases qs
    | succ i => simp at q
  · cases i with
    | zero => cases q; rfl
    | succ i => simp at q
  · cases i with
    | zero => cases q; cases qs
    | succ i => simp at q
  · simp at hs; subst hs; exact fun z => nomatch z
  · refine wp_mono h (fun r e v F' H' b => ?_) fun _ z => z.elim
    obtain ⟨r, outs⟩ := r
    have e : r = .val (.bool true) := e
    subst e
    rcases b.ret with ⟨d, e, r⟩ | ⟨e, _⟩
    · cases e; cases r; exact hQ _
    · cases e
theorem noExc {P : Program} {w : World} {o : List PySem.Env} {H : Hp} {s s' : Shared} {e : Value} (h : L2N.CX P w o H s (fun _ _ _ => False) e s') : False := by
  obtain ⟨_, _, _, _, _, _, _, _, _, _, _, _, z⟩ := h
  exact z
end Dn

/-! Den15: how meanings are taken apart, one step at a time. -/
namespace Dn
open PySem PySem.Spec L2
open PyProof.Rows hiding St
section
variable {Φ : Calls} {ρ ρ2 : Env} {a b c t : Den} {o e l : DenO} {as : DenOs} {f : Prim} {s s' : DenS} {i j n np : Nat} {d x y : PyData} {r : DenA} {is : List Nat} {q : Str} {T : String} {g : MutF} {tg : Tgt} {so : DenI}
  {g3 : PyData → Option Int → Option Int → Option Slot} {l1 l2 : Option DenO} {g1 g2 : Int → Int → Bool} {ds es xs : List PyData} {ss : List Slot} {sl s2 : Slot} {la : List (Option Nat × Slot)} {ns : List Int} {k m : Int} {v : Bool}
def kSeq (s' : DenS) (Φ : Calls) : Fl × Env → Out (Fl × Env) := fun r => match r.1 with
  | .nx => s' Φ r.2
  | f => .ok (f, r.2)
@[simp] theorem x_dSeq : dSeq s s' Φ ρ = (s Φ ρ).bind (kSeq s' Φ) := id rfl
@[simp] theorem x_dSeq1 : kSeq s' Φ (.nx, ρ) = s' Φ ρ := id rfl
@[simp] theorem x_dSeq2 : kSeq s' Φ (.brk, ρ) = .ok (.brk, ρ) := id rfl
@[simp] theorem x_dSeq3 : kSeq s' Φ (.cnt, ρ) = .ok (.cnt, ρ) := id rfl
@[simp] theorem x_dSeq4 : kSeq s' Φ (.ret sl, ρ) = .ok (.ret sl, ρ) := id rfl
def vGet (o : Option Slot) (i : Nat) (ρ : Env) : Out (Slot × Env) := match o with
  | some (.val d) => .ok (.val d, ρ)
  | some (.own ds) => .ok (.val (.list ds), ρ.set i (.val (.list ds)))
  | some (.odc false es) => .ok (.val (.dict es), ρ.set i (.val (.dict es)))
  | _ => .stuck
@[simp] theorem x_dVar : dVar i Φ ρ = vGet (ρ[i]?) i ρ := id rfl
@[simp] theorem x_dVar1 : vGet (some (.val d)) i ρ = .ok (.val d, ρ) := id rfl
@[simp] theorem x_dVar2 : vGet (some (.own ds)) i ρ = .ok (.val (.list ds), ρ.set i (.val (.list ds))) := id rfl
def oGet (o : Option Slot) (ρ : Env) : Out (PyData × Env) := match o with
  | some (.val d) => .ok (d, ρ)
  | some (.own ds) => .ok (.list ds, ρ)
  | some (.odc false es) => .ok (.dict es, ρ)
  | _ => .stuck
@[simp] theorem x_oVar : oVar i Φ ρ = oGet (ρ[i]?) ρ := id rfl
@[simp] theorem x_oVar1 : oGet (some (.val d)) ρ = .ok (d, ρ) := id rfl
@[simp] theorem x_oVar2 : oGet (some (.own ds)) ρ = .ok (.list ds, ρ) := id rfl
@[simp] theorem x_dLit : dLit d Φ ρ = .ok (.val d, ρ) := id rfl
def kOf : Slot × Env → Out (PyData × Env) := fun r => match r.1 with
  | .val x => .ok (x, r.2)
  | .own ds => .ok (.list ds, r.2)
  | .odc false es => .ok (.dict es, r.2)
  | _ => .stuck
@[simp] theorem x_oOf : oOf a Φ ρ = (a Φ ρ).bind kOf := id rfl
@[simp] theorem x_oOf1 : kOf (.val d, ρ) = .ok (d, ρ) := id rfl
@[simp] theorem x_oOf2 : kOf (.own ds, ρ) = .ok (.list ds, ρ) := id rfl
def kOs2 (x : PyData) : List PyData × Env → Out (List PyData × Env) := fun y => .ok (x :: y.1, y.2)
def kOs (as : DenOs) (Φ : Calls) : PyData × Env → Out (List PyData × Env) := fun x => (as Φ x.2).bind (kOs2 x.1)
@[simp] theorem x_osNil : osNil Φ ρ = .ok ([], ρ) := id rfl
@[simp] theorem x_osCons : osCons o as Φ ρ = (o Φ ρ).bind (kOs as Φ) := id rfl
@[simp] theorem x_osCons1 : kOs as Φ (x, ρ) = (as Φ ρ).bind (kOs2 x) := id rfl
@[simp] theorem x_osCons2 : kOs2 x (ds, ρ) = .ok (x :: ds, ρ) := id rfl
@[simp] theorem x_fsNil : fsNil Φ ρ = .ok ([], ρ) := id rfl
@[simp] theorem x_fsCons : fsCons a as Φ ρ = (oOf a Φ ρ).bind (kOs as Φ) := id rfl
def kTup : List PyData × Env → Out (Slot × Env) := fun x => guard' (decide (x.1.length ≤ 1000)) (.ok (.val (.tuple x.1), x.2))
def kLst : List PyData × Env → Out (Slot × Env) := fun x => guard' (decide (x.1.length ≤ 1000)) (.ok (.own x.1, x.2))
@[simp] theorem x_dTup : dTup as Φ ρ = (as Φ ρ).bind kTup := id rfl
@[simp] theorem x_dTup1 : kTup (ds, ρ) = guard' (decide (ds.length ≤ 1000)) (.ok (.val (.tuple ds), ρ)) := id rfl
@[simp] theorem x_dLst : dLst as Φ ρ = (as Φ ρ).bind kLst := id rfl
@[simp] theorem x_dLst1 : kLst (ds, ρ) = guard' (decide (ds.length ≤ 1000)) (.ok (.own ds, ρ)) := id rfl
def kP2 (o : Option Slot) (ρ : Env) : Out (Slot × Env) := (opt o).bind fun s => .ok (s, ρ)
def kP (f : Prim) : List PyData × Env → Out (Slot × Env) := fun x => kP2 (f x.1) x.2
@[simp] theorem x_dP : dP f as Φ ρ = (as Φ ρ).bind (kP f) := id rfl
@[simp] theorem x_dP1 : kP f (ds, ρ) = kP2 (f ds) ρ := id rfl
@[simp] theorem x_dP2 : kP2 (some sl) ρ = .ok (sl, ρ) := id rfl
def kNot : Slot × Env → Out (Slot × Env) := fun x => match x.1 with
  | .val (.bool b) => .ok (.val (.bool !b), x.2)
  | _ => .stuck
@[simp] theorem x_dNot : dNot a Φ ρ = (a Φ ρ).bind kNot := id rfl
@[simp] theorem x_dNot1 : kNot (.val (.bool v), ρ) = .ok (.val (.bool !v), ρ) := id rfl
def kAnd (b : Den) (Φ : Calls) : Slot × Env → Out (Slot × Env) := fun x => match x.1 with
  | .val (.bool true) => b Φ x.2
  | .val (.bool false) => .ok (.val (.bool false), x.2)
  | _ => .stuck
@[simp] theorem x_dAnd : dAnd a b Φ ρ = (a Φ ρ).bind (kAnd b Φ) := id rfl
@[simp] theorem x_dAnd1 : kAnd b Φ (.val (.bool true), ρ) = b Φ ρ := id rfl
@[simp] theorem x_dAnd2 : kAnd b Φ (.val (.bool false), ρ) = .ok (.val (.bool false), ρ) := id rfl
def kOr (b : Den) (Φ : Calls) : Slot × Env → Out (Slot × Env) := fun x => match x.1 with
  | .val (.bool true) => .ok (.val (.bool true), x.2)
  | .val (.bool false) => b Φ x.2
  | _ => .stuck
@[simp] theorem x_dOr : dOr a b Φ ρ = (a Φ ρ).bind (kOr b Φ) := id rfl
@[simp] theorem x_dOr1 : kOr b Φ (.val (.bool true), ρ) = .ok (.val (.bool true), ρ) := id rfl
@[simp] theorem x_dOr2 : kOr b Φ (.val (.bool false), ρ) = b Φ ρ := id rfl
def kIf (a b : Den) (Φ : Calls) : Slot × Env → Out (Slot × Env) := fun x => match x.1 with
  | .val (.bool true) => a Φ x.2
  | .val (.bool false) => b Φ x.2
  | _ => .stuck
@[simp] theorem x_dIf : dIf t a b Φ ρ = (t Φ ρ).bind (kIf a b Φ) := id rfl
@[simp] theorem x_dIf1 : kIf a b Φ (.val (.bool true), ρ) = a Φ ρ := id rfl
@[simp] theorem x_dIf2 : kIf a b Φ (.val (.bool false), ρ) = b Φ ρ := id rfl
def kScr2 (o : Option Int) (ρ : Env) : Out (Slot × Env) := (opt o).bind fun n => .ok (.val (.int n), ρ)
def kScr (ns : List Int) : PyData × Env → Out (Slot × Env) := fun x => match x.1 with
  | .int k => kScr2 (atI ns k) x.2
  | _ => .stuck
def sAt (p : Option Slot) (o : DenO) (Φ : Calls) (ρ : Env) : Out (Slot × Env) := match p with
  | some (.scr ns) => (o Φ ρ).bind (kScr ns)
  | _ => .stuck
@[simp] theorem x_dScrAt : dScrAt i o Φ ρ = sAt (ρ[i]?) o Φ ρ := id rfl
@[simp] theorem x_dScrAt1 : sAt (some (.scr ns)) o Φ ρ = (o Φ ρ).bind (kScr ns) := id rfl
@[simp] theorem x_dScrAt2 : kScr ns (.int k, ρ) = kScr2 (atI ns k) ρ := id rfl
@[simp] theorem x_dScrAt3 : kScr2 (some k) ρ = .ok (.val (.int k), ρ) := id rfl
def sLen (p : Option Slot) (ρ : Env) : Out (Slot × Env) := match p with
  | some (.scr ns) => .ok (.val (.int ns.length), ρ)
  | _ => .stuck
@[simp] theorem x_dScrLen : dScrLen i Φ ρ = sLen (ρ[i]?) ρ := id rfl
@[simp] theorem x_dScrLen1 : sLen (some (.scr ns)) ρ = .ok (.val (.int ns.length), ρ) := id rfl
def kPart : PyData × Env → Out (Option Int × Env) := fun x => match x.1 with
  | .int k => .ok (some k, x.2)
  | _ => .stuck
@[simp] theorem x_oPart0 : oPart none Φ ρ = .ok (none, ρ) := id rfl
@[simp] theorem x_oPart1 : oPart (some o) Φ ρ = (o Φ ρ).bind kPart := id rfl
@[simp] theorem x_oPart2 : kPart (.int k, ρ) = .ok (some k, ρ) := id rfl
def kAs (p : Option Nat × Slot) : List (Option Nat × Slot) × Env → Out (List (Option Nat × Slot) × Env) := fun y => .ok (p :: y.1, y.2)
def aVar (p : Option Slot) (i : Nat) (r : DenA) (Φ : Calls) (ρ : Env) : Out (List (Option Nat × Slot) × Env) := match p with
  | some (.val d) => (r Φ ρ).bind (kAs (none, .val d))
  | some (.scr ns) => (r Φ ρ).bind (kAs (none, .scr ns))
  | some (.own ds) => (r Φ (ρ.set i .un)).bind (kAs (some i, .own ds))
  | some (.odc t es) => (r Φ (ρ.set i .un)).bind (kAs (some i, .odc t es))
  | some (.obj k ds) => (r Φ (ρ.set i .un)).bind (kAs (some i, .obj k ds))
  | _ => .stuck
def kAe (r : DenA) (Φ : Calls) : Slot × Env → Out (List (Option Nat × Slot) × Env) := fun x => (r Φ x.2).bind (kAs (none, x.1))
@[simp] theorem x_asNil : asNil Φ ρ = .ok ([], ρ) := id rfl
@[simp] theorem x_asVar : asVar i r Φ ρ = aVar (ρ[i]?) i r Φ ρ := id rfl
@[simp] theorem x_asVar1 : aVar (some (.val d)) i r Φ ρ = (r Φ ρ).bind (kAs (none, .val d)) := id rfl
@[simp] theorem x_asVar2 : aVar (some (.scr ns)) i r Φ ρ = (r Φ ρ).bind (kAs (none, .scr ns)) := id rfl
@[simp] theorem x_asVar3 : aVar (some (.own ds)) i r Φ ρ = (r Φ (ρ.set i .un)).bind (kAs (some i, .own ds)) := id rfl
@[simp] theorem x_asVar4 {p : Option Nat × Slot} : kAs p (la, ρ) = .ok (p :: la, ρ) := id rfl
@[simp] theorem x_asExp : asExp a r Φ ρ = (a Φ ρ).bind (kAe r Φ) := id rfl
@[simp] theorem x_asExp1 : kAe r Φ (sl, ρ) = (r Φ ρ).bind (kAs (none, sl)) := id rfl
def kCall2 (n : Nat) (la : List (Option Nat × Slot)) (ρ : Env) : Slot × List Slot → Out (Slot × Env) := fun r => guard' (r.2.length == n) (.ok (r.1, giveBack la r.2 ρ))
def kCall (q : Str) (n : Nat) (Φ : Calls) : List (Option Nat × Slot) × Env → Out (Slot × Env) := fun y => guard' (y.1.length == n) ((Φ q (y.1.map (·.2))).bind (kCall2 n y.1 y.2))
@[simp] theorem x_dCall : dCall q n r Φ ρ = (r Φ ρ).bind (kCall q n Φ) := id rfl
@[simp] theorem x_dCall1 : kCall q n Φ (la, ρ) = guard' (la.length == n) ((Φ q (la.map (·.2))).bind (kCall2 n la ρ)) := id rfl
@[simp] theorem x_dCall2 : kCall2 n la ρ (sl, ss) = guard' (ss.length == n) (.ok (sl, giveBack la ss ρ)) := id rfl
@[simp] theorem x_gb0 : giveBack [] [] ρ = ρ := id rfl
@[simp] theorem x_gb1 : giveBack ((some i, sl) :: la) (s2 :: ss) ρ = giveBack la ss (ρ.set i s2) := id rfl
@[simp] theorem x_gb2 : giveBack ((none, sl) :: la) (s2 :: ss) ρ = giveBack la ss ρ := id rfl
@[simp] theorem x_dSkip : dSkip Φ ρ = .ok (.nx, ρ) := id rfl
@[simp] theorem x_dBrk : dBrk Φ ρ = .ok (.brk, ρ) := id rfl
@[simp] theorem x_dCnt : dCnt Φ ρ = .ok (.cnt, ρ) := id rfl
@[simp] theorem x_dStop : dStop Φ ρ = .stuck := id rfl
def kDo : Slot × Env → Out (Fl × Env) := fun r => .ok (.nx, r.2)
@[simp] theorem x_dDo : dDo a Φ ρ = (a Φ ρ).bind kDo := id rfl
@[simp] theorem x_dDo1 : kDo (sl, ρ) = .ok (.nx, ρ) := id rfl
def kIfS (s s' : DenS) (Φ : Calls) : Slot × Env → Out (Fl × Env) := fun r => match r.1 with
  | .val (.bool true) => s Φ r.2
  | .val (.bool false) => s' Φ r.2
  | _ => .stuck
@[simp] theorem x_dIfS : dIfS t s s' Φ ρ = (t Φ ρ).bind (kIfS s s' Φ) := id rfl
@[simp] theorem x_dIfS1 : kIfS s s' Φ (.val (.bool true), ρ) = s Φ ρ := id rfl
@[simp] theorem x_dIfS2 : kIfS s s' Φ (.val (.bool false), ρ) = s' Φ ρ := id rfl
def kSet (i : Nat) : Slot × Env → Out (Fl × Env) := fun r => .ok (.nx, r.2.set i r.1)
@[simp] theorem x_dSet : dSet i a Φ ρ = (a Φ ρ).bind (kSet i) := id rfl
@[simp] theorem x_dSet1 : kSet i (sl, ρ) = .ok (.nx, ρ.set i sl) := id rfl
def rGet (o : Option Slot) (i : Nat) (ρ : Env) : Out (Fl × Env) := match o with
  | some (.val d) => .ok (.ret (.val d), ρ)
  | some (.own ds) => .ok (.ret (.own ds), ρ.set i .un)
  | some (.odc t es) => .ok (.ret (.odc t es), ρ.set i .un)
  | _ => .stuck
@[simp] theorem x_dRetV : dRetV i Φ ρ = rGet (ρ[i]?) i ρ := id rfl
@[simp] theorem x_dRetV1 : rGet (some (.val d)) i ρ = .ok (.ret (.val d), ρ) := id rfl
@[simp] theorem x_dRetV2 : rGet (some (.own ds)) i ρ = .ok (.ret (.own ds), ρ.set i .un) := id rfl
def kRet : Slot × Env → Out (Fl × Env) := fun r => .ok (.ret r.1, r.2)
@[simp] theorem x_dRet : dRet a Φ ρ = (a Φ ρ).bind kRet := id rfl
@[simp] theorem x_dRet1 : kRet (sl, ρ) = .ok (.ret sl, ρ) := id rfl
@[simp] theorem x_dRetN : dRetN Φ ρ = .ok (.ret (.val .none), ρ) := id rfl
def kUnp2 (o : Option Env) : Out (Fl × Env) := (opt o).bind fun ρ => .ok (.nx, ρ)
def kUnp (is : List Nat) : Slot × Env → Out (Fl × Env) := fun r => match r.1 with
  | .val (.tuple ds) => kUnp2 (setAll is ds r.2)
  | _ => .stuck
@[simp] theorem x_dUnp : dUnp is a Φ ρ = (a Φ ρ).bind (kUnp is) := id rfl
@[simp] theorem x_dUnp1 : kUnp is (.val (.tuple ds), ρ) = kUnp2 (setAll is ds ρ) := id rfl
@[simp] theorem x_dUnp2 : kUnp2 (some ρ) = .ok (.nx, ρ) := id rfl
@[simp] theorem x_set0 : setAll [] [] ρ = some ρ := id rfl
@[simp] theorem x_set1 : setAll (i :: is) (d :: ds) ρ = setAll is ds (ρ.set i (.val d)) := id rfl
def kPar (i j : Nat) : List PyData × Env → Out (Fl × Env) := fun r => match r.1 with
  | [x, y] => .ok (.nx, (r.2.set i (.val x)).set j (.val y))
  | _ => .stuck
@[simp] theorem x_dPar : dPar i j as Φ ρ = (as Φ ρ).bind (kPar i j) := id rfl
@[simp] theorem x_dPar1 : kPar i j ([x, y], ρ) = .ok (.nx, (ρ.set i (.val x)).set j (.val y)) := id rfl
def kSx4 (o : Option Nat) (i : Nat) (ds : List PyData) (x : PyData) (ρ : Env) : Out (Fl × Env) := (opt o).bind fun m => .ok (.nx, ρ.set i (.own (ds.set m x)))
def kSx2 (i : Nat) (x : PyData) : PyData × Env → Out (Fl × Env) := fun j => match j.1, j.2[i]? with
  | .int n, some (.own ds) => kSx4 (ixN ds.length n) i ds x j.2
  | _, _ => .stuck
def kSx3 (o : Option Slot) (i : Nat) (n : Int) (x : PyData) (ρ : Env) : Out (Fl × Env) := match o with
  | some (.own ds) => kSx4 (ixN ds.length n) i ds x ρ
  | _ => .stuck
def kSx (i : Nat) (o : DenO) (Φ : Calls) : PyData × Env → Out (Fl × Env) := fun r => guard' (isOwnL r.2 i) ((o Φ r.2).bind (kSx2 i r.1))
@[simp] theorem x_dSetIx : dSetIx i o a Φ ρ = (oOf a Φ ρ).bind (kSx i o Φ) := id rfl
@[simp] theorem x_dSetIx1 : kSx i o Φ (x, ρ) = guard' (isOwnL ρ i) ((o Φ ρ).bind (kSx2 i x)) := id rfl
@[simp] theorem x_dSetIx2 : kSx2 i x (.int k, ρ) = kSx3 (ρ[i]?) i k x ρ := by
  unfold kSx2 kSx3
  cases h : ρ[i]? with
  | none => simp [h]
  | some s => cases s <;> simp [h]
@[simp] theorem x_dSetIx3 : kSx3 (some (.own ds)) i k x ρ = kSx4 (ixN ds.length k) i ds x ρ := id rfl
@[simp] theorem x_dSetIx4 : kSx4 (some j) i ds x ρ = .ok (.nx, ρ.set i (.own (ds.set j x))) := id rfl
def kMut3 (o : Option (PyData × List PyData)) (i : Nat) (ρ : Env) : Out (Slot × Env) := (opt o).bind fun m => .ok (.val m.1, ρ.set i (.own m.2))
def kMut2 (p : Option Slot) (i : Nat) (g : MutF) (xs : List PyData) (ρ : Env) : Out (Slot × Env) := match p with
  | some (.own ds) => kMut3 (g ds xs) i ρ
  | _ => .stuck
def kMut (i : Nat) (g : MutF) : List PyData × Env → Out (Slot × Env) := fun r => kMut2 (r.2[i]?) i g r.1 r.2
@[simp] theorem x_dMut : dMut i g as Φ ρ = guard' (isOwnL ρ i) ((as Φ ρ).bind (kMut i g)) := id rfl
@[simp] theorem x_dMut1 : kMut i g (xs, ρ) = kMut2 (ρ[i]?) i g xs ρ := id rfl
@[simp] theorem x_dMut2 : kMut2 (some (.own ds)) i g xs ρ = kMut3 (g ds xs) i ρ := id rfl
@[simp] theorem x_dMut3 : kMut3 (some (x, ds)) i ρ = .ok (.val x, ρ.set i (.own ds)) := id rfl
def kSq : PyData × Env → Out (List PyData × Env) := fun r => match r.1 with
  | .list ds => .ok (ds, r.2)
  | .tuple ds => .ok (ds, r.2)
  | _ => .stuck
@[simp] theorem x_iSeq : iSeq o Φ ρ = (o Φ ρ).bind kSq := id rfl
@[simp] theorem x_iSeq1 : kSq (.list ds, ρ) = .ok (ds, ρ) := id rfl
@[simp] theorem x_iSeq2 : kSq (.tuple ds, ρ) = .ok (ds, ρ) := id rfl
def kR1 : PyData × Env → Out (List PyData × Env) := fun r => match r.1 with
  | .int n => guard' (small62 n) (.ok (rngD 0 n.toNat, r.2))
  | _ => .stuck
@[simp] theorem x_iR1 : iR1 o Φ ρ = (o Φ ρ).bind kR1 := id rfl
@[simp] theorem x_iR1a : kR1 (.int k, ρ) = guard' (small62 k) (.ok (rngD 0 k.toNat, ρ)) := id rfl
def kR2b (x : PyData) : PyData × Env → Out (List PyData × Env) := fun s => match x, s.1 with
  | .int i, .int j => guard' (small62 i && small62 j) (.ok (rngD i (j - i).toNat, s.2))
  | _, _ => .stuck
def kR2 (e : DenO) (Φ : Calls) : PyData × Env → Out (List PyData × Env) := fun r => (e Φ r.2).bind (kR2b r.1)
@[simp] theorem x_iR2 : iR2 o e Φ ρ = (o Φ ρ).bind (kR2 e Φ) := id rfl
@[simp] theorem x_iR2a : kR2 e Φ (x, ρ) = (e Φ ρ).bind (kR2b x) := id rfl
@[simp] theorem x_iR2b : kR2b (.int k) (.int m, ρ) = guard' (small62 k && small62 m) (.ok (rngD k (m - k).toNat, ρ)) := id rfl
def fB2 (o : Option Env) (s : DenS) (Φ : Calls) : Out (Fl × Env) := (opt o).bind fun ρ => s Φ ρ
def fB (tg : Tgt) (s : DenS) (Φ : Calls) : PyData → Env → Out (Fl × Env) := fun d ρ => fB2 (putT tg d ρ) s Φ
def kFor (tg : Tgt) (s : DenS) (Φ : Calls) : List PyData × Env → Out (Fl × Env) := fun r => forL (fB tg s Φ) r.1 r.2
@[simp] theorem x_dFor : dFor tg so s Φ ρ = (so Φ ρ).bind (kFor tg s Φ) := id rfl
@[simp] theorem x_dFor1 : kFor tg s Φ (ds, ρ) = forL (fB tg s Φ) ds ρ := id rfl
@[simp] theorem x_dFor2 : fB tg s Φ d ρ = fB2 (putT tg d ρ) s Φ := id rfl
@[simp] theorem x_dFor3 : fB2 (some ρ) s Φ = s Φ ρ := id rfl
@[simp] theorem x_forL0 {h : PyData → Env → Out (Fl × Env)} : forL h [] ρ = .ok (.nx, ρ) := id rfl
@[simp] theorem x_putNm : putT (.nm i) d ρ = some (ρ.set i (.val d)) := id rfl
@[simp] theorem x_putTp : putT (.tp is) (.tuple ds) ρ = setAll is ds ρ := id rfl
@[simp] theorem x_dWhile : dWhile a s Φ ρ = whileN a s Φ turnsMost ρ := id rfl
def kLR : List PyData × Env → Out (Slot × Env) := fun r => guard' (decide (r.1.length ≤ 1000000)) (.ok (.own r.1, r.2))
@[simp] theorem x_dListR : dListR so Φ ρ = (so Φ ρ).bind kLR := id rfl
@[simp] theorem x_dListR1 : kLR (ds, ρ) = guard' (decide (ds.length ≤ 1000000)) (.ok (.own ds, ρ)) := id rfl
def kEn : PyData × Env → Out (List PyData × Env) := fun r => match r.1 with
  | .list ds => .ok (pairUp (rngD 0 ds.length) ds, r.2)
  | _ => .stuck
@[simp] theorem x_iEnumD : iEnumD a Φ ρ = (oOf a Φ ρ).bind kEn := id rfl
@[simp] theorem x_iEnumD1 : kEn (.list ds, ρ) = .ok (pairUp (rngD 0 ds.length) ds, ρ) := id rfl
def kZp : List PyData × Env → Out (List PyData × Env) := fun r => match r.1 with
  | [.list ds, .list es] => .ok (pairUp ds es, r.2)
  | [.tuple ds, .tuple es] => .ok (pairUp ds es, r.2)
  | _ => .stuck
@[simp] theorem x_iZipD : iZipD as Φ ρ = (as Φ ρ).bind kZp := id rfl
@[simp] theorem x_iZipD1 : kZp ([.list ds, .list es], ρ) = .ok (pairUp ds es, ρ) := id rfl
@[simp] theorem x_iZipD2 : kZp ([.tuple ds, .tuple es], ρ) = .ok (pairUp ds es, ρ) := id rfl
def kSS2 (o : Option (List PyData)) (ρ : Env) : Out (Slot × Env) := (opt o).bind fun ds => .ok (.own ds, ρ)
def kSS : PyData × Env → Out (Slot × Env) := fun r => kSS2 (pSortSet r.1) r.2
@[simp] theorem x_dSS : dSS o Φ ρ = (o Φ ρ).bind kSS := id rfl
@[simp] theorem x_dSS1 : kSS (x, ρ) = kSS2 (pSortSet x) ρ := id rfl
@[simp] theorem x_dSS2 : kSS2 (some ds) ρ = .ok (.own ds, ρ) := id rfl
def kLc2 (is : List Nat) (ρ : Env) : List PyData × Env → Out (Slot × Env) := fun z => .ok (.own z.1, unwipe is ρ z.2)
def kLc (tg : Tgt) (t a : Den) (is : List Nat) (Φ : Calls) : List PyData × Env → Out (Slot × Env) := fun r => guard' (decide (r.1.length ≤ 1000000)) ((noX (lcL (lcT tg t a is Φ) r.1 (wipeE is r.2))).bind (kLc2 is r.2))
@[simp] theorem x_dLc : dLc tg so t a is Φ ρ = (so Φ ρ).bind (kLc tg t a is Φ) := id rfl
@[simp] theorem x_dLc1 : kLc tg t a is Φ (ds, ρ) = guard' (decide (ds.length ≤ 1000000)) ((noX (lcL (lcT tg t a is Φ) ds (wipeE is ρ))).bind (kLc2 is ρ)) := id rfl
@[simp] theorem x_dLc2 : kLc2 is ρ (ds, ρ2) = .ok (.own ds, unwipe is ρ ρ2) := id rfl
def lT3 (is : List Nat) : PyData × Env → Out (Option PyData × Env) := fun y => .ok (some y.1, wipeE is y.2)
def lT2 (a : Den) (is : List Nat) (Φ : Calls) : Slot × Env → Out (Option PyData × Env) := fun b => match b.1 with
  | .val (.bool true) => (oOf a Φ b.2).bind (lT3 is)
  | .val (.bool false) => .ok (none, wipeE is b.2)
  | _ => .stuck
def lT1 (o : Option Env) (t a : Den) (is : List Nat) (Φ : Calls) : Out (Option PyData × Env) := (opt o).bind fun ρ => (t Φ ρ).bind (lT2 a is Φ)
@[simp] theorem x_lcT : lcT tg t a is Φ d ρ = lT1 (putT tg d ρ) t a is Φ := id rfl
@[simp] theorem x_lcT1 : lT1 (some ρ) t a is Φ = (t Φ ρ).bind (lT2 a is Φ) := id rfl
@[simp] theorem x_lcT2 : lT2 a is Φ (.val (.bool true), ρ) = (oOf a Φ ρ).bind (lT3 is) := id rfl
@[simp] theorem x_lcT3 : lT2 a is Φ (.val (.bool false), ρ) = .ok (none, wipeE is ρ) := id rfl
@[simp] theorem x_lcT4 : lT3 is (d, ρ) = .ok (some d, wipeE is ρ) := id rfl
@[simp] theorem x_dYes : dYes Φ ρ = .ok (.val (.bool true), ρ) := id rfl
@[simp] theorem x_wipe0 : wipeE [] ρ = ρ := id rfl
@[simp] theorem x_wipe1 : wipeE (i :: is) ρ = (wipeE is ρ).set i .un := id rfl
def uW (o : Option Slot) (i : Nat) (ρ : Env) : Env := match o with
  | some (.val d) => ρ.set i (.val d)
  | _ => ρ
@[simp] theorem x_unw0 : unwipe [] ρ ρ2 = ρ2 := id rfl
@[simp] theorem x_unw1 : unwipe (i :: is) ρ ρ2 = uW (ρ[i]?) i (unwipe is ρ ρ2) := by
  show (match ρ[i]? with
    | some (.val d) => (unwipe is ρ ρ2).set i (.val d)
    | _ => unwipe is ρ ρ2) = _
  unfold uW
  split <;> rfl
@[simp] theorem x_unw2 : uW (some (.val d)) i ρ = ρ.set i (.val d) := id rfl
@[simp] theorem x_unw3 : uW (some .un) i ρ = ρ := id rfl
@[simp] theorem x_unw4 : uW (some (.own ds)) i ρ = ρ := id rfl
def kSl3 (g3 : PyData → Option Int → Option Int → Option Slot) (x : PyData) (lo : Option Int) : Option Int × Env → Out (Slot × Env) := fun u => kP2 (g3 x lo u.1) u.2
def kSl2 (g3 : PyData → Option Int → Option Int → Option Slot) (l2 : Option DenO) (Φ : Calls) (x : PyData) : Option Int × Env → Out (Slot × Env) := fun l => (oPart l2 Φ l.2).bind (kSl3 g3 x l.1)
def kSl (g3 : PyData → Option Int → Option Int → Option Slot) (l1 l2 : Option DenO) (Φ : Calls) : PyData × Env → Out (Slot × Env) := fun x => (oPart l1 Φ x.2).bind (kSl2 g3 l2 Φ x.1)
@[simp] theorem x_dSl : dSl g3 o l1 l2 Φ ρ = (o Φ ρ).bind (kSl g3 l1 l2 Φ) := id rfl
@[simp] theorem x_dSl1 : kSl g3 l1 l2 Φ (x, ρ) = (oPart l1 Φ ρ).bind (kSl2 g3 l2 Φ x) := id rfl
@[simp] theorem x_dSl2 {lo : Option Int} : kSl2 g3 l2 Φ x (lo, ρ) = (oPart l2 Φ ρ).bind (kSl3 g3 x lo) := id rfl
@[simp] theorem x_dSl3 {lo hi : Option Int} : kSl3 g3 x lo (hi, ρ) = kP2 (g3 x lo hi) ρ := id rfl
def kCh4 (g2 : Int → Int → Bool) (j : Int) : PyData × Env → Out (Slot × Env) := fun z => match z.1 with
  | .int k => .ok (.val (.bool (g2 j k)), z.2)
  | _ => .stuck
def kCh3 (b : Bool) (g2 : Int → Int → Bool) (l : DenO) (Φ : Calls) (j : Int) (ρ : Env) : Out (Slot × Env) := if b then (l Φ ρ).bind (kCh4 g2 j) else .ok (.val (.bool false), ρ)
def kCh2 (g1 g2 : Int → Int → Bool) (l : DenO) (Φ : Calls) (x : PyData) : PyData × Env → Out (Slot × Env) := fun y => match x, y.1 with
  | .int i, .int j => kCh3 (g1 i j) g2 l Φ j y.2
  | _, _ => .stuck
def kCh (g1 g2 : Int → Int → Bool) (e l : DenO) (Φ : Calls) : PyData × Env → Out (Slot × Env) := fun x => (e Φ x.2).bind (kCh2 g1 g2 l Φ x.1)
@[simp] theorem x_dCh : dCh g1 g2 o e l Φ ρ = (o Φ ρ).bind (kCh g1 g2 e l Φ) := id rfl
@[simp] theorem x_dCh1 : kCh g1 g2 e l Φ (x, ρ) = (e Φ ρ).bind (kCh2 g1 g2 l Φ x) := id rfl
@[simp] theorem x_dCh2 : kCh2 g1 g2 l Φ (.int k) (.int m, ρ) = kCh3 (g1 k m) g2 l Φ m ρ := id rfl
@[simp] theorem x_dCh3 : kCh3 true g2 l Φ m ρ = (l Φ ρ).bind (kCh4 g2 m) := id rfl
@[simp] theorem x_dCh4 : kCh3 false g2 l Φ m ρ = .ok (.val (.bool false), ρ) := id rfl
@[simp] theorem x_dCh5 : kCh4 g2 m (.int k, ρ) = .ok (.val (.bool (g2 m k)), ρ) := id rfl
def kM2 (f : Prim) (x : PyData) : List PyData × Env → Out (Slot × Env) := fun a => kP2 (f (x :: a.1)) a.2
def kM (T : String) (f : Prim) (as : DenOs) (Φ : Calls) : PyData × Env → Out (Slot × Env) := fun o => guard' (tyD o.1 == T) ((as Φ o.2).bind (kM2 f o.1))
@[simp] theorem x_dM : dM T f o as Φ ρ = (o Φ ρ).bind (kM T f as Φ) := id rfl
@[simp] theorem x_dM1 : kM T f as Φ (x, ρ) = guard' (tyD x == T) ((as Φ ρ).bind (kM2 f x)) := id rfl
@[simp] theorem x_dM2 : kM2 f x (ds, ρ) = kP2 (f (x :: ds)) ρ := id rfl
@[simp] theorem x_tyT : tyD (.tuple ds) = "tuple" := id rfl
@[simp] theorem x_tyL : tyD (.list ds) = "list" := id rfl
@[simp] theorem x_ok {A1 B1 : Type} {u : A1} {h : A1 → Out B1} : (Out.ok u).bind h = h u := id rfl
@[simp] theorem x_stk {A1 B1 : Type} {h : A1 → Out B1} : (Out.stuck : Out A1).bind h = .stuck := id rfl
@[simp] theorem x_gt {A1 : Type} {h : Out A1} : guard' true h = h := id rfl
@[simp] theorem x_nox {A1 : Type} {u : A1} : noX (Out.ok u) = .ok u := id rfl
@[simp] theorem x_wpo {A1 : Type} {u : A1} {P : A1 → Prop} {E : Exc → Prop} : (Out.ok u).wp P E = P u := id rfl
def kBody (ss : List Slot) (np : Nat) : Fl × Env → Out (Slot × List Slot) := fun r => match r.1 with
  | .ret s => fin ss np s r.2
  | .nx => fin ss np (.val .none) r.2
  | _ => .stuck
@[simp] theorem x_body : dBody np n s Φ ss = (s Φ (ss ++ List.replicate (n - np) .un)).bind (kBody ss np) := id rfl
@[simp] theorem x_body1 : kBody ss np (.ret sl, ρ) = guard' (outsOk ss (ρ.take np)) (.ok (sl, ρ.take np)) := id rfl
@[simp] theorem x_body2 : kBody ss np (.nx, ρ) = guard' (outsOk ss (ρ.take np)) (.ok (.val .none, ρ.take np)) := id rfl
@[simp] theorem x_outs0 : outsOk [] ss = true := by cases ss <;> rfl
@[simp] theorem x_outs1 : outsOk (.val d :: ss) (sl :: ρ) = outsOk ss ρ := id rfl
@[simp] theorem x_outs2 : outsOk (.scr ns :: ss) (sl :: ρ) = outsOk ss ρ := id rfl
@[simp] theorem x_outs3 : outsOk (.own ds :: ss) (.own es :: ρ) = outsOk ss ρ := id rfl
@[simp] theorem x_outs4 : outsOk (.own ds :: ss) (.val d :: ρ) = outsOk ss ρ := id rfl
@[simp] theorem x_own0 : isOwnL (.own ds :: ρ) 0 = true := id rfl
@[simp] theorem x_own1 : isOwnL (sl :: ρ) (i + 1) = isOwnL ρ i := by
  unfold isOwnL
  rw [List.getElem?_cons_succ]
@[simp] theorem x_len1 : pLen [.list ds] = some (.val (.int ds.length)) := id rfl
@[simp] theorem x_len2 : pLen [.tuple ds] = some (.val (.int ds.length)) := id rfl
@[simp] theorem x_add1 : pAdd [.int k, .int m] = some (.val (.int (k + m))) := id rfl
@[simp] theorem x_sub1 : pSub [.int k, .int m] = some (.val (.int (k - m))) := id rfl
@[simp] theorem x_lt1 : pLt [.int k, .int m] = some (.val (.bool (decide (k < m)))) := id rfl
@[simp] theorem x_le1 : pLe [.int k, .int m] = some (.val (.bool (decide (k ≤ m)))) := id rfl
@[simp] theorem x_gt1 : pGt [.int k, .int m] = some (.val (.bool (decide (m < k)))) := id rfl
@[simp] theorem x_ge1 : pGe [.int k, .int m] = some (.val (.bool (decide (m ≤ k)))) := id rfl
@[simp] theorem x_eq1 : pEq [.int k, .int m] = some (.val (.bool (decide (k = m)))) := by
  simp [pEq, SeqAt.shaped, PyData.canLay0, PyData.depth, PyData.eqv]
  rfl
@[simp] theorem x_ne1 : pNe [.int k, .int m] = some (.val (.bool (!decide (k = m)))) := by
  simp [pNe, SeqAt.shaped, PyData.canLay0, PyData.depth, PyData.eqv]
  rfl
@[simp] theorem x_ix1 : pIx [.list ds, .int k] = (atI ds k).map .val := id rfl
@[simp] theorem x_ix2 : pIx [.tuple ds, .int k] = (atI ds k).map .val := id rfl
@[simp] theorem x_is1 : pIs T [x] = some (.val (.bool (isT T x))) := id rfl
@[simp] theorem x_lo1 : pListOf [.list ds] = some (.own ds) := id rfl
@[simp] theorem x_lo2 : pListOf [.tuple ds] = some (.own ds) := id rfl
@[simp] theorem x_to1 : pTupOf [.list ds] = some (.val (.tuple ds)) := id rfl
@[simp] theorem x_to2 : pTupOf [.tuple ds] = some (.val (.tuple ds)) := id rfl
theorem x_div (h : 0 < m) (h' : m < 1073741824) : pDiv [.int k, .int m] = some (.val (.int (k / m))) := by
  have : m.natAbs.log2 < 9000 := Nat.lt_of_lt_of_le (PySem.Flt.log2_lt_of (k := 30) (by decide) (by omega)) (by decide)
  simp [pDiv, pI2, h, this]
theorem x_mod (h : 0 < m) : pMod [.int k, .int m] = some (.val (.int (k % m))) := by
  simp [pMod, pI2, h]
theorem big2_of {i j : Int} {a b : Nat} (ha : i.natAbs < 2 ^ a) (hb : j.natAbs < 2 ^ b) (h0 : 0 < a) (h1 : 0 < b) (h : a + b ≤ 1000000) : big2 i j = true := by
  have := wide_mul ha hb h0 h1 h
  unfold big2
  unfold CMulW at this
  simpa using this
theorem x_mul (h : big2 k m = true) : pMul [.int k, .int m] = some (.val (.int (k * m))) := by
  simp [pMul, h]
theorem x_ixn {α : Type} {xs : List α} {n : Nat} {z : α} (h : xs[n]? = some z) : atI xs (n : Int) = some z := by
  unfold atI ixN
  have := (List.getElem?_eq_some_iff.mp h).1
  rw [if_pos (Int.natCast_nonneg n), if_pos (by omega)]
  exact h
@[simp] theorem x_at0 {α : Type} {z : α} {zs : List α} : atI (z :: zs) 0 = some z := x_ixn (n := 0) rfl
@[simp] theorem x_at1 {α : Type} {z w : α} {zs : List α} : atI (z :: w :: zs) 1 = some w := x_ixn (n := 1) rfl
@[simp] theorem x_at2 {α : Type} {z w u : α} {zs : List α} : atI (z :: w :: u :: zs) 2 = some u := x_ixn (n := 2) rfl
@[simp] theorem x_at3 {α : Type} {z w u t : α} {zs : List α} : atI (z :: w :: u :: t :: zs) 3 = some t := x_ixn (n := 3) rfl
end
end Dn

/-! Den16: loops by places; lists of whole numbers, of pairs, as data. -/
namespace Dn
open PySem PySem.Spec L2
open PyProof.Rows hiding St
/-- what a turn must reach -/
def LoopP (N : Env → Prop) (P : Fl × Env → Prop) : Fl × Env → Prop := fun r => match r.1 with
  | .nx => N r.2
  | .cnt => N r.2
  | .brk => P (.nx, r.2)
  | .ret s => P (.ret s, r.2)
@[simp] theorem loopP_nx {N : Env → Prop} {P : Fl × Env → Prop} {ρ : Env} : LoopP N P (.nx, ρ) = N ρ := id rfl
@[simp] theorem loopP_cnt {N : Env → Prop} {P : Fl × Env → Prop} {ρ : Env} : LoopP N P (.cnt, ρ) = N ρ := id rfl
@[simp] theorem loopP_brk {N : Env → Prop} {P : Fl × Env → Prop} {ρ : Env} : LoopP N P (.brk, ρ) = P (.nx, ρ) := id rfl
@[simp] theorem loopP_ret {N : Env → Prop} {P : Fl × Env → Prop} {s : Slot} {ρ : Env} : LoopP N P (.ret s, ρ) = P (.ret s, ρ) := id rfl
theorem forI_wp {f : PyData → Env → Out (Fl × Env)} {P : Fl × Env → Prop} {E : Exc → Prop} {ds : List PyData} {ρ : Env} (I : Nat → Env → Prop) (h : I 0 ρ) (fin : ∀ ρ, I ds.length ρ → P (.nx, ρ))
    (step : ∀ i d ρ, ds[i]? = some d → I i ρ → (f d ρ).wp (LoopP (I (i + 1)) P) E) : (forL f ds ρ).wp P E := by
  refine forL_wp (fun l ρ => ∃ i, l = ds.drop i ∧ i ≤ ds.length ∧ I i ρ) ?fin ?step ds ρ ⟨0, by rw [List.drop_zero], Nat.zero_le _, h⟩
  case fin =>
    intro ρ ⟨i, e, hi, q⟩
    have : i = ds.length := by
      have := congrArg List.length e
      rw [List.length_drop, List.length_nil] at this
      omega
    subst this
    exact fin ρ q
  case step =>
    intro d l ρ ⟨i, e, hi, q⟩
    have lt : i < ds.length := by
      have := congrArg List.length e
      rw [List.length_drop, List.length_cons] at this
      omega
    rw [List.drop_eq_getElem_cons lt] at e
    injection e with e1 e2
    refine wp_mono (step i d ρ (by rw [e1]; exact List.getElem?_eq_getElem lt) q) (fun r z => ?_) fun _ z => z
    obtain ⟨fl, ρ1⟩ := r
    cases fl with
    | nx => exact ⟨i + 1, e2, lt, z⟩
    | cnt => exact ⟨i + 1, e2, lt, z⟩
    | brk => exact z
    | ret s => exact z
theorem rngD_get {lo : Int} {n i : Nat} {d : PyData} (h : (rngD lo n)[i]? = some d) : i < n ∧ d = .int (lo + (i : Nat)) := by
  have hi : i < n := by
    have := (List.getElem?_eq_some_iff.mp h).1
    rw [rngD_length] at this
    exact this
  unfold rngD at h
  rw [List.getElem?_map, List.getElem?_range hi] at h
  exact ⟨hi, (Option.some.inj h).symm⟩
theorem forR_wp {f : PyData → Env → Out (Fl × Env)} {P : Fl × Env → Prop} {E : Exc → Prop} {lo : Int} {n : Nat} {ρ : Env} (I : Nat → Env → Prop) (h : I 0 ρ) (fin : ∀ ρ, I n ρ → P (.nx, ρ))
    (step : ∀ i ρ, i < n → I i ρ → (f (.int (lo + (i : Nat))) ρ).wp (LoopP (I (i + 1)) P) E) : (forL f (rngD lo n) ρ).wp P E := by
  refine forI_wp I h (fun ρ z => fin ρ (by rw [rngD_length] at z; exact z)) fun i d ρ hd q => ?_
  obtain ⟨hi, e⟩ := rngD_get hd
  subst e
  exact step i ρ hi q
/-- a comprehension, turn by turn -/
theorem lcI_wp {f : PyData → Env → Out (Option PyData × Env)} {P : List PyData × Env → Prop} {E : Exc → Prop} {ds : List PyData} {ρ : Env} (I : Nat → List PyData → Env → Prop) (h : I 0 [] ρ) (fin : ∀ out ρ, I ds.length out ρ → P (out, ρ))
    (step : ∀ i d acc ρ, ds[i]? = some d → I i acc ρ → (f d ρ).wp (fun r => I (i + 1) (acc ++ r.1.toList) r.2) E) : (lcL f ds ρ).wp P E := by
  refine lcL_wp (fun l acc ρ => ∃ i, l = ds.drop i ∧ i ≤ ds.length ∧ I i acc ρ) ?step ds [] ρ ⟨0, by rw [List.drop_zero], Nat.zero_le _, h⟩ ?fin
  case step =>
    intro d l acc ρ ⟨i, e, hi, q⟩
    have lt : i < ds.length := by
      have := congrArg List.length e
      rw [List.length_drop, List.length_cons] at this
      omega
    rw [List.drop_eq_getElem_cons lt] at e
    injection e with e1 e2
    exact wp_mono (step i d acc ρ (by rw [e1]; exact List.getElem?_eq_getElem lt) q) (fun r z => ⟨i + 1, e2, lt, z⟩) fun _ z => z
  case fin =>
    intro out ρ' ⟨i, e, hi, q⟩
    have : i = ds.length := by
      have := congrArg List.length e
      rw [List.length_drop, List.length_nil] at this
      omega
    subst this
    exact fin out ρ' q
theorem noX_wp {α : Type} {c : Out α} {P : α → Prop} {E : Exc → Prop} (h : c.wp P fun _ => False) : (noX c).wp P E := by
  cases c with
  | ok a => exact h
  | exc x => exact h.elim
  | stuck => exact h
  | any _ => exact h
  | exs _ _ => exact h

/-! ### lists of whole numbers, of pairs -/
abbrev nsD (ns : List Int) : List PyData := ns.map .int
abbrev psD (ps : List (Int × Int)) : List PyData := ps.map prD
theorem rngD_map (lo : Int) (n : Nat) : rngD lo n = nsD ((List.range n).map fun i => lo + (i : Nat)) := by
  unfold rngD nsD
  rw [List.map_map]
  rfl
theorem pairsOf_map : ∀ ps : List (Int × Int), pairsOf (psD ps) = some ps
  | [] => rfl
  | p :: ps => by
    show (pairsOf (psD ps)).map ((p.1, p.2) :: ·) = _
    rw [pairsOf_map ps]
    rfl
theorem boolsOf_map : ∀ bs : List Bool, boolsOf (bs.map .bool) = some bs
  | [] => rfl
  | b :: bs => by
    show (boolsOf (bs.map .bool)).map (b :: ·) = _
    rw [boolsOf_map bs]
    rfl
theorem lay_ns : ∀ ns : List Int, PyData.canLayAll0 (nsD ns) = true ∧ PyData.depthAll (nsD ns) = 0
  | [] => by simp [PyData.canLayAll0, PyData.depthAll]
  | n :: ns => by
    obtain ⟨h1, h2⟩ := lay_ns ns
    simp only [List.map_cons, PyData.canLayAll0, PyData.depthAll, PyData.canLay0, PyData.depth, h1, h2]
    simp
theorem lay_ps : ∀ ps : List (Int × Int), PyData.canLayAll0 (psD ps) = true ∧ PyData.depthAll (psD ps) ≤ 1
  | [] => by simp [PyData.canLayAll0, PyData.depthAll]
  | p :: ps => by
    obtain ⟨h1, h2⟩ := lay_ps ps
    have h2 : PyData.depthAll (ps.map prD) ≤ 1 := h2
    simp only [List.map_cons, PyData.canLayAll0, PyData.depthAll, prD, PyData.canLay0, PyData.depth, h1]
    refine ⟨by simp, by simp; omega⟩
theorem sh_nsT (ns : List Int) : SeqAt.shaped (.tuple (nsD ns)) = true := by
  obtain ⟨h1, h2⟩ := lay_ns ns
  simp [SeqAt.shaped, PyData.canLay0, PyData.depth, h1, h2]
theorem sh_nsL (ns : List Int) : SeqAt.shaped (.list (nsD ns)) = true := by
  obtain ⟨h1, h2⟩ := lay_ns ns
  simp [SeqAt.shaped, PyData.canLay0, PyData.depth, h1, h2]
theorem sh_psT (ps : List (Int × Int)) : SeqAt.shaped (.tuple (psD ps)) = true := by
  obtain ⟨h1, h2⟩ := lay_ps ps
  simp [SeqAt.shaped, PyData.canLay0, PyData.depth, h1]
  omega
theorem sh_psL (ps : List (Int × Int)) : SeqAt.shaped (.list (psD ps)) = true := by
  obtain ⟨h1, h2⟩ := lay_ps ps
  simp [SeqAt.shaped, PyData.canLay0, PyData.depth, h1]
  omega
theorem sh_int (i : Int) : SeqAt.shaped (.int i) = true := by simp [SeqAt.shaped, PyData.canLay0, PyData.depth]
theorem sh_pr (p : Int × Int) : SeqAt.shaped (prD p) = true := by simp [SeqAt.shaped, prD, PyData.canLay0, PyData.canLayAll0, PyData.depth, PyData.depthAll]
/-- an order as data -/
def ordD (n : Int) (ps : List (Int × Int)) : PyData := .tuple [.int n, .tuple (psD ps)]
theorem eqv_int (i j : Int) : PyData.eqv (.int i) (.int j) = (i == j) := by simp [PyData.eqv]
theorem eqv_pr (p q : Int × Int) : PyData.eqv (prD p) (prD q) = (p == q) := by
  simp only [prD, PyData.eqv, PyData.eqvAll, Bool.and_true]
  rfl
theorem eqv_ns : ∀ ns ms : List Int, PyData.eqvAll (nsD ns) (nsD ms) = (ns == ms)
  | [], [] => by simp [PyData.eqvAll]
  | [], _ :: _ => by simp [PyData.eqvAll]
  | _ :: _, [] => by simp [PyData.eqvAll]
  | n :: ns, m :: ms => by
    simp only [List.map_cons, PyData.eqvAll, PyData.eqv]
    rw [eqv_ns ns ms]
    rfl
theorem eqv_ps : ∀ ps qs : List (Int × Int), PyData.eqvAll (psD ps) (psD qs) = (ps == qs)
  | [], [] => by simp [PyData.eqvAll]
  | [], _ :: _ => by simp [PyData.eqvAll]
  | _ :: _, [] => by simp [PyData.eqvAll]
  | p :: ps, q :: qs => by
    simp only [List.map_cons, PyData.eqvAll, eqv_pr]
    rw [eqv_ps ps qs]
    rfl
theorem any_pr (ps : List (Int × Int)) (p : Int × Int) : anyEq (psD ps) (prD p) = decide (p ∈ ps) := by
  unfold anyEq
  rw [List.any_map]
  have : ((fun z => PyData.eqv z (prD p)) ∘ prD) = fun q => q == p := by
    funext q
    exact eqv_pr q p
  rw [this, Bool.eq_iff_iff, List.any_eq_true, decide_eq_true_eq]
  constructor
  · rintro ⟨q, hq, e⟩
    rw [← eq_of_beq e]
    exact hq
  · exact fun h => ⟨p, h, beq_self_eq_true p⟩
theorem any_int (ns : List Int) (n : Int) : anyEq (nsD ns) (.int n) = decide (n ∈ ns) := by
  unfold anyEq
  rw [List.any_map]
  have : ((fun z => PyData.eqv z (.int n)) ∘ PyData.int) = fun q => q == n := by
    funext q
    exact eqv_int q n
  rw [this, Bool.eq_iff_iff, List.any_eq_true, decide_eq_true_eq]
  constructor
  · rintro ⟨q, hq, e⟩
    rw [← eq_of_beq e]
    exact hq
  · exact fun h => ⟨n, h, beq_self_eq_true n⟩
end Dn

/-! Den17: orders as data, comprehensions over them. -/
namespace Dn
open PySem PySem.Spec L2
open PyProof.Rows hiding St
theorem ok_of_wp {α : Type} {c : Out α} {a : α} (h : c.wp (fun r => r = a) fun _ => False) : c = .ok a := by
  cases c with
  | ok b => exact congrArg Out.ok h
  | exc x => exact h.elim
  | stuck => exact h.elim
  | any _ => exact h.elim
  | exs _ _ => exact h.elim
/-- a run, not to be taken apart by itself -/
@[irreducible] def Tx.go (T : Tx) (n : Nat) : Calls := T.run n
theorem go_run (T : Tx) (n : Nat) : T.go n = T.run n := by
  unfold Tx.go
  rfl
theorem go_at (T : Tx) {x : Str} {d : DefI} (h : T.find x = some d) (n : Nat) (as : List Slot) : T.go (n + 1) x as = dBody d.ps.length d.N.length d.b (T.go n) as := by
  rw [go_run, go_run]
  exact run_at T h n as
theorem of_wp {α : Type} {c : Out α} {P : α → Prop} (h : c.wp P fun _ => False) : ∃ r, c = .ok r ∧ P r := by
  cases c with
  | ok a => exact ⟨a, rfl, h⟩
  | exc x => exact h.elim
  | stuck => exact h.elim
  | any _ => exact h.elim
  | exs _ _ => exact h.elim
theorem psD_get {ps : List (Int × Int)} {i : Nat} {d : PyData} (h : (psD ps)[i]? = some d) : ∃ p, ps[i]? = some p ∧ p ∈ ps ∧ d = prD p := by
  unfold psD at h
  rw [List.getElem?_map] at h
  obtain ⟨p, hp, e⟩ := Option.map_eq_some_iff.mp h
  exact ⟨p, hp, List.mem_of_getElem? hp, e.symm⟩
theorem x_ninT (ps : List (Int × Int)) (i j : Int) : pNin [.tuple [.int i, .int j], .tuple (psD ps)] = some (.val (.bool (!decide ((i, j) ∈ ps)))) := by
  have h1 := sh_pr (i, j)
  have h2 := sh_psT ps
  have h3 := any_pr ps (i, j)
  unfold prD at h1 h3
  unfold pNin
  simp only [h1, h2, h3, Bool.and_self, if_true]
theorem lcL_enc {α : Type} {f : PyData → Env → Out (Option PyData × Env)} {ρ : Env} (enc : α → PyData) (h : α → PyData) : ∀ (xs : List α), (∀ x ∈ xs, f (enc x) ρ = .ok (some (h x), ρ)) → lcL f (xs.map enc) ρ = .ok (xs.map h, ρ)
  | [], _ => rfl
  | x :: xs, hf => by
    show (f (enc x) ρ).bind _ = _
    rw [hf x List.mem_cons_self, ok_bind, lcL_enc enc h xs fun y hy => hf y (List.mem_cons_of_mem _ hy)]
    rfl
/-- with a test -/
theorem lcL_enc2 {α : Type} {f : PyData → Env → Out (Option PyData × Env)} {ρ : Env} (enc : α → PyData) (c : α → Bool) (h : α → PyData) : ∀ (xs : List α), (∀ x ∈ xs, f (enc x) ρ = .ok (if c x then some (h x) else none, ρ)) → lcL f (xs.map enc) ρ = .ok ((xs.filter c).map h, ρ)
  | [], _ => rfl
  | x :: xs, hf => by
    show (f (enc x) ρ).bind _ = _
    rw [hf x List.mem_cons_self, ok_bind, lcL_enc2 enc c h xs fun y hy => hf y (List.mem_cons_of_mem _ hy)]
    rw [List.filter_cons]
    cases c x <;> rfl
theorem x_all {α : Type} (xs : List α) (b : α → Bool) : pAll [.list (xs.map fun x => .bool (b x))] = some (.val (.bool (xs.all b))) := by
  have : (xs.map fun x => PyData.bool (b x)) = (xs.map b).map .bool := by rw [List.map_map]; rfl
  rw [this]
  show Option.map (fun bs : List Bool => Slot.val (PyData.bool (bs.all id))) (boolsOf ((xs.map b).map PyData.bool)) = _
  rw [boolsOf_map]
  simp
theorem beq_dec {α : Type} [BEq α] [LawfulBEq α] [DecidableEq α] (a b : α) : (a == b) = decide (a = b) := by
  rw [Bool.eq_iff_iff]
  simp
theorem x_eqPL (ps qs : List (Int × Int)) : pEq [.list (psD ps), .list (psD qs)] = some (.val (.bool (decide (ps = qs)))) := by
  unfold pEq
  simp only [sh_psL, PyData.eqv, eqv_ps, Bool.and_self, if_true, beq_dec]
theorem x_ssT64 (ps : List (Int × Int)) (h : smallP ps = true) (h2 : (dedP ps).length ≤ 64) : pSortSet (.tuple (psD ps)) = some (psD (setSort ps)) := by
  simp [pSortSet, coreSS, pairsOf_map, h, h2]
theorem x_ssT (ps : List (Int × Int)) (h : smallP ps = true) (h2 : (dedP ps).length ≤ 62) : pSortSet (.tuple (psD ps)) = some (psD (setSort ps)) := x_ssT64 ps h (by omega)
/-- pairs within n -/
def inN (n : Int) (ps : List (Int × Int)) : Prop := ∀ p ∈ ps, 0 ≤ p.1 ∧ p.1 < n ∧ 0 ≤ p.2 ∧ p.2 < n
theorem inN_small {n : Int} {ps : List (Int × Int)} (h : inN n ps) (hn : n ≤ 64) : smallP ps = true := by
  unfold smallP
  rw [List.all_eq_true]
  intro p hp
  have := h p hp
  simp only [Bool.and_eq_true, decide_eq_true_eq]
  omega
/-- a sorted list without doubles is its own set -/
theorem setSort_self {ps : List (Int × Int)} (nd : ps.Nodup) (st : ps.Pairwise fun a b => lexP a b = true) : setSort ps = ps := (setSort_eq (ps := ps) (fun _ => Iff.rfl) nd st).symm
theorem dedP_of {ps : List (Int × Int)} (nd : ps.Nodup) : (dedP ps).length = ps.length := by
  have h1 := nodup_len _ _ (dedP_nodup ps) fun x hx => (dedP_mem ps).mp hx
  have h2 := nodup_len _ _ nd fun x hx => (dedP_mem ps).mpr hx
  omega
/-- an order -/
structure IsOrd (n : Int) (ps : List (Int × Int)) : Prop where
  lo : 1 ≤ n
  hi : n ≤ 8
  bd : inN n ps
  nd : ps.Nodup
  st : ps.Pairwise fun a b => lexP a b = true
  irr : ∀ p ∈ ps, p.1 ≠ p.2
  tr : ∀ p ∈ ps, ∀ q ∈ ps, p.2 = q.1 → (p.1, q.2) ∈ ps
def allPairs : List (Int × Int) := ((List.range 8).flatMap fun i : Nat => (List.range 8).map fun j : Nat => ((i : Int), (j : Int))).filter fun p => p.1 ≠ p.2
theorem IsOrd.len {n : Int} {ps : List (Int × Int)} (h : IsOrd n ps) : ps.length ≤ 56 := by
  have e : allPairs.length = 56 := by decide +kernel
  rw [← e]
  refine nodup_len _ _ h.nd fun p hp => ?_
  have b := h.bd p hp
  have i := h.irr p hp
  have := h.hi
  unfold allPairs
  rw [List.mem_filter, List.mem_flatMap]
  refine ⟨⟨p.1.toNat, List.mem_range.mpr (by omega), List.mem_map.mpr ⟨p.2.toNat, List.mem_range.mpr (by omega), ?_⟩⟩, by simpa using i⟩
  exact Prod.ext (by simp; omega) (by simp; omega)
end Dn

/-! Den18: sorting pairs, places, rows told. -/
namespace Dn
open PySem PySem.Spec L2
open PyProof.Rows hiding St
def sortP (ps : List (Int × Int)) : List (Int × Int) := ps.mergeSort lexP
theorem x_addPL (ps qs : List (Int × Int)) (h : ps.length + qs.length ≤ 1000000) : pAdd [.list (psD ps), .list (psD qs)] = some (.own (psD (ps ++ qs))) := by
  show (if (psD ps).length + (psD qs).length ≤ 1000000 then some (Slot.own (psD ps ++ psD qs)) else none) = _
  rw [if_pos (by simpa using h)]
  simp
theorem x_neLL (ns ms : List Int) : pNe [.list (nsD ns), .list (nsD ms)] = some (.val (.bool (!decide (ns = ms)))) := by
  unfold pNe
  simp only [sh_nsL, PyData.eqv, eqv_ns, Bool.and_self, if_true, beq_dec]
theorem x_neL0 (ns : List Int) : pNe [.list (nsD ns), .list []] = some (.val (.bool (!decide (ns = [])))) := x_neLL ns []
theorem x_tidx (r : List Int) (x : Int) (h : x ∈ r) : pTIndex [.tuple (nsD r), .int x] = some (.val (.int (r.idxOf x : Nat))) := by
  have f : ∀ (l : List Int) (k : Nat), x ∈ l → firstAt (.int x) (nsD l) k = some (k + l.idxOf x) := by
    intro l
    induction l with
    | nil => intro k h; cases h
    | cons a l ih =>
      intro k h
      show (if PyData.eqv (.int a) (.int x) = true then some k else firstAt (.int x) (nsD l) (k + 1)) = _
      rw [eqv_int]
      by_cases c : a = x
      · subst c
        simp
      · rw [if_neg (by simpa using c), ih (k + 1) (by
          rcases List.mem_cons.mp h with z | z
          · exact absurd z.symm c
          · exact z), List.idxOf_cons]
        have : (a == x) = false := by simpa using c
        rw [this]
        simp
        omega
  unfold pTIndex
  simp only [sh_nsT, sh_int, Bool.and_self, if_true, f r 0 h, Option.map_some, Nat.zero_add]
/-- rows as data -/
abbrev rsD (rs : List (List Int)) : List PyData := rs.map fun r => .tuple (nsD r)
/-- what all rows tell -/
def tells (rs : List (List Int)) (p : Int × Int) : Bool := decide (p.1 ≠ p.2) && rs.all fun r => decide (r.idxOf p.1 < r.idxOf p.2)
def gridP (n : Nat) : List (Int × Int) := (List.range n).flatMap fun a : Nat => (List.range n).map fun b : Nat => ((a : Int), (b : Int))
def toldP (n : Nat) (rs : List (List Int)) : List (Int × Int) := (gridP n).filter (tells rs)
theorem mem_grid {n : Nat} {p : Int × Int} : p ∈ gridP n ↔ 0 ≤ p.1 ∧ p.1 < n ∧ 0 ≤ p.2 ∧ p.2 < n := by
  unfold gridP
  rw [List.mem_flatMap]
  constructor
  · rintro ⟨a, ha, h⟩
    obtain ⟨b, hb, rfl⟩ := List.mem_map.mp h
    rw [List.mem_range] at ha hb
    simp only
    omega
  · intro h
    exact ⟨p.1.toNat, List.mem_range.mpr (by omega), List.mem_map.mpr ⟨p.2.toNat, List.mem_range.mpr (by omega), Prod.ext (by simp; omega) (by simp; omega)⟩⟩
theorem grid_sorted (n : Nat) : (gridP n).Pairwise fun p q => p.1 < q.1 ∨ (p.1 = q.1 ∧ p.2 < q.2) := by
  unfold gridP
  rw [List.pairwise_flatMap]
  constructor
  · intro a _
    rw [List.pairwise_map]
    refine List.Pairwise.imp (fun {x y} h => ?_) (List.pairwise_lt_range (n := n))
    right
    exact ⟨rfl, by simpa using h⟩
  · refine List.Pairwise.imp (fun {x y} h p hp q hq => ?_) (List.pairwise_lt_range (n := n))
    obtain ⟨b, _, rfl⟩ := List.mem_map.mp hp
    obtain ⟨c, _, rfl⟩ := List.mem_map.mp hq
    left
    simpa using h
theorem told_ord {n : Nat} {rs : List (List Int)} (h1 : 1 ≤ n) (h2 : n ≤ 8) (hne : rs ≠ []) : IsOrd n (toldP n rs) := by
  have srt : (toldP n rs).Pairwise fun p q => p.1 < q.1 ∨ (p.1 = q.1 ∧ p.2 < q.2) := List.Pairwise.filter _ (grid_sorted n)
  have mem : ∀ p, p ∈ toldP n rs ↔ p ∈ gridP n ∧ tells rs p = true := fun p => List.mem_filter
  refine ⟨by omega, by omega, fun p hp => mem_grid.mp ((mem p).mp hp).1, ?_, ?_, fun p hp => ?_, fun p hp q hq e => ?_⟩
  · refine List.Pairwise.imp (fun {p q} h e => ?_) srt
    subst e
    omega
  · refine List.Pairwise.imp (fun {p q} h => ?_) srt
    unfold lexP
    rw [decide_eq_true_eq]
    omega
  · have := ((mem p).mp hp).2
    unfold tells at this
    simp only [Bool.and_eq_true, decide_eq_true_eq] at this
    exact this.1
  · obtain ⟨g1, t1⟩ := (mem p).mp hp
    obtain ⟨g2, t2⟩ := (mem q).mp hq
    have g1 := mem_grid.mp g1
    have g2 := mem_grid.mp g2
    unfold tells at t1 t2
    simp only [Bool.and_eq_true, decide_eq_true_eq, List.all_eq_true] at t1 t2
    have lt : ∀ r ∈ rs, r.idxOf p.1 < r.idxOf q.2 := fun r hr => by
      have a := t1.2 r hr
      have b := t2.2 r hr
      rw [e] at a
      omega
    refine (mem _).mpr ⟨mem_grid.mpr ⟨g1.1, g1.2.1, g2.2.2.1, g2.2.2.2⟩, ?_⟩
    unfold tells
    simp only [Bool.and_eq_true, decide_eq_true_eq, List.all_eq_true]
    refine ⟨fun z => ?_, lt⟩
    cases rs with
    | nil => exact hne rfl
    | cons r rs =>
      have := lt r List.mem_cons_self
      have z : p.1 = q.2 := z
      rw [z] at this
      exact absurd this (Nat.lt_irrefl _)
theorem erase_map {α β : Type} (f : α → β) : ∀ (l : List α) (k : Nat), (l.map f).eraseIdx k = (l.eraseIdx k).map f
  | [], k => by cases k <;> rfl
  | a :: l, 0 => rfl
  | a :: l, k + 1 => congrArg (f a :: ·) (erase_map f l k)
theorem erase_perm {α : Type} : ∀ (l : List α) (k : Nat) (h : k < l.length), (l[k] :: l.eraseIdx k).Perm l
  | a :: l, 0, _ => List.Perm.refl _
  | a :: l, k + 1, h => by
    have ih := erase_perm l k (by simpa using h)
    exact (List.Perm.swap a _ _).trans (List.Perm.cons a ih)
/-- place i of a list goes out -/
theorem popAt_ns (l : List Int) (i : Int) (h : 0 ≤ i) (h2 : i < l.length) (h3 : l.length ≤ 1000000) : ∃ v, mPopAt (nsD l) [.int i] = some (.int v, nsD (l.eraseIdx i.toNat)) ∧ (v :: l.eraseIdx i.toNat).Perm l := by
  have lt : i.toNat < l.length := by omega
  refine ⟨l[i.toNat], ?_, ?_⟩
  · have e1 : seqIndex? i (nsD l).length = some i.toNat := by
      rw [List.length_map]
      unfold seqIndex?
      simp
      omega
    have e2 : (nsD l)[i.toNat]? = some (.int l[i.toNat]) := by
      rw [List.getElem?_map, List.getElem?_eq_getElem lt]
      rfl
    show (if (decide (-(2 ^ 62) ≤ i) && decide (i < 2 ^ 62)) = true then (seqIndex? i (nsD l).length).bind fun k => ((nsD l)[k]?).map fun d => (d, (nsD l).eraseIdx k) else none) = _
    rw [if_pos (by rw [Bool.and_eq_true, decide_eq_true_eq, decide_eq_true_eq]; omega), e1]
    show ((nsD l)[i.toNat]?).map _ = _
    rw [e2]
    show some (PyData.int _, (l.map PyData.int).eraseIdx i.toNat) = _
    rw [erase_map]
  · exact erase_perm l _ lt
theorem x_app (ds : List PyData) (d : PyData) (h : ds.length < 1000000) : mAppend ds [d] = some (.none, ds ++ [d]) := by
  show (if ds.length < 1000000 then some (PyData.none, ds ++ [d]) else none) = _
  rw [if_pos h]
theorem x_ext (ds es : List PyData) (h : ds.length + es.length ≤ 1000000) : mExtend ds [.list es] = some (.none, ds ++ es) := by
  show (if ds.length + es.length ≤ 1000000 then some (PyData.none, ds ++ es) else none) = _
  rw [if_pos h]
def kLoop (f : PyData → Env → Out (Fl × Env)) (ds : List PyData) : Fl × Env → Out (Fl × Env) := fun r => match r.1 with
  | .nx => forL f ds r.2
  | .cnt => forL f ds r.2
  | .brk => .ok (.nx, r.2)
  | .ret s => .ok (.ret s, r.2)
section
variable {f : PyData → Env → Out (Fl × Env)} {d : PyData} {ds : List PyData} {ρ : Env} {sl : Slot}
@[simp] theorem x_loop1 : kLoop f ds (.nx, ρ) = forL f ds ρ := id rfl
@[simp] theorem x_loop2 : kLoop f ds (.cnt, ρ) = forL f ds ρ := id rfl
@[simp] theorem x_loop3 : kLoop f ds (.brk, ρ) = .ok (.nx, ρ) := id rfl
@[simp] theorem x_loop4 : kLoop f ds (.ret sl, ρ) = .ok (.ret sl, ρ) := id rfl
end
theorem x_ord0 (m : Int) (ps : List (Int × Int)) : pIx [ordD m ps, .int 0] = some (.val (.int m)) := rfl
theorem x_ord1 (m : Int) (ps : List (Int × Int)) : pIx [ordD m ps, .int 1] = some (.val (.tuple (psD ps))) := rfl
theorem small_in {i : Int} (h : 0 ≤ i) (h2 : i ≤ 1000000) : small62 i = true := by
  have a : -(2 ^ 62) ≤ i := by omega
  have b : i < 2 ^ 62 := by omega
  unfold small62
  rw [decide_eq_true a, decide_eq_true b]
  rfl
end Dn

/-! Den19: the greatest list of members that all go together (plain Lean, no program in sight). -/
namespace Dn
variable {α : Type}
def clq (c : α → α → Bool) : List α → Nat
  | [] => 0
  | t :: l => max (clq c l) (1 + clq c (l.filter (c t)))
termination_by l => l.length
decreasing_by
  · simp
  · have h := List.length_filter_le (fun x : {x // x ∈ l} => c t x.val) l.attach
    rw [List.length_attach] at h
    simp only [List.length_unattach, List.length_cons]
    exact Nat.lt_succ_of_le h
theorem nodup_sub_len [BEq α] [LawfulBEq α] : ∀ (s l : List α), s.Nodup → (∀ x ∈ s, x ∈ l) → s.length ≤ l.length := by
  intro s
  induction s with
  | nil => intro l _ _; exact Nat.zero_le _
  | cons t s ih =>
    intro l nd h
    have ⟨n1, n2⟩ := List.nodup_cons.mp nd
    have ht := h t List.mem_cons_self
    have := ih (l.erase t) n2 fun x hx => (List.mem_erase_of_ne (fun e => n1 (by rw [← e]; exact hx))).mpr (h x (List.mem_cons_of_mem _ hx))
    have e := List.length_erase_of_mem ht
    have pos := List.length_pos_of_mem ht
    rw [List.length_cons]
    omega
end Dn

/-! Den21: rows of growing lists; row number k holds the pairwise lists of length k (plain Lean). -/
namespace Dn
def addsTo (c : Nat → Nat → Bool) (s : List Nat) (t : Nat) : Bool := s.all fun a => decide (a < t) && c a t
def grow (c : Nat → Nat → Bool) (m : Nat) (row : List (List Nat)) : List (List Nat) := row.flatMap fun s => ((List.range m).filter (addsTo c s)).map fun t => s ++ [t]
def lev (c : Nat → Nat → Bool) (m : Nat) : Nat → List (List Nat)
  | 0 => [[]]
  | k + 1 => grow c m (lev c m k)
end Dn

/-! Den22: turns of an order and its sharp turns: their greatest crossing lists are of one length (plain Lean). -/
namespace Dn
abbrev PrI := Int × Int
def apartB (ps : List PrI) (a b : Int) : Bool := decide (a ≠ b) && (decide ((a, b) ∉ ps) && decide ((b, a) ∉ ps))
def onB (ps : List PrI) (p q : PrI) : Bool := decide (p.1 = q.2) || decide ((p.1, q.2) ∈ ps)
def crossB (ps : List PrI) (p q : PrI) : Bool := onB ps p q && onB ps q p
def sharpB (ps : List PrI) (p : PrI) : Bool := (ps.filter fun q => decide (q.2 = p.1)).all (fun q => decide ((q.1, p.2) ∈ ps)) && (ps.filter fun q => decide (q.1 = p.2)).all fun q => decide ((p.1, q.2) ∈ ps)
theorem apartB_iff {ps : List PrI} {a b : Int} : apartB ps a b = true ↔ a ≠ b ∧ (a, b) ∉ ps ∧ (b, a) ∉ ps := by
  unfold apartB
  rw [Bool.and_eq_true, Bool.and_eq_true, decide_eq_true_eq, decide_eq_true_eq, decide_eq_true_eq]
section
variable {ps : List PrI} (irr : ∀ p ∈ ps, p.1 ≠ p.2) (tr : ∀ p ∈ ps, ∀ q ∈ ps, p.2 = q.1 → (p.1, q.2) ∈ ps)
include irr tr
end
end Dn

/-! Den23: small laws of data that many texts use: pairs by rows, lists of lists, slices, greatest and least. -/
namespace Dn
open PySem PySem.Spec L2
open PyProof.Rows hiding St
@[simp] theorem x_neg1 {k : Int} : pNeg [.int k] = some (.val (.int (-k))) := id rfl
def isW : PyData → Bool
  | .int _ => true
  | _ => false
def rowP (m i : Nat) : List (Int × Int) := (List.range m).map fun b : Nat => ((i : Int), (b : Int))
def partP (m i : Nat) : List (Int × Int) := (List.range i).flatMap fun a : Nat => rowP m a
theorem part_succ (m i : Nat) : partP m (i + 1) = partP m i ++ rowP m i := by
  unfold partP
  rw [List.range_succ, List.flatMap_append]
  simp
theorem part_all (m : Nat) : partP m m = gridP m := rfl
theorem row_succ (i j : Nat) : rowP (j + 1) i = rowP j i ++ [((i : Int), (j : Int))] := by
  unfold rowP
  rw [List.range_succ, List.map_append]
  rfl
theorem row_len (m i : Nat) : (rowP m i).length = m := by simp [rowP]
theorem part_len (m i : Nat) : (partP m i).length = i * m := by
  induction i with
  | zero => simp [partP]
  | succ i ih => rw [part_succ, List.length_append, ih, Nat.succ_mul, row_len]
theorem partF_len {m i : Nat} (h : m ≤ 8) (h2 : i ≤ 8) (q : Int × Int → Bool) : ((partP m i).filter q).length ≤ 64 := by
  have h1 := List.length_filter_le q (partP m i)
  rw [part_len] at h1
  have h3 : i * m ≤ 8 * 8 := Nat.mul_le_mul h2 h
  omega
theorem rowF_len (m i : Nat) (q : Int × Int → Bool) : ((rowP m i).filter q).length ≤ m := by
  have h1 := List.length_filter_le q (rowP m i)
  rw [row_len] at h1
  exact h1
/-- one row of pairs, with a test -/
theorem lcL_row {f : PyData → Env → Out (Option PyData × Env)} {ρ : Env} (m i : Nat) (q : Int × Int → Bool)
    (hf : ∀ j : Nat, j < m → f (.int (0 + (j : Nat))) ρ = .ok (if q ((i : Int), (j : Int)) then some (prD ((i : Int), (j : Int))) else none, ρ)) : lcL f (rngD 0 m) ρ = .ok (psD ((rowP m i).filter q), ρ) := by
  unfold rngD
  rw [lcL_enc2 (fun j : Nat => PyData.int (0 + (j : Nat))) (fun j : Nat => q ((i : Int), (j : Int))) (fun j : Nat => prD ((i : Int), (j : Int))) (List.range m) fun j hj => hf j (List.mem_range.mp hj)]
  unfold rowP psD
  rw [List.filter_map, List.map_map]
  rfl
def upTo (m : Nat) : List Int := (List.range m).map fun i : Nat => (i : Int)
theorem upTo_len (m : Nat) : (upTo m).length = m := by simp [upTo]
theorem mem_upTo {m : Nat} {x : Int} : x ∈ upTo m ↔ 0 ≤ x ∧ x < m := by
  unfold upTo
  rw [List.mem_map]
  constructor
  · rintro ⟨i, hi, rfl⟩
    rw [List.mem_range] at hi
    omega
  · intro h
    exact ⟨x.toNat, List.mem_range.mpr (by omega), by omega⟩
theorem upTo_nd (m : Nat) : (upTo m).Nodup := by
  unfold upTo
  exact List.Pairwise.map _ (fun a b h e => h (by omega)) (List.nodup_range (n := m))
theorem rng_upTo (m : Nat) : rngD 0 m = nsD (upTo m) := by
  rw [rngD_map]
  unfold upTo
  simp
theorem x_max2 (a b : Nat) : pMax [.int a, .int b] = some (.val (.int (max a b : Nat))) := by
  show some (Slot.val (PyData.int (if (b : Int) > a then (b : Int) else a))) = _
  congr 3
  split <;> omega
theorem x_min2 (a b : Nat) : pMin [.int a, .int b] = some (.val (.int (min a b : Nat))) := by
  show some (Slot.val (PyData.int (if (b : Int) < a then (b : Int) else a))) = _
  congr 3
  split <;> omega
theorem x_maxmin1 (k c : Nat) : pMin [.int k, .int c] = some (.val (.int (min k c : Nat))) ∧ pMax [.int 1, .int (min k c : Nat)] = some (.val (.int (max 1 (min k c) : Nat))) := ⟨x_min2 k c, x_max2 1 _⟩
/-! ### enumerate, slices -/
/-! ### lists of things, lists of such -/
abbrev nlD (s : List Nat) : List PyData := s.map fun i : Nat => .int (i : Int)
abbrev lsD (ls : List (List Nat)) : List PyData := ls.map fun s => .list (nlD s)
/-- how many lists there are -/
def subs {α : Type} : List α → List (List α)
  | [] => [[]]
  | a :: l => subs l ++ (subs l).map (a :: ·)
def levs (c : Nat → Nat → Bool) (m j : Nat) : List (List Nat) := (List.range j).flatMap (lev c m)
/-- the first of the longest -/
def bestOf (b : List Nat) (l : List (List Nat)) : List Nat := l.foldl (fun b s => if b.length < s.length then s else b) b
end Dn

/-! Den24: an own name handed over ahead of arguments that change it; `is` of truths. -/
namespace Dn
open PySem PySem.Spec L2
open PyProof.Rows hiding St
/-- a name that owns a list, lent behind the arguments after it -/
def asLate (i : Nat) (r : DenA) : DenA := fun Φ ρ => if isOwnL ρ i then ((r Φ ρ).bind fun y => match y.2[i]? with
  | some (.own ds) => .ok ((some i, .own ds) :: y.1, y.2.set i .un)
  | _ => .stuck) else asVar i r Φ ρ
section
variable {Γ : Ctx} {e : Expr} {es : List Expr} {d : DenOs} {r : DenA} {p : Bool} {pos : Pos}
variable {B : Bd} {F H : Hp} {ρ : Env} {σ : St}
/-! ### is, of truths -/
def pIsB : Prim
  | [.bool a, .bool b] => some (.val (.bool (decide (a = b))))
  | _ => none
def pIsNB : Prim
  | [.bool a, .bool b] => some (.val (.bool (!decide (a = b))))
  | _ => none
variable {a b : Expr}
end
/-! ### step by step -/
section
variable {Φ : Calls} {ρ : Env} {i : Nat} {r : DenA} {la : List (Option Nat × Slot)} {ds : List PyData} {u v : Bool}
def kLate2 (o : Option Slot) (i : Nat) (la : List (Option Nat × Slot)) (ρ : Env) : Out (List (Option Nat × Slot) × Env) := match o with
  | some (.own ds) => .ok ((some i, .own ds) :: la, ρ.set i .un)
  | _ => .stuck
def kLate (i : Nat) : List (Option Nat × Slot) × Env → Out (List (Option Nat × Slot) × Env) := fun y => kLate2 (y.2[i]?) i y.1 y.2
def lateG (o : Option Slot) (i : Nat) (r : DenA) (Φ : Calls) (ρ : Env) : Out (List (Option Nat × Slot) × Env) := match o with
  | some (.own _) => (r Φ ρ).bind (kLate i)
  | _ => aVar o i r Φ ρ
@[simp] theorem x_asLate : asLate i r Φ ρ = lateG (ρ[i]?) i r Φ ρ := by
  unfold asLate isOwnL lateG
  cases h : ρ[i]? with
  | none => simp [h]
  | some s => cases s <;> simp [h] <;> rfl
@[simp] theorem x_lateG1 : lateG (some (.own ds)) i r Φ ρ = (r Φ ρ).bind (kLate i) := id rfl
@[simp] theorem x_lateG2 {d : PyData} : lateG (some (.val d)) i r Φ ρ = (r Φ ρ).bind (kAs (none, .val d)) := id rfl
@[simp] theorem x_lateG3 {ns : List Int} : lateG (some (.scr ns)) i r Φ ρ = (r Φ ρ).bind (kAs (none, .scr ns)) := id rfl
@[simp] theorem x_asLate1 : kLate i (la, ρ) = kLate2 (ρ[i]?) i la ρ := id rfl
@[simp] theorem x_asLate2 : kLate2 (some (.own ds)) i la ρ = .ok ((some i, .own ds) :: la, ρ.set i .un) := id rfl
@[simp] theorem x_isB : pIsB [.bool u, .bool v] = some (.val (.bool (decide (u = v)))) := id rfl
@[simp] theorem x_isNB : pIsNB [.bool u, .bool v] = some (.val (.bool (!decide (u = v)))) := id rfl
end
end Dn

/-! Den25: repr of data without dicts; how long it can be. -/
namespace Dn
open PySem PySem.Spec L2
open PyProof.Rows hiding St
mutual
/-- a bound for the length of the text -/
def wt : PyData → Nat
  | .none => 10
  | .bool _ => 10
  | .int _ => 2000
  | .str x => (reprText x).length
  | .list ds => wtAll ds + 10
  | .tuple ds => wtAll ds + 10
  | .dict es => wtKv es + 10
def wtAll : List PyData → Nat
  | [] => 0
  | d :: ds => wt d + 2 + wtAll ds
def wtKv : List (PyData × PyData) → Nat
  | [] => 0
  | (k, d) :: ds => wt k + wt d + 6 + wtKv ds
end
mutual
theorem shown_wt : ∀ d : PyData, d.showable = true → d.shown.length ≤ wt d
  | .none, _ => by unfold wt; simp only [PyData.shown]; decide +kernel
  | .bool b, _ => by unfold wt; simp only [PyData.shown]; cases b <;> decide +kernel
  | .int i, h => by
    unfold wt
    have := int_text_len_1921 (i := i) (by simpa [PyData.showable] using h)
    simp only [PyData.shown]
    exact Nat.le_trans this (by decide)
  | .str x, _ => by unfold wt; simp only [PyData.shown]; exact Nat.le_refl _
  | .list ds, h => by
    have h1 := shown_wtAll ds (by simpa [PyData.showable] using h)
    have h2 := listText_len_le (PyData.shownAll ds)
    unfold wt
    simp only [PyData.shown]
    omega
  | .tuple ds, h => by
    have h1 := shown_wtAll ds (by simpa [PyData.showable] using h)
    have h2 := tupleText_len_le (PyData.shownAll ds)
    unfold wt
    simp only [PyData.shown]
    omega
  | .dict es, h => by
    have h1 := shown_wtKv es (by simpa [PyData.showable] using h)
    have h2 := dictText_len_le (PyData.shownKv es)
    unfold wt
    simp only [PyData.shown]
    omega
theorem shown_wtAll : ∀ ds : List PyData, PyData.showableAll ds = true → ((PyData.shownAll ds).map (·.length)).sum + 2 * (PyData.shownAll ds).length ≤ wtAll ds
  | [], _ => by simp [PyData.shownAll]
  | d :: ds, h => by
    simp only [PyData.showableAll, Bool.and_eq_true] at h
    have h1 := shown_wt d h.1
    have h2 := shown_wtAll ds h.2
    unfold wtAll
    simp only [PyData.shownAll, List.map_cons, List.sum_cons, List.length_cons]
    omega
theorem shown_wtKv : ∀ ds : List (PyData × PyData), PyData.showableKv ds = true → ((PyData.shownKv ds).map (·.length)).sum + 2 * (PyData.shownKv ds).length ≤ wtKv ds
  | [], _ => by simp [PyData.shownKv]
  | (k, d) :: ds, h => by
    simp only [PyData.showableKv, Bool.and_eq_true] at h
    have h0 := shown_wt k h.1.1
    have h1 := shown_wt d h.1.2
    have h2 := shown_wtKv ds h.2
    have h3 : (k.shown ++ ": " ++ d.shown).length = k.shown.length + 2 + d.shown.length := by
      rw [strLen_append, strLen_append]
      rfl
    unfold wtKv
    simp only [PyData.shownKv, List.map_cons, List.sum_cons, List.length_cons]
    rw [h3]
    omega
end
/-! ### how data is read, dicts among it -/
def atomK : PyData → Bool
  | .int _ => true
  | .str _ => true
  | _ => false
mutual
/-- no dict within, or keys that are whole numbers and texts -/
def rdB : PyData → Bool
  | .list ds => rdAll ds
  | .tuple ds => rdAll ds
  | .dict es => rdKv es
  | _ => true
def rdAll : List PyData → Bool
  | [] => true
  | d :: ds => rdB d && rdAll ds
def rdKv : List (PyData × PyData) → Bool
  | [] => true
  | (k, d) :: ds => atomK k && rdB d && rdKv ds
end
mutual
def flatB : PyData → Bool
  | .list _ => false
  | .tuple ds => flatAll ds
  | .dict es => flatKv es
  | _ => true
def flatAll : List PyData → Bool
  | [] => true
  | d :: ds => flatB d && flatAll ds
def flatKv : List (PyData × PyData) → Bool
  | [] => true
  | (_, d) :: ds => flatB d && flatKv ds
end
mutual
theorem rd_lay : ∀ d : PyData, d.canLay0 = true → rdB d = true
  | .none, _ => by simp [rdB]
  | .bool _, _ => by simp [rdB]
  | .int _, _ => by simp [rdB]
  | .str _, _ => by simp [rdB]
  | .list ds, h => by simpa [rdB] using rd_layAll ds (by simpa [PyData.canLay0] using h)
  | .tuple ds, h => by simpa [rdB] using rd_layAll ds (by simpa [PyData.canLay0] using h)
  | .dict _, h => by simp [PyData.canLay0] at h
theorem rd_layAll : ∀ ds : List PyData, PyData.canLayAll0 ds = true → rdAll ds = true
  | [], _ => by simp [rdAll]
  | d :: ds, h => by
    simp only [PyData.canLayAll0, Bool.and_eq_true] at h
    simp [rdAll, rd_lay d h.1, rd_layAll ds h.2]
end
/-! ### data read, its dicts apart from the modules' table -/
mutual
inductive RdS (h : Heap) : Value → PyData → Prop
  | none : RdS h .none .none
  | bool (b : Bool) : RdS h (.bool b) (.bool b)
  | int (i : Int) (t : Tok) : RdS h (.int i t) (.int i)
  | str (x : Str) (t : Tok) : RdS h (.str x t) (.str x)
  | list {a : Addr} {o : Obj} {vs : Array Value} {n : Nat} {xs : List PyData} : h.get? a = some o → o.cls = .type "list" → o.data = .seq vs n → RdSAll h vs.toList xs → RdS h (.ref a) (.list xs)
  | tuple {a : Addr} {o : Obj} {vs : Array Value} {n : Nat} {xs : List PyData} : h.get? a = some o → o.cls = .type "tuple" → o.data = .seq vs n → RdSAll h vs.toList xs → RdS h (.ref a) (.tuple xs)
  | dict {a : Addr} {o : Obj} {es : Array DictEntry} {n : Nat} {kvs : List (PyData × PyData)} : (a == sysModules) = false → h.get? a = some o → o.cls = .type "dict" → o.data = .dict es n → RdSAll h (es.toList.map (·.key)) (kvs.map (·.1)) →
      RdSAll h (es.toList.map (·.val)) (kvs.map (·.2)) → RdS h (.ref a) (.dict kvs)
inductive RdSAll (h : Heap) : List Value → List PyData → Prop
  | nil : RdSAll h [] []
  | cons {v : Value} {vs : List Value} {d : PyData} {ds : List PyData} : RdS h v d → RdSAll h vs ds → RdSAll h (v :: vs) (d :: ds)
end
mutual
theorem RdS.reads {h : Heap} : ∀ {v : Value} {d : PyData}, RdS h v d → ∃ as, Reads h v d as
  | _, _, .none => ⟨_, .none⟩
  | _, _, .bool b => ⟨_, .bool b⟩
  | _, _, .int i t => ⟨_, .int i t⟩
  | _, _, .str x t => ⟨_, .str x t⟩
  | _, _, .list h1 h2 h3 h4 => let ⟨_, q⟩ := h4.reads; ⟨_, .list h1 h2 h3 q⟩
  | _, _, .tuple h1 h2 h3 h4 => let ⟨_, q⟩ := h4.reads; ⟨_, .tuple h1 h2 h3 q⟩
  | _, _, .dict _ h1 h2 h3 h4 h5 => let ⟨_, q⟩ := h4.reads; let ⟨_, q2⟩ := h5.reads; ⟨_, .dict h1 h2 h3 q q2⟩
theorem RdSAll.reads {h : Heap} : ∀ {vs : List Value} {ds : List PyData}, RdSAll h vs ds → ∃ as, ReadsAll h vs ds as
  | _, _, .nil => ⟨_, .nil⟩
  | _, _, .cons h1 h2 => let ⟨_, q⟩ := h1.reads; let ⟨_, q2⟩ := h2.reads; ⟨_, .cons q q2⟩
end
section
variable {prog : Program} {w : World} {h₀ : Heap}
mutual
theorem reprK_of : ∀ {v : Value} {d : PyData}, RdS h₀ v d → d.showable = true → d.shown.length ≤ sizeLine → ∃ bs, ReadAtMost h₀ d.depth bs ∧ ReprK prog w bs h₀ d.depth v d.shown
  | _, _, .none, _, _ => ⟨[], (fun _ h => nomatch h), by simp only [PyData.shown]; exact .of_is ReprIs.none _ _ _⟩
  | _, _, .bool b, _, _ => ⟨[], (fun _ h => nomatch h), by simp only [PyData.shown]; exact .of_is (ReprIs.bool b) _ _ _⟩
  | _, _, .int i t, hs, _ => ⟨[], (fun _ h => nomatch h), by simp only [PyData.shown]; exact .of_is (ReprIs.int t (by simpa [PyData.showable] using hs)) _ _ _⟩
  | _, _, .str x t, _, hz => ⟨[], (fun _ h => nomatch h), by simp only [PyData.shown]; exact .of_is (ReprIs.str x t (by simpa only [PyData.shown] using hz)) _ _ _⟩
  | _, _, .list (a := a) (vs := vs) (xs := xs) h1 h2 h3 h4, hs, hz => by
    have hz' : (listText (PyData.shownAll xs)).length ≤ sizeLine := by simpa only [PyData.shown] using hz
    obtain ⟨bs, hb, hk⟩ := reprAllK_of h4 (by simpa [PyData.showable] using hs) (fun t ht => Nat.le_trans (listText_mem_le ht) hz')
    obtain ⟨_, r⟩ := (RdS.list h1 h2 h3 h4).reads
    have hna : a ∉ bs := not_mem_of_deeper r (by simp only [PyData.depth]; omega) hb
    refine ⟨a :: bs, ReadAtMost.cons r (by simp only [PyData.depth]; omega) hb, ?_⟩
    simp only [PyData.depth, PyData.shown]
    obtain ⟨l⟩ := vs
    cases l with
    | nil =>
      have h4' : RdSAll h₀ [] xs := h4
      cases h4'
      simp only [PyData.shownAll, listText_nil]
      exact ReprK.listEmpty h1 h2 h3
    | cons x l => exact ReprK.list h1 h2 h3 hna (by simpa using hk.length_eq) (fun i y e => hk.item i y (by simpa using e))
  | _, _, .tuple (a := a) (xs := xs) h1 h2 h3 h4, hs, hz => by
    have hz' : (tupleText (PyData.shownAll xs)).length ≤ sizeLine := by simpa only [PyData.shown] using hz
    obtain ⟨bs, hb, hk⟩ := reprAllK_of h4 (by simpa [PyData.showable] using hs) (fun t ht => Nat.le_trans (tupleText_mem_le ht) hz')
    obtain ⟨_, r⟩ := (RdS.tuple h1 h2 h3 h4).reads
    have hna : a ∉ bs := not_mem_of_deeper r (by simp only [PyData.depth]; omega) hb
    refine ⟨a :: bs, ReadAtMost.cons r (by simp only [PyData.depth]; omega) hb, ?_⟩
    simp only [PyData.depth, PyData.shown]
    exact ReprK.tuple h1 h2 h3 hna hk
  | _, _, .dict (a := a) (es := es) (kvs := kvs) hsys h1 h2 h3 h4 h5, hs, hz => by
    have hz' : (dictText (PyData.shownKv kvs)).length ≤ sizeLine := by simpa only [PyData.shown] using hz
    obtain ⟨hs1, hs2⟩ := PyData.showableKv_split kvs (by simpa [PyData.showable] using hs)
    obtain ⟨b1, hb1, k1⟩ := reprAllK_of h4 hs1 (fun t ht => let ⟨p, hp, hl⟩ := PyData.shownKv_key_le kvs t ht; Nat.le_trans hl (Nat.le_trans (dictText_mem_le hp) hz'))
    obtain ⟨b2, hb2, k2⟩ := reprAllK_of h5 hs2 (fun t ht => let ⟨p, hp, hl⟩ := PyData.shownKv_val_le kvs t ht; Nat.le_trans hl (Nat.le_trans (dictText_mem_le hp) hz'))
    obtain ⟨_, r⟩ := (RdS.dict hsys h1 h2 h3 h4 h5).reads
    have hb : ReadAtMost h₀ (PyData.depthKv kvs) (b1 ++ b2) := (hb1.mono (PyData.depthAll_keys_le kvs)).append (hb2.mono (PyData.depthAll_vals_le kvs))
    have hna : a ∉ b1 ++ b2 := not_mem_of_deeper r (by simp only [PyData.depth]; omega) hb
    refine ⟨a :: (b1 ++ b2), ReadAtMost.cons r (by simp only [PyData.depth]; omega) hb, ?_⟩
    simp only [PyData.depth, PyData.shown, PyData.shownKv_eq]
    exact ReprK.dict h1 h2 h3 hsys hna (ReprEntriesK.of_two es.toList _ _
      (k1.more_le (fun b hb => List.mem_append_left _ hb) (PyData.depthAll_keys_le kvs)) (k2.more_le (fun b hb => List.mem_append_right _ hb) (PyData.depthAll_vals_le kvs)))
theorem reprAllK_of : ∀ {vs : List Value} {ds : List PyData}, RdSAll h₀ vs ds → PyData.showableAll ds = true → (∀ t ∈ PyData.shownAll ds, t.length ≤ sizeLine) → ∃ bs, ReadAtMost h₀ (PyData.depthAll ds) bs ∧ ReprAllK prog w bs h₀ (PyData.depthAll ds) vs (PyData.shownAll ds)
  | _, _, .nil, _, _ => ⟨[], (fun _ h => nomatch h), by simp only [PyData.shownAll]; exact .nil⟩
  | _, _, .cons (d := d) (ds := ds) h1 h2, hs, hz => by
    have hs' : d.showable = true ∧ PyData.showableAll ds = true := by simpa [PyData.showableAll] using hs
    obtain ⟨b1, hb1, k1⟩ := reprK_of h1 hs'.1 (hz _ (by simp only [PyData.shownAll]; exact List.mem_cons_self ..))
    obtain ⟨b2, hb2, k2⟩ := reprAllK_of h2 hs'.2 (fun t ht => hz t (by simp only [PyData.shownAll]; exact List.mem_cons_of_mem _ ht))
    have e1 : d.depth ≤ PyData.depthAll (d :: ds) := by simp only [PyData.depthAll]; omega
    have e2 : PyData.depthAll ds ≤ PyData.depthAll (d :: ds) := by simp only [PyData.depthAll]; omega
    refine ⟨b1 ++ b2, (hb1.mono e1).append (hb2.mono e2), ?_⟩
    simp only [PyData.shownAll]
    exact .cons ((k1.more fun b hb => List.mem_append_left _ hb).level_le e1) (k2.more_le (fun b hb => List.mem_append_right _ hb) e2)
end
variable {a : Addr} {d : PyData}
end
section
variable {X : Cx} {pins : List (Addr × Obj)} {σ : St} {H : Hp} {s : Shared} (I : Inv X pins σ H s)
include I
mutual
theorem rp_reads : ∀ (d : PyData) (v : V) (u : Value), Rp X.K H d v → RelV v u → rdB d = true → RdS s.heap u d
  | .none, _, _, h, r, _ => by cases h; cases r; exact .none
  | .bool b, _, _, h, r, _ => by cases h; cases r; exact .bool b
  | .int i, _, _, h, r, _ => by cases h; obtain ⟨t, rfl⟩ := r; exact .int i t
  | .str x, _, _, h, r, _ => by cases h; obtain ⟨t, rfl⟩ := r; exact .str x t
  | .list ds, _, _, h, r, z => by
    cases h with
    | lst h1 h2 =>
      cases r
      obtain ⟨_, its, n, rv, e⟩ := I.hok _ _ h1
      exact .list e rfl rfl (by simpa using rp_readsAll ds _ its h2 rv (by simpa [rdB] using z))
  | .tuple ds, _, _, h, r, z => by
    cases h with
    | tup h1 _ h2 =>
      cases r
      obtain ⟨_, _, its, rv, o, e, hc, n, hd⟩ := I.hok _ _ h1
      exact .tuple e hc hd (by simpa using rp_readsAll ds _ its h2 rv (by simpa [rdB] using z))
  | .dict es, _, _, h, r, z => by
    cases h with
    | dK h1 h2 =>
      cases r
      obtain ⟨_, hsys, vs, rel, o, ds, ep, e, ex, hd, _, prs, _⟩ := I.hok _ _ h1
      obtain ⟨q1, q2⟩ := rp_readsK es _ vs ds.toList h2 rel prs (by simpa [rdB] using z)
      exact .dict hsys e ex.1 hd q1 q2
    | dT h1 h2 =>
      cases r
      obtain ⟨_, _, hsys, vs, rel, o, ds, ep, e, ex, hd, _, prs, _⟩ := I.hok _ _ h1
      obtain ⟨q1, q2⟩ := rp_readsK es _ vs ds.toList h2 rel prs (by simpa [rdB] using z)
      exact .dict hsys e ex.1 hd q1 q2
theorem rp_readsAll : ∀ (ds : List PyData) (vs : List V) (us : List Value), RpAll X.K H ds vs → Vals vs us → rdAll ds = true → RdSAll s.heap us ds
  | [], _, _, h, r, _ => by cases h; cases r; exact .nil
  | d :: ds, _, _, h, r, z => by
    simp only [rdAll, Bool.and_eq_true] at z
    cases h with
    | cons h1 h2 =>
      cases r with
      | cons r1 r2 => exact .cons (rp_reads d _ _ h1 r1 z.1) (rp_readsAll ds _ _ h2 r2 z.2)
theorem rp_readsK : ∀ (es : List (PyData × PyData)) (kvs : List (Key × V)) (vs : List (Key × Value)) (ds : List DictEntry), RpK X.K H es kvs → KV kvs vs → Pairs (mixKind X.prog X.w) ds vs → rdKv es = true →
    RdSAll s.heap (ds.map (·.key)) (es.map (·.1)) ∧ RdSAll s.heap (ds.map (·.val)) (es.map (·.2))
  | [], _, _, _, h, r, p, _ => by
    cases h
    cases r
    cases p
    exact ⟨.nil, .nil⟩
  | (kd, d) :: es, _, _, _, h, r, p, z => by
    simp only [rdKv, Bool.and_eq_true] at z
    cases h with
    | cons h1 h2 =>
      rename_i k _ _
      cases r with
      | cons r1 r2 =>
        cases p with
        | cons p1 p2 p3 =>
          obtain ⟨q1, q2⟩ := rp_readsK es _ _ _ h2 r2 p3 z.2
          obtain ⟨e1, e2⟩ := r1
          rw [← p2] at e2
          rw [← e1] at p1
          have key : ∀ w : Value, keyIs k w = true → RdS s.heap w (keyD k) := by
            intro w hw
            rcases keyIs_shape hw with ⟨i, t, ek, ev⟩ | ⟨x, t, ek, ev⟩
            · rw [ek, ev]; exact .int i t
            · rw [ek, ev]; exact .str x t
          exact ⟨.cons (key _ p1) q1, .cons (rp_reads d _ _ h1 e2 z.1.2) q2⟩
end
end
def reprOk (d : PyData) : Bool := (decide (d.depth ≤ 64) && rdB d) && d.showable && decide (d.shown.length ≤ 16000000)
def pRepr : Prim
  | [d] => if reprOk d then some (.val (.str d.shown)) else none
  | _ => none
theorem reprOk_rd {d : PyData} (h1 : d.depth ≤ 64) (h0 : rdB d = true) (h2 : d.showable = true) (h3 : wt d ≤ 16000000) : reprOk d = true := by
  unfold reprOk
  rw [h2, decide_eq_true (Nat.le_trans (shown_wt d h2) h3), decide_eq_true h1, h0]
  rfl
def rRepr (K : PySem.W.Frag) : List V → Hp → VK → Prop := fun xs H Q => ∃ v d, xs = [v] ∧ Rp K H d v ∧ reprOk d = true ∧ Q (.str d.shown) H
/-! ### the usual data -/
end Dn

/-! Den26: closures of pairs (plain Lean). -/
namespace Dn
open PySem PySem.Spec L2
open PyProof.Rows hiding St
def Srt (ps : List (Int × Int)) : Prop := ps.Nodup ∧ ps.Pairwise fun a b => lexP a b = true
theorem srt_ext {ps qs : List (Int × Int)} (h1 : Srt ps) (h2 : Srt qs) (h : ∀ p, p ∈ ps ↔ p ∈ qs) : ps = qs :=
  (setSort_eq h h1.1 h1.2).trans (setSort_self h2.1 h2.2)
theorem setSort_srt (ps : List (Int × Int)) : Srt (setSort ps) := ⟨setSort_nodup ps, setSort_sorted ps⟩
theorem grid_srt (n : Nat) (q : Int × Int → Bool) : Srt ((gridP n).filter q) := by
  have srt : ((gridP n).filter q).Pairwise fun p q => p.1 < q.1 ∨ (p.1 = q.1 ∧ p.2 < q.2) := List.Pairwise.filter _ (grid_sorted n)
  refine ⟨List.Pairwise.imp (fun {p q} h e => ?_) srt, List.Pairwise.imp (fun {p q} h => ?_) srt⟩
  · subst e
    omega
  · unfold lexP
    rw [decide_eq_true_eq]
    omega
theorem IsOrd.srt {n : Int} {ps : List (Int × Int)} (o : IsOrd n ps) : Srt ps := ⟨o.nd, o.st⟩
theorem Srt.filter {ps : List (Int × Int)} (h : Srt ps) (q : Int × Int → Bool) : Srt (ps.filter q) := ⟨h.1.sublist List.filter_sublist, h.2.sublist List.filter_sublist⟩
/-- a chain of pairs leads from a to b -/
inductive Ch (ps : List (Int × Int)) : Int → Int → Prop
  | one {a b : Int} : (a, b) ∈ ps → Ch ps a b
  | more {a c b : Int} : (a, c) ∈ ps → Ch ps c b → Ch ps a b
theorem Ch.trans {ps : List (Int × Int)} {a b c : Int} (h : Ch ps a b) (h' : Ch ps b c) : Ch ps a c := by
  induction h with
  | one e => exact .more e h'
  | more e _ ih => exact .more e (ih h')
theorem Ch.mono {ps qs : List (Int × Int)} (h : ∀ p ∈ ps, Ch qs p.1 p.2) {a b : Int} (c : Ch ps a b) : Ch qs a b := by
  induction c with
  | one e => exact h _ e
  | more e _ ih => exact (h _ e).trans ih
theorem Ch.inN {n : Int} {ps : List (Int × Int)} (h : inN n ps) {a b : Int} (c : Ch ps a b) : 0 ≤ a ∧ a < n ∧ 0 ≤ b ∧ b < n := by
  induction c with
  | one e => exact h _ e
  | more e _ ih =>
    have := h _ e
    simp only at this
    omega
/-- .. with none but things below k between -/
inductive ChK (ps : List (Int × Int)) (k : Int) : Int → Int → Prop
  | one {a b : Int} : (a, b) ∈ ps → ChK ps k a b
  | more {a c b : Int} : (a, c) ∈ ps → c < k → ChK ps k c b → ChK ps k a b
theorem ChK.up {ps : List (Int × Int)} {k l : Int} (h : k ≤ l) {a b : Int} (c : ChK ps k a b) : ChK ps l a b := by
  induction c with
  | one e => exact .one e
  | more e hk _ ih => exact .more e (by omega) ih
theorem ChK.ch {ps : List (Int × Int)} {k : Int} {a b : Int} (c : ChK ps k a b) : Ch ps a b := by
  induction c with
  | one e => exact .one e
  | more e hk _ ih => exact .more e ih
theorem ChK.join {ps : List (Int × Int)} {k l c : Int} (h : c < l) (hk : k ≤ l) {a b : Int} (x : ChK ps k a c) (y : ChK ps k c b) : ChK ps l a b := by
  induction x with
  | one e => exact .more e h (y.up hk)
  | more e hc _ ih => exact .more e (by omega) (ih h y)
theorem ChK.split {ps : List (Int × Int)} {k : Int} {a b : Int} (x : ChK ps (k + 1) a b) : ChK ps k a b ∨ (ChK ps k a k ∧ ChK ps k k b) := by
  induction x with
  | one e => exact .inl (.one e)
  | more e hc _ ih =>
    rename_i a c b _
    by_cases z : c = k
    · subst z
      rcases ih with h | ⟨_, h⟩
      · exact .inr ⟨.one e, h⟩
      · exact .inr ⟨.one e, h⟩
    · have lt : c < k := by omega
      rcases ih with h | ⟨h1, h2⟩
      · exact .inl (.more e lt h)
      · exact .inr ⟨.more e lt h1, h2⟩
noncomputable def chB (ps : List (Int × Int)) : Int × Int → Bool := fun p => @decide (Ch ps p.1 p.2) (Classical.propDecidable _)
noncomputable def chkB (ps : List (Int × Int)) (k : Int) : Int × Int → Bool := fun p => @decide (ChK ps k p.1 p.2) (Classical.propDecidable _)
theorem chB_iff {ps : List (Int × Int)} {p : Int × Int} : chB ps p = true ↔ Ch ps p.1 p.2 := by
  unfold chB
  exact @decide_eq_true_iff _ (Classical.propDecidable _)
/-- the closure -/
noncomputable def clo (n : Nat) (ps : List (Int × Int)) : List (Int × Int) := (gridP n).filter (chB ps)
noncomputable def cloK (n : Nat) (ps : List (Int × Int)) (k : Int) : List (Int × Int) := (gridP n).filter (chkB ps k)
theorem mem_clo {n : Nat} {ps : List (Int × Int)} (h : inN n ps) {p : Int × Int} : p ∈ clo n ps ↔ Ch ps p.1 p.2 := by
  unfold clo
  rw [List.mem_filter, mem_grid, chB_iff]
  exact ⟨fun x => x.2, fun x => ⟨x.inN h, x⟩⟩
theorem clo_srt (n : Nat) (ps : List (Int × Int)) : Srt (clo n ps) := grid_srt n _
/-- a turn of the program's closing -/
def moreK (F : List (Int × Int)) (k : Int) : List (Int × Int) := F.flatMap fun p => if p.2 = k then (F.filter fun q => decide (q.1 = k)).map fun q => (p.1, q.2) else []
/-- a turn of the law's closing -/
def compP (F : List (Int × Int)) : List (Int × Int) := F.flatMap fun p => (F.filter fun q => decide (q.1 = p.2)).map fun q => (p.1, q.2)
theorem mem_compP {F : List (Int × Int)} {p : Int × Int} : p ∈ compP F ↔ ∃ c, (p.1, c) ∈ F ∧ (c, p.2) ∈ F := by
  unfold compP
  rw [List.mem_flatMap]
  constructor
  · rintro ⟨q, hq, h⟩
    obtain ⟨r, hr, rfl⟩ := List.mem_map.mp h
    obtain ⟨h1, h2⟩ := List.mem_filter.mp hr
    rw [decide_eq_true_eq] at h2
    exact ⟨q.2, hq, by rw [← h2]; exact h1⟩
  · rintro ⟨c, h1, h2⟩
    exact ⟨_, h1, List.mem_map.mpr ⟨_, List.mem_filter.mpr ⟨h2, decide_eq_true rfl⟩, rfl⟩⟩
/-- between the pairs and their closure -/
structure Mid (ps F : List (Int × Int)) : Prop where
  srt : Srt F
  sub : ∀ p ∈ ps, p ∈ F
  ch : ∀ p ∈ F, Ch ps p.1 p.2
theorem Mid.start (ps : List (Int × Int)) : Mid ps (setSort ps) := ⟨setSort_srt ps, fun p h => setSort_mem.mpr h, fun p h => .one (setSort_mem.mp h)⟩
theorem Mid.comp_ch {ps F : List (Int × Int)} (h : Mid ps F) {p : Int × Int} (hp : p ∈ compP F) : Ch ps p.1 p.2 := by
  obtain ⟨c, h1, h2⟩ := mem_compP.mp hp
  exact (h.ch _ h1).trans (h.ch _ h2)
theorem Mid.step {ps F : List (Int × Int)} (h : Mid ps F) : Mid ps (setSort (F ++ compP F)) := by
  refine ⟨setSort_srt _, fun p hp => setSort_mem.mpr (List.mem_append.mpr (.inl (h.sub p hp))), fun p hp => ?_⟩
  rcases List.mem_append.mp (setSort_mem.mp hp) with z | z
  · exact h.ch p z
  · exact h.comp_ch z
theorem len_ext {α : Type} [DecidableEq α] {xs ys : List α} (nx : xs.Nodup) (ny : ys.Nodup) (h : ∀ x ∈ xs, x ∈ ys) (e : ys.length ≤ xs.length) : ∀ y ∈ ys, y ∈ xs := fun y hy => by
  refine Decidable.byContradiction fun c => ?_
  have := nodup_len (y :: xs) ys (List.nodup_cons.mpr ⟨c, nx⟩) fun x hx => by
    rcases List.mem_cons.mp hx with rfl | z
    · exact hy
    · exact h x z
  rw [List.length_cons] at this
  omega
theorem Mid.same {ps F : List (Int × Int)} (h : Mid ps F) (e : (setSort (F ++ compP F)).length = F.length) : setSort (F ++ compP F) = F := by
  refine srt_ext (setSort_srt _) h.srt fun p => ⟨fun hp => ?_, fun hp => setSort_mem.mpr (List.mem_append.mpr (.inl hp))⟩
  exact len_ext h.srt.1 (setSort_nodup _) (fun x hx => setSort_mem.mpr (List.mem_append.mpr (.inl hx))) (by omega) p hp
theorem Mid.fin {ps F : List (Int × Int)} {n : Nat} (hn : inN n ps) (h : Mid ps F) (e : setSort (F ++ compP F) = F) : F = clo n ps := by
  refine srt_ext h.srt (clo_srt n ps) fun p => ?_
  rw [mem_clo hn]
  refine ⟨h.ch p, fun c => ?_⟩
  have tr : ∀ {a b c : Int}, (a, b) ∈ F → (b, c) ∈ F → (a, c) ∈ F := fun {a b c} h1 h2 => by
    rw [← e]
    exact setSort_mem.mpr (List.mem_append.mpr (.inr (mem_compP.mpr ⟨b, h1, h2⟩)))
  obtain ⟨a, b⟩ := p
  simp only at c
  induction c with
  | one z => exact h.sub _ z
  | more z _ ih => exact tr (h.sub _ z) ih
/-- no thing leads to itself -/
def Acyc (ps : List (Int × Int)) : Prop := ∀ a, ¬ Ch ps a a
/-- next pairs lead to all -/
def nextB (n : Nat) (ps : List (Int × Int)) (p : Int × Int) : Bool := (List.range n).all fun c : Nat => !(decide ((p.1, (c : Int)) ∈ ps) && decide (((c : Int), p.2) ∈ ps))
def btw (n : Nat) (ps : List (Int × Int)) (a b : Int) : Nat := (List.range n).countP fun c : Nat => decide ((a, (c : Int)) ∈ ps) && decide (((c : Int), b) ∈ ps)
/-- turned about -/
def swapP (p : Int × Int) : Int × Int := (p.2, p.1)
end Dn

/-! Den27: lengths, list + list, small lists of numbers. -/
namespace Dn
open PySem PySem.Spec L2
open PyProof.Rows hiding St
theorem emod_in (b m : Int) (h : 0 < m) : 0 ≤ b % m ∧ b % m < m := ⟨Int.emod_nonneg b (by omega), Int.emod_lt_of_pos b h⟩
end Dn

/-! Den28: displays of constants, nested, read at once. -/
namespace Dn
open PySem PySem.Spec L2
open PyProof.Rows hiding St
def zipB {α β : Type} (f : α → β → Bool) : List α → List β → Bool
  | [], [] => true
  | a :: l, b :: m => f a b && zipB f l m
  | _, _ => false
def litB : Const → PyData → Bool
  | .none, .none => true
  | .bool a, .bool b => a == b
  | .int a, .int b => decide (a = b)
  | .str a, .str b => a == b
  | _, _ => false
def negB (a : Expr) (d : PyData) : Bool := match a, d with
  | .Constant (.int i) _ _, .int j => decide (j = -i)
  | _, _ => false
def powB (a b : Expr) (d : PyData) : Bool := match a, b, d with
  | .Constant (.int i) _ _, .Constant (.int j) _ _, .int k => (decide (0 ≤ j) && decide (j ≤ 1000000) && decide (i.natAbs < 2 ^ 64)) && decide (k = i ^ j.toNat)
  | _, _, _ => false
def dicB (ks : List (Option Expr)) (vs : List Expr) (d : PyData) : Bool := match ks, vs, d with
  | [some (.Constant (.str x) _ _)], [.Constant (.int i) _ _], .dict [(.str y, .int j)] => x == y && decide (i = j)
  | [], [], .dict [] => true
  | _, _, _ => false
def constB : Nat → Expr → PyData → Bool
  | 0, _, _ => false
  | _ + 1, .Constant c _ _, d => litB c d
  | n + 1, .List es _, .list ds => zipB (constB n) es ds && decide (ds.length ≤ 1000)
  | n + 1, .Tuple es _ _, .tuple ds => zipB (constB n) es ds && decide (ds.length ≤ 1000)
  | _ + 1, .UnaryOp .USub a _, d => negB a d
  | _ + 1, .BinOp a .Pow b _, d => powB a b d
  | _ + 1, .Dict ks vs _, d => dicB ks vs d
  | _, _, _ => false
def dConst (d : PyData) : Den := fun _ ρ => .ok (match d with
  | .list ds => .own ds
  | d => .val d, ρ)
def fsConst (ds : List PyData) : DenOs := fun _ ρ => .ok (ds, ρ)
section
variable {Γ : Ctx}
end
section
variable {Φ : Calls} {ρ : Env} {ds : List PyData} {i : Int} {x : Str}
@[simp] theorem x_const1 : dConst (.list ds) Φ ρ = .ok (.own ds, ρ) := id rfl
@[simp] theorem x_const2 : dConst (.tuple ds) Φ ρ = .ok (.val (.tuple ds), ρ) := id rfl
@[simp] theorem x_const4 {es : List (PyData × PyData)} : dConst (.dict es) Φ ρ = .ok (.val (.dict es), ρ) := id rfl
@[simp] theorem x_const3 : dConst (.int i) Φ ρ = .ok (.val (.int i), ρ) := id rfl
end
end Dn

/-! Den29: a, b = x, y where what is told may be own; a call whose list nobody else has. -/
namespace Dn
open PySem PySem.Spec L2
open PyProof.Rows hiding St
def okS : Slot → Bool
  | .val _ => true
  | .own _ => true
  | .odc _ _ => true
  | _ => false
def dParA (i j : Nat) (r : DenA) : DenS := fun Φ ρ => (r Φ ρ).bind fun y => match y.1 with
  | [(none, s), (none, t)] => guard' (okS s && okS t) (.ok (.nx, (y.2.set i s).set j t))
  | _ => .stuck
/-! ### a list that nobody else has -/
mutual
def noL : PyData → Bool
  | .list _ => false
  | .dict _ => false
  | .tuple ds => noLAll ds
  | _ => true
def noLAll : List PyData → Bool
  | [] => true
  | d :: ds => noL d && noLAll ds
end
def noLS : Slot → Bool
  | .val d => noL d
  | _ => false
/-- the tuples alone -/
def tupH (F : Hp) : Hp := fun a => match F a with
  | some (.frz o (.tup vs)) => some (.frz o (.tup vs))
  | _ => none
theorem tupH_ex (F : Hp) : Ex (tupH F) F := fun a o h => by
  unfold tupH at h
  split at h
  · rename_i e; cases h; exact e
  · cases h
mutual
theorem rp_tup {K : PySem.W.Frag} {F : Hp} : ∀ (d : PyData) (v : V), Rp K F d v → noL d = true → Rp K (tupH F) d v
  | .none, _, h, _ => by cases h; exact .non
  | .bool b, _, h, _ => by cases h; exact .bl b
  | .int i, _, h, _ => by cases h; exact .int i
  | .str x, _, h, _ => by cases h; exact .str x
  | .list ds, _, _, n => by simp [noL] at n
  | .dict es, _, _, n => by simp [noL] at n
  | .tuple ds, _, h, n => by
    cases h with
    | tup h1 h2 h3 => exact .tup (by unfold tupH; rw [h1]) h2 (rp_tupAll ds _ h3 (by simpa [noL] using n))
theorem rp_tupAll {K : PySem.W.Frag} {F : Hp} : ∀ (ds : List PyData) (vs : List V), RpAll K F ds vs → noLAll ds = true → RpAll K (tupH F) ds vs
  | [], _, h, _ => by cases h; exact .nil
  | d :: ds, _, h, n => by
    simp only [noLAll, Bool.and_eq_true] at n
    cases h with
    | cons h1 h2 => exact .cons (rp_tup d _ h1 n.1) (rp_tupAll ds _ h2 n.2)
end
/-- without one object -/
def cutH (F : Hp) (a : Addr) : Hp := fun b => if b = a then none else F b
section
variable {K : PySem.W.Frag} {F : Hp}
mutual
/-- what stands for data stands for no other data -/
theorem Rp.one : ∀ (d e : PyData) (v : V), Rp K F d v → Rp K F e v → sizeOf d = sizeOf e
  | .none, e, _, h, g => by cases h; cases g; rfl
  | .bool b, e, _, h, g => by cases h; cases g; rfl
  | .int i, e, _, h, g => by cases h; cases g; rfl
  | .str x, e, _, h, g => by cases h; cases g; rfl
  | .list ds, e, _, h, g => by
    cases h with
    | lst h1 h2 =>
      cases g with
      | lst g1 g2 => rw [h1] at g1; cases g1; simp [RpAll.one ds _ _ h2 g2]
      | tup g1 _ _ => rw [h1] at g1; cases g1
      | dK g1 _ => rw [h1] at g1; cases g1
      | dT g1 _ => rw [h1] at g1; cases g1
  | .tuple ds, e, _, h, g => by
    cases h with
    | tup h1 h0 h2 =>
      cases g with
      | lst g1 g2 => rw [h1] at g1; cases g1
      | tup g1 _ g2 => rw [h1] at g1; cases g1; simp [RpAll.one ds _ _ h2 g2]
      | dK g1 _ => rw [h1] at g1; cases g1
      | dT g1 _ => rw [h1] at g1; cases g1
  | .dict es, e, _, h, g => by
    cases h with
    | dK h1 h2 =>
      cases g with
      | lst g1 g2 => rw [h1] at g1; cases g1
      | tup g1 _ g2 => rw [h1] at g1; cases g1
      | dK g1 g2 => rw [h1] at g1; cases g1; simp [RpK.one es _ _ h2 g2]
      | dT g1 _ => rw [h1] at g1; cases g1
    | dT h1 h2 =>
      cases g with
      | lst g1 g2 => rw [h1] at g1; cases g1
      | tup g1 _ g2 => rw [h1] at g1; cases g1
      | dK g1 g2 => rw [h1] at g1; cases g1
      | dT g1 g2 => rw [h1] at g1; cases g1; simp [RpK.one es _ _ h2 g2]
theorem RpAll.one : ∀ (ds es : List PyData) (vs : List V), RpAll K F ds vs → RpAll K F es vs → sizeOf ds = sizeOf es
  | [], _, _, h, g => by cases h; cases g; rfl
  | d :: ds, _, _, h, g => by
    cases h with
    | cons h1 h2 =>
      cases g with
      | cons g1 g2 => simp [Rp.one d _ _ h1 g1, RpAll.one ds _ _ h2 g2]
theorem RpK.one : ∀ (ds es : List (PyData × PyData)) (vs : List (Key × V)), RpK K F ds vs → RpK K F es vs → sizeOf ds = sizeOf es
  | [], _, _, h, g => by cases h; cases g; rfl
  | (kd, d) :: ds, _, _, h, g => by
    cases h with
    | cons h1 h2 =>
      cases g with
      | cons g1 g2 => simp [Rp.one d _ _ h1 g1, RpK.one ds _ _ h2 g2]
end
end
section
variable {K : PySem.W.Frag} {F : Hp} {a : Addr} {D : PyData} (hD : Rp K F D (.ref a))
include hD
mutual
theorem rp_cut : ∀ (d : PyData) (v : V), Rp K F d v → sizeOf d < sizeOf D → Rp K (cutH F a) d v
  | .none, _, h, _ => by cases h; exact .non
  | .bool b, _, h, _ => by cases h; exact .bl b
  | .int i, _, h, _ => by cases h; exact .int i
  | .str x, _, h, _ => by cases h; exact .str x
  | .list ds, v, h, s => by
    have h' := h
    cases h with
    | lst h1 h2 =>
      rename_i b _
      have ne : b ≠ a := fun e => by subst e; have := Rp.one _ _ _ h' hD; omega
      exact .lst (by unfold cutH; rw [if_neg ne]; exact h1) (rp_cutAll ds _ h2 (by simp at s; omega))
  | .tuple ds, v, h, s => by
    have h' := h
    cases h with
    | tup h1 h0 h2 =>
      rename_i b _ _
      have ne : b ≠ a := fun e => by subst e; have := Rp.one _ _ _ h' hD; omega
      exact .tup (by unfold cutH; rw [if_neg ne]; exact h1) h0 (rp_cutAll ds _ h2 (by simp at s; omega))
  | .dict es, v, h, s => by
    have h' := h
    cases h with
    | dK h1 h2 =>
      rename_i b _
      have ne : b ≠ a := fun e => by subst e; have := Rp.one _ _ _ h' hD; omega
      exact .dK (by unfold cutH; rw [if_neg ne]; exact h1) (rp_cutK es _ h2 (by simp at s; omega))
    | dT h1 h2 =>
      rename_i b _ _
      have ne : b ≠ a := fun e => by subst e; have := Rp.one _ _ _ h' hD; omega
      exact .dT (by unfold cutH; rw [if_neg ne]; exact h1) (rp_cutK es _ h2 (by simp at s; omega))
theorem rp_cutAll : ∀ (ds : List PyData) (vs : List V), RpAll K F ds vs → sizeOf ds < sizeOf D → RpAll K (cutH F a) ds vs
  | [], _, h, _ => by cases h; exact .nil
  | d :: ds, _, h, s => by
    cases h with
    | cons h1 h2 => exact .cons (rp_cut d _ h1 (by simp at s; omega)) (rp_cutAll ds _ h2 (by simp at s; omega))
theorem rp_cutK : ∀ (ds : List (PyData × PyData)) (vs : List (Key × V)), RpK K F ds vs → sizeOf ds < sizeOf D → RpK K (cutH F a) ds vs
  | [], _, h, _ => by cases h; exact .nil
  | (kd, d) :: ds, _, h, s => by
    cases h with
    | cons h1 h2 => exact .cons (rp_cut d _ h1 (by simp at s; omega)) (rp_cutK ds _ h2 (by simp at s; omega))
end
end
/-- two frozen parts together -/
def bothH (F G : Hp) : Hp := fun a => match F a with
  | some o => some o
  | none => G a
theorem bothH_l (F G : Hp) : Ex F (bothH F G) := fun a o h => by unfold bothH; rw [h]
def dCallT (x : Str) (n : Nat) (as : DenA) : Den := fun Φ ρ => (as Φ ρ).bind fun y => guard' (y.1.length == n && y.1.all fun p => noLS p.2) ((Φ x (y.1.map (·.2))).bind fun r => match r.1 with
  | .val (.list ds) => .ok (.own ds, y.2)
  | .val .none => .ok (.val .none, y.2)
  | .own ds => .ok (.own ds, y.2)
  | _ => .stuck)
section
variable {Φ : Calls} {ρ : Env} {i j : Nat} {r : DenA} {s t : Slot} {ds es : List PyData} {d e : PyData}
def kParA (i j : Nat) : List (Option Nat × Slot) × Env → Out (Fl × Env) := fun y => match y.1 with
  | [(none, s), (none, t)] => guard' (okS s && okS t) (.ok (.nx, (y.2.set i s).set j t))
  | _ => .stuck
@[simp] theorem x_parA : dParA i j r Φ ρ = (r Φ ρ).bind (kParA i j) := id rfl
@[simp] theorem x_parA1 : kParA i j ([(none, s), (none, t)], ρ) = guard' (okS s && okS t) (.ok (.nx, (ρ.set i s).set j t)) := id rfl
@[simp] theorem x_okS1 : okS (.own ds) = true := id rfl
@[simp] theorem x_okS2 : okS (.val d) = true := id rfl
def kCallT2 (ρ : Env) : Slot × List Slot → Out (Slot × Env) := fun r => match r.1 with
  | .val (.list ds) => .ok (.own ds, ρ)
  | .val .none => .ok (.val .none, ρ)
  | .own ds => .ok (.own ds, ρ)
  | _ => .stuck
def kCallT (q : Str) (n : Nat) (Φ : Calls) : List (Option Nat × Slot) × Env → Out (Slot × Env) := fun y => guard' (y.1.length == n && y.1.all fun p => noLS p.2) ((Φ q (y.1.map (·.2))).bind (kCallT2 y.2))
variable {q : Str} {n : Nat} {la : List (Option Nat × Slot)} {ss : List Slot}
@[simp] theorem x_callT : dCallT q n r Φ ρ = (r Φ ρ).bind (kCallT q n Φ) := id rfl
@[simp] theorem x_callT1 : kCallT q n Φ (la, ρ) = guard' (la.length == n && la.all fun p => noLS p.2) ((Φ q (la.map (·.2))).bind (kCallT2 ρ)) := id rfl
@[simp] theorem x_callT2 : kCallT2 ρ (.val (.list ds), ss) = .ok (.own ds, ρ) := id rfl
@[simp] theorem x_callT4 : kCallT2 ρ (.val .none, ss) = .ok (.val .none, ρ) := id rfl
@[simp] theorem x_callT3 : kCallT2 ρ (.own ds, ss) = .ok (.own ds, ρ) := id rfl
@[simp] theorem x_noLS : noLS (.val d) = noL d := id rfl
@[simp] theorem x_noLi {k : Int} : noL (.int k) = true := by simp [noL]
theorem noL_ps : ∀ ps : List (Int × Int), noLAll (psD ps) = true
  | [] => by simp [noLAll]
  | p :: ps => by
    have := noL_ps ps
    simp only [List.map_cons, noLAll, prD, noL, this]
    simp
@[simp] theorem x_noLo {m : Int} {ps : List (Int × Int)} : noL (ordD m ps) = true := by
  have := noL_ps ps
  simp [ordD, noL, noLAll, this]
end
def gD (xs : List Int) (k : Nat) : Int := (xs[k]?).getD 0
end Dn

/-! Den30: an expression that only looks at an own list. -/
namespace Dn
open PySem PySem.Spec L2
open PyProof.Rows hiding St
def veil (s : Slot) : Slot := if s.isOwn then .un else s
def hideE (ρ : Env) (i : Nat) (ds : List PyData) : Env := (ρ.map veil).set i (.val (.list ds))
def dSeal (i : Nat) (d : Den) : Den := fun Φ ρ => match ρ[i]? with
  | some (.own ds) => (noX (d Φ (hideE ρ i ds))).bind fun r => match r.1 with
    | .val x => guard' (noL x) (.ok (.val x, ρ))
    | _ => .stuck
  | _ => d Φ ρ
section
variable {Φ : Calls} {ρ : Env} {i : Nat} {d : Den} {ds : List PyData} {x : PyData}
def kSeal (ρ : Env) : Slot × Env → Out (Slot × Env) := fun r => match r.1 with
  | .val x => guard' (noL x) (.ok (.val x, ρ))
  | _ => .stuck
def sealG (o : Option Slot) (i : Nat) (d : Den) (Φ : Calls) (ρ : Env) : Out (Slot × Env) := match o with
  | some (.own ds) => (noX (d Φ (hideE ρ i ds))).bind (kSeal ρ)
  | _ => d Φ ρ
@[simp] theorem x_seal : dSeal i d Φ ρ = sealG (ρ[i]?) i d Φ ρ := id rfl
@[simp] theorem x_seal1 : sealG (some (.own ds)) i d Φ ρ = (noX (d Φ (hideE ρ i ds))).bind (kSeal ρ) := id rfl
@[simp] theorem x_seal2 : sealG (some (.val x)) i d Φ ρ = d Φ ρ := id rfl
@[simp] theorem x_seal3 {ρ' : Env} : kSeal ρ (.val x, ρ') = guard' (noL x) (.ok (.val x, ρ)) := id rfl
@[simp] theorem x_hide : hideE ρ i ds = (ρ.map veil).set i (.val (.list ds)) := id rfl
@[simp] theorem x_veil1 : veil (.own ds) = .un := id rfl
@[simp] theorem x_veil2 : veil (.val x) = .val x := id rfl
@[simp] theorem x_veil3 : veil .un = .un := id rfl
@[simp] theorem x_veil4 {ns : List Int} : veil (.scr ns) = .scr ns := id rfl
@[simp] theorem x_noLb {b : Bool} : noL (.bool b) = true := by simp [noL]
end
end Dn

/-! Den31: enumerate of a list or a tuple. -/
namespace Dn
open PySem PySem.Spec L2
open PyProof.Rows hiding St
section
variable {prog : Program} {w : World} {A : Around} {E : Value → Shared → Prop} {s : Shared}
end
/-- the tuple at a as it stands at each turn, each item in a new pair -/
def IteT (K : PySem.W.Frag) (a : Addr) : It :=
  ⟨fun i H => ∃ (xs : List V) (x : V), SqT K H a xs ∧ xs[i]? = some x, fun i H v H' => ∃ T x, v = .ref T ∧ H T = none ∧ H' = upd H T (.tup [.int (i : Nat), x]) ∧ ∀ xs, SqT K H a xs → xs[i]? = some x, fun i H => ∃ xs : List V, SqT K H a xs ∧ xs.length ≤ i⟩
def iEnumAny (K : PySem.W.Frag) (ta : TA) : TI := fun σ H R => ta σ H fun vs H1 => ∃ a xs, vs = [.ref a] ∧ ((SqL K H1 a xs ∧ R (Ite K a) H1) ∨ (SqT K H1 a xs ∧ R (IteT K a) H1))
def iEnumA (d : Den) : DenI := fun Φ ρ => (oOf d Φ ρ).bind fun r => match r.1 with
  | .list ds => .ok (pairUp (rngD 0 ds.length) ds, r.2)
  | .tuple ds => .ok (pairUp (rngD 0 ds.length) ds, r.2)
  | _ => .stuck
section
variable {Γ : Ctx} {e : Expr} {d : Den} {p : Bool} {fpos pos tpos : Pos} {elts : List Expr} {kk : Nat}
end
def kEnA : PyData × Env → Out (List PyData × Env) := fun r => match r.1 with
  | .list ds => .ok (pairUp (rngD 0 ds.length) ds, r.2)
  | .tuple ds => .ok (pairUp (rngD 0 ds.length) ds, r.2)
  | _ => .stuck
section
variable {a : Den} {Φ : Calls} {ρ : Env} {ds : List PyData}
@[simp] theorem x_iEnumA : iEnumA a Φ ρ = (oOf a Φ ρ).bind kEnA := id rfl
@[simp] theorem x_iEnumA1 : kEnA (.list ds, ρ) = .ok (pairUp (rngD 0 ds.length) ds, ρ) := id rfl
@[simp] theorem x_iEnumA2 : kEnA (.tuple ds, ρ) = .ok (pairUp (rngD 0 ds.length) ds, ρ) := id rfl
end
end Dn

/-! Den32: data that repr can show, told by its parts; members of displays and slices. -/
namespace Dn
open PySem PySem.Spec L2
open PyProof.Rows hiding St
/-- fl: no list within; else no dict -/
structure Sm (fl : Bool) (k w : Nat) (d : PyData) : Prop where
  dep : d.depth ≤ k
  rd : rdB d = true
  fd : (if fl then flatB d else !d.hasDict) = true
  sh : d.showable = true
  wt : wt d ≤ w
def smB (fl : Bool) (k w : Nat) (d : PyData) : Bool := decide (d.depth ≤ k) && (rdB d && ((if fl then flatB d else !d.hasDict) && (d.showable && decide (wt d ≤ w))))
theorem Sm.mono {fl : Bool} {k w k' w' : Nat} {d : PyData} (h : Sm fl k w d) (h1 : k ≤ k') (h2 : w ≤ w') : Sm fl k' w' d := ⟨Nat.le_trans h.dep h1, h.rd, h.fd, h.sh, Nat.le_trans h.wt h2⟩
theorem Sm.repr {fl : Bool} {k w : Nat} {d : PyData} (h : Sm fl k w d) (h1 : k ≤ 64) (h2 : w ≤ 16000000) : reprOk d = true := reprOk_rd (Nat.le_trans h.dep h1) h.rd h.sh (Nat.le_trans h.wt h2)
theorem sm_all {fl : Bool} {k w : Nat} : ∀ ds : List PyData, (∀ d ∈ ds, Sm fl k w d) → PyData.depthAll ds ≤ k ∧ rdAll ds = true ∧ (if fl then flatAll ds else !PyData.hasDictAll ds) = true ∧ PyData.showableAll ds = true ∧ wtAll ds ≤ (w + 2) * ds.length
  | [], _ => ⟨by simp [PyData.depthAll], by simp [rdAll], by cases fl <;> simp [flatAll, PyData.hasDictAll], by simp [PyData.showableAll], by simp [wtAll]⟩
  | d :: ds, h => by
    obtain ⟨a1, a2, a3, a4, a5⟩ := sm_all ds fun x hx => h x (List.mem_cons_of_mem _ hx)
    have b := h d List.mem_cons_self
    refine ⟨?_, ?_, ?_, ?_, ?_⟩
    · unfold PyData.depthAll
      exact Nat.max_le.mpr ⟨b.dep, a1⟩
    · unfold rdAll
      rw [b.rd, a2]
      rfl
    · have := b.fd
      cases fl with
      | true =>
        rw [if_pos rfl] at this a3 ⊢
        unfold flatAll
        rw [this, a3]
        rfl
      | false =>
        rw [if_neg (by decide)] at this a3 ⊢
        unfold PyData.hasDictAll
        rw [Bool.not_or, this, a3]
        rfl
    · unfold PyData.showableAll
      rw [b.sh, a4]
      rfl
    · unfold wtAll
      have := b.wt
      rw [List.length_cons, Nat.mul_succ]
      omega
theorem Sm.tup {fl : Bool} {k w : Nat} {ds : List PyData} (h : ∀ d ∈ ds, Sm fl k w d) {k' w' : Nat} (h1 : k + 1 ≤ k') (h2 : (w + 2) * ds.length + 10 ≤ w') : Sm fl k' w' (.tuple ds) := by
  obtain ⟨a1, a2, a3, a4, a5⟩ := sm_all ds h
  refine ⟨by unfold PyData.depth; omega, by unfold rdB; exact a2, ?_, by unfold PyData.showable; exact a4, by unfold Dn.wt; omega⟩
  cases fl with
  | true => rw [if_pos rfl] at a3 ⊢; unfold flatB; exact a3
  | false => rw [if_neg (by decide)] at a3 ⊢; unfold PyData.hasDict; exact a3
theorem Sm.lst {k w : Nat} {ds : List PyData} (h : ∀ d ∈ ds, Sm false k w d) {k' w' : Nat} (h1 : k + 1 ≤ k') (h2 : (w + 2) * ds.length + 10 ≤ w') : Sm false k' w' (.list ds) := by
  obtain ⟨a1, a2, a3, a4, a5⟩ := sm_all ds h
  refine ⟨by unfold PyData.depth; omega, by unfold rdB; exact a2, ?_, by unfold PyData.showable; exact a4, by unfold Dn.wt; omega⟩
  rw [if_neg (by decide)] at a3 ⊢
  unfold PyData.hasDict
  exact a3
set_option exponentiation.threshold 3000 in
theorem Sm.int {fl : Bool} {n : Int} {k w : Nat} (h : n.natAbs < 2 ^ 100) (hw : 2000 ≤ w) : Sm fl k w (.int n) := by
  have : n.natAbs.log2 < 1920 := PySem.Flt.log2_lt_of (k := 1920) (by decide) (Nat.lt_of_lt_of_le h (Nat.pow_le_pow_right (by decide) (by decide)))
  refine ⟨by simp [PyData.depth], by simp [rdB], by cases fl <;> simp [flatB, PyData.hasDict], by simpa [PyData.showable] using this, by simpa [Dn.wt] using hw⟩
theorem Sm.str {fl : Bool} {x : Str} {k w : Nat} (h : (reprText x).length ≤ w) : Sm fl k w (.str x) := ⟨by simp [PyData.depth], by simp [rdB], by cases fl <;> simp [flatB, PyData.hasDict], by simp [PyData.showable], by simpa [Dn.wt] using h⟩
theorem Sm.non {fl : Bool} {k w : Nat} (h : 10 ≤ w) : Sm fl k w .none := ⟨by simp [PyData.depth], by simp [rdB], by cases fl <;> simp [flatB, PyData.hasDict], by simp [PyData.showable], by simpa [Dn.wt] using h⟩
theorem Sm.bool {fl b : Bool} {k w : Nat} (h : 10 ≤ w) : Sm fl k w (.bool b) := ⟨by simp [PyData.depth], by simp [rdB], by cases fl <;> simp [flatB, PyData.hasDict], by simp [PyData.showable], by simpa [Dn.wt] using h⟩
end Dn

/-! Den33: data that repr can show, whatever it holds. -/
namespace Dn
open PySem PySem.Spec L2
open PyProof.Rows hiding St
/-- data that repr can show -/
structure Sn (k w : Nat) (d : PyData) : Prop where
  dep : d.depth ≤ k
  rd : rdB d = true
  sh : d.showable = true
  wt : wt d ≤ w
def snB (k w : Nat) (d : PyData) : Bool := decide (d.depth ≤ k) && (rdB d && (d.showable && decide (wt d ≤ w)))
theorem Sn.mono {k w k' w' : Nat} {d : PyData} (h : Sn k w d) (h1 : k ≤ k') (h2 : w ≤ w') : Sn k' w' d := ⟨Nat.le_trans h.dep h1, h.rd, h.sh, Nat.le_trans h.wt h2⟩
theorem Sn.repr {k w : Nat} {d : PyData} (h : Sn k w d) (h1 : k ≤ 64) (h2 : w ≤ 16000000) : reprOk d = true := reprOk_rd (Nat.le_trans h.dep h1) h.rd h.sh (Nat.le_trans h.wt h2)
theorem sn_all {k w : Nat} : ∀ ds : List PyData, (∀ d ∈ ds, Sn k w d) → PyData.depthAll ds ≤ k ∧ rdAll ds = true ∧ PyData.showableAll ds = true ∧ wtAll ds ≤ (w + 2) * ds.length
  | [], _ => ⟨by simp [PyData.depthAll], by simp [rdAll], by simp [PyData.showableAll], by simp [wtAll]⟩
  | d :: ds, h => by
    obtain ⟨a1, a2, a4, a5⟩ := sn_all ds fun x hx => h x (List.mem_cons_of_mem _ hx)
    have b := h d List.mem_cons_self
    refine ⟨?_, ?_, ?_, ?_⟩
    · unfold PyData.depthAll
      exact Nat.max_le.mpr ⟨b.dep, a1⟩
    · unfold rdAll
      rw [b.rd, a2]
      rfl
    · unfold PyData.showableAll
      rw [b.sh, a4]
      rfl
    · unfold wtAll
      have := b.wt
      rw [List.length_cons, Nat.mul_succ]
      omega
theorem Sn.tup {k w : Nat} {ds : List PyData} (h : ∀ d ∈ ds, Sn k w d) {k' w' : Nat} (h1 : k + 1 ≤ k') (h2 : (w + 2) * ds.length + 10 ≤ w') : Sn k' w' (.tuple ds) := by
  obtain ⟨a1, a2, a4, a5⟩ := sn_all ds h
  exact ⟨by unfold PyData.depth; omega, by unfold rdB; exact a2, by unfold PyData.showable; exact a4, by unfold Dn.wt; omega⟩
theorem Sn.lst {k w : Nat} {ds : List PyData} (h : ∀ d ∈ ds, Sn k w d) {k' w' : Nat} (h1 : k + 1 ≤ k') (h2 : (w + 2) * ds.length + 10 ≤ w') : Sn k' w' (.list ds) := by
  obtain ⟨a1, a2, a4, a5⟩ := sn_all ds h
  exact ⟨by unfold PyData.depth; omega, by unfold rdB; exact a2, by unfold PyData.showable; exact a4, by unfold Dn.wt; omega⟩
set_option exponentiation.threshold 3000 in
theorem Sn.int {n : Int} {k w : Nat} (h : n.natAbs < 2 ^ 100) (hw : 2000 ≤ w) : Sn k w (.int n) := by
  have : n.natAbs.log2 < 1920 := PySem.Flt.log2_lt_of (k := 1920) (by decide) (Nat.lt_of_lt_of_le h (Nat.pow_le_pow_right (by decide) (by decide)))
  refine ⟨by simp [PyData.depth], by simp [rdB], by simpa [PyData.showable] using this, by simpa [Dn.wt] using hw⟩
theorem Sn.str {x : Str} {k w : Nat} (h : (reprText x).length ≤ w) : Sn k w (.str x) := ⟨by simp [PyData.depth], by simp [rdB], by simp [PyData.showable], by simpa [Dn.wt] using h⟩
theorem Sn.non {k w : Nat} (h : 10 ≤ w) : Sn k w .none := ⟨by simp [PyData.depth], by simp [rdB], by simp [PyData.showable], by simpa [Dn.wt] using h⟩
theorem Sn.bool {b : Bool} {k w : Nat} (h : 10 ≤ w) : Sn k w (.bool b) := ⟨by simp [PyData.depth], by simp [rdB], by simp [PyData.showable], by simpa [Dn.wt] using h⟩
end Dn

/-! Den34: x[::-1] of a list or a tuple. -/
namespace Dn
open PySem PySem.Spec L2
open PyProof.Rows hiding St
section
variable {prog : Program} {w : World} {A : Around} {E : Value → Shared → Prop} {s : Shared}
end
def tRevA (K : PySem.W.Frag) (te : TE) : TE := fun σ H Q => te σ H fun x H1 => ∃ a xs, x = .ref a ∧ ((SqL K H1 a xs ∧ ∀ p, H1 p = none → Q (.ref p) (upd H1 p (.lst xs.reverse))) ∨ (SqT K H1 a xs ∧ ∀ p o, H1 p = none → o.dict = none → Q (.ref p) (upd H1 p (.frz o (.tup xs.reverse)))))
def pRev : PyData → Option Slot
  | .list ds => some (.own ds.reverse)
  | .tuple ds => some (.val (.tuple ds.reverse))
  | _ => none
def dRevS (x : DenO) : Den := fun Φ ρ => (x Φ ρ).bind fun y => (opt (pRev y.1)).bind fun s => .ok (s, y.2)
section
variable {Γ : Ctx} {a : Expr} {x : DenO} {p m : Bool} {k : Nat} {p1 p2 p3 pos : Pos}
end
def kRv (ρ : Env) : Option Slot → Out (Slot × Env) := fun o => (opt o).bind fun s => .ok (s, ρ)
def kRev : PyData × Env → Out (Slot × Env) := fun y => kRv y.2 (pRev y.1)
section
variable {x : DenO} {Φ : Calls} {ρ : Env} {ds : List PyData}
@[simp] theorem x_dRevS : dRevS x Φ ρ = (x Φ ρ).bind kRev := id rfl
@[simp] theorem x_dRevS1 : kRev (.list ds, ρ) = .ok (.own ds.reverse, ρ) := id rfl
@[simp] theorem x_dRevS2 : kRev (.tuple ds, ρ) = .ok (.val (.tuple ds.reverse), ρ) := id rfl
end
end Dn

/-! Den35: own dicts (keys whole numbers and texts, or tuples of whole numbers): made, read, stored, walked. -/
namespace Dn
open PySem PySem.Spec L2
open PyProof.Rows hiding St

/-! ### tables as data -/
mutual
/-- whole numbers and tuples of such as a key -/
def nkD : PyData → Option NestedKey
  | .int i => some (.num i)
  | .tuple ds => (nkAll ds).map .tup
  | _ => none
def nkAll : List PyData → Option (List NestedKey)
  | [] => some []
  | d :: ds => match nkD d, nkAll ds with
    | some k, some ks => some (k :: ks)
    | _, _ => none
end
mutual
theorem nkD_of : ∀ {d : PyData} {k : NestedKey}, nkD d = some k → d = k.data ∧ numN k = true
  | .int i, k, h => by
    rw [nkD] at h
    cases h
    exact ⟨by rw [NestedKey.data], by rw [numN]⟩
  | .tuple ds, k, h => by
    rw [nkD] at h
    obtain ⟨ks, h1, rfl⟩ := Option.map_eq_some_iff.mp h
    obtain ⟨e1, e2⟩ := nkAll_of h1
    exact ⟨by rw [NestedKey.data, ← e1], by rw [numN]; exact e2⟩
  | .none, _, h => by simp [nkD] at h
  | .bool _, _, h => by simp [nkD] at h
  | .str _, _, h => by simp [nkD] at h
  | .list _, _, h => by simp [nkD] at h
  | .dict _, _, h => by simp [nkD] at h
theorem nkAll_of : ∀ {ds : List PyData} {ks : List NestedKey}, nkAll ds = some ks → ds = NestedKey.datas ks ∧ numNs ks = true
  | [], ks, h => by
    rw [nkAll] at h
    cases h
    exact ⟨by rw [NestedKey.datas], by rw [numNs]⟩
  | d :: ds, ks, h => by
    rw [nkAll] at h
    cases e1 : nkD d with
    | none => simp [e1] at h
    | some k =>
      cases e2 : nkAll ds with
      | none => simp [e1, e2] at h
      | some kk =>
        simp only [e1, e2] at h
        cases h
        obtain ⟨a1, a2⟩ := nkD_of e1
        obtain ⟨b1, b2⟩ := nkAll_of e2
        exact ⟨by rw [NestedKey.datas, ← a1, ← b1], by rw [numNs, a2, b2]; rfl⟩
end
mutual
theorem nkD_data : ∀ {k : NestedKey}, numN k = true → nkD k.data = some k
  | .num i, _ => by rw [NestedKey.data, nkD]
  | .tup ks, h => by
    rw [numN] at h
    rw [NestedKey.data, nkD, nkAll_data h]
    rfl
  | .none, h => by simp [numN] at h
  | .text _, h => by simp [numN] at h
theorem nkAll_data : ∀ {ks : List NestedKey}, numNs ks = true → nkAll (NestedKey.datas ks) = some ks
  | [], _ => by rw [NestedKey.datas, nkAll]
  | k :: ks, h => by
    rw [numNs, Bool.and_eq_true] at h
    rw [NestedKey.datas, nkAll, nkD_data h.1, nkAll_data h.2]
end
def intsN (ks : List Int) : NestedKey := .tup (ks.map .num)
def kEq : PyData → PyData → Bool
  | .int i, .int j => decide (i = j)
  | .str a, .str b => decide (a = b)
  | .tuple as, .tuple bs => match nkAll as, nkAll bs with
    | some x, some y => decide (x = y)
    | _, _ => false
  | _, _ => false
def lookD (es : List (PyData × PyData)) (k : PyData) : Option PyData := (es.find? fun e => kEq e.1 k).map (·.2)
def putD (es : List (PyData × PyData)) (k v : PyData) : List (PyData × PyData) := if (lookD es k).isSome = true then es.map (fun e => if kEq e.1 k = true then (e.1, v) else e) else es ++ [(k, v)]
def keyK : PyData → Option Key
  | .int i => some (.inl i)
  | .str s => some (.inr s)
  | _ => none
def keyT : PyData → Option NestedKey
  | .tuple ds => (nkAll ds).bind fun ks => if decide ((NestedKey.tup ks).depth ≤ 8) = true then some (.tup ks) else none
  | _ => none
theorem keyK_of {d : PyData} {k : Key} (h : keyK d = some k) : d = keyD k := by
  cases d <;> first | (cases h; rfl) | cases h
theorem keyT_of {d : PyData} {k : NestedKey} (h : keyT d = some k) : d = k.data ∧ okN k = true := by
  cases d with
  | tuple ds =>
    obtain ⟨ks, h1, h2⟩ := Option.bind_eq_some_iff.mp (show (nkAll ds).bind _ = some k from h)
    by_cases c : decide ((NestedKey.tup ks).depth ≤ 8) = true
    · rw [if_pos c] at h2
      cases h2
      obtain ⟨e1, e2⟩ := nkAll_of h1
      refine ⟨by rw [NestedKey.data, ← e1], ?_⟩
      unfold okN
      rw [c, numN, e2]
      rfl
    · rw [if_neg c] at h2
      cases h2
  | _ => cases h
theorem keyT_tup {d : PyData} {k : NestedKey} (h : keyT d = some k) : ∃ ks, k = .tup ks := by
  cases d with
  | tuple ds =>
    obtain ⟨ks, h1, h2⟩ := Option.bind_eq_some_iff.mp (show (nkAll ds).bind _ = some k from h)
    by_cases c : decide ((NestedKey.tup ks).depth ≤ 8) = true
    · rw [if_pos c] at h2
      cases h2
      exact ⟨ks, rfl⟩
    · rw [if_neg c] at h2
      cases h2
  | _ => cases h
theorem keyT_data {k : NestedKey} (h : okN k = true) (t : ∃ ks, k = .tup ks) : keyT k.data = some k := by
  obtain ⟨ks, rfl⟩ := t
  unfold okN at h
  rw [Bool.and_eq_true, numN] at h
  rw [NestedKey.data]
  show (nkAll (NestedKey.datas ks)).bind _ = _
  rw [nkAll_data h.1]
  show (if _ then _ else _) = _
  rw [if_pos h.2]
theorem kEq_K (a b : Key) : kEq (keyD a) (keyD b) = decide (a = b) := by
  cases a <;> cases b <;> simp [kEq, keyD]
theorem okN_num {k : NestedKey} (h : okN k = true) : numN k = true := by
  unfold okN at h
  rw [Bool.and_eq_true] at h
  exact h.1
theorem kEq_N {a b : NestedKey} (ha : numN a = true) (hb : numN b = true) (ta : ∃ ks, a = .tup ks) (tb : ∃ ks, b = .tup ks) : kEq a.data b.data = decide (a = b) := by
  obtain ⟨x, rfl⟩ := ta
  obtain ⟨y, rfl⟩ := tb
  rw [numN] at ha hb
  rw [NestedKey.data, NestedKey.data]
  show (match nkAll (NestedKey.datas x), nkAll (NestedKey.datas y) with
    | some x, some y => decide (x = y)
    | _, _ => false) = _
  rw [nkAll_data ha, nkAll_data hb]
  exact decide_eq_decide.mpr ⟨fun z => by rw [z], fun z => NestedKey.tup.inj z⟩
/-- what is found stands for what is found -/
def LookR (K : PySem.W.Frag) (F : Hp) : Option PyData → Option V → Prop
  | none, none => True
  | some d, some v => Rp K F d v
  | _, _ => False
def valI (kvs : List (NestedKey × Addr × V)) (k : NestedKey) : Option V := (kvs.find? fun x => decide (x.1 = k)).map (·.2.2)
def putI (kvs : List (NestedKey × Addr × V)) (k : NestedKey) (b : Addr) (v : V) : List (NestedKey × Addr × V) := if (valI kvs k).isSome = true then kvs.map (fun x => if x.1 = k then (x.1, x.2.1, v) else x) else kvs ++ [(k, b, v)]
section
variable {K : PySem.W.Frag} {F H : Hp}
theorem LookR.some_eq {o : Option PyData} {r : Option V} (h : LookR K F o r) : o.isSome = r.isSome := by
  cases o <;> cases r <;> first | rfl | exact h.elim
theorem look_K : ∀ {es : List (PyData × PyData)} {kvs : List (Key × V)} (k : Key), RpK K F es kvs → LookR K F (lookD es (keyD k)) (valV kvs k)
  | _, _, _, .nil => trivial
  | _, _, k, .cons (k := j) (v := v) (vs := vs) (d := d) (ds := ds) h1 h2 => by
    have e := kEq_K j k
    by_cases c : j = k
    · subst c
      have l : lookD ((keyD j, d) :: ds) (keyD j) = some d := by simp [lookD, List.find?_cons, e]
      rw [l, valV_pos (p := (j, v)) rfl]
      exact h1
    · have l : lookD ((keyD j, d) :: ds) (keyD k) = lookD ds (keyD k) := by simp [lookD, List.find?_cons, e, c]
      rw [l, valV_neg (p := (j, v)) c]
      exact look_K k h2
theorem map_K {k : Key} {d : PyData} {v : V} (r : Rp K F d v) : ∀ {es : List (PyData × PyData)} {kvs : List (Key × V)}, RpK K F es kvs → RpK K F (es.map fun e => if kEq e.1 (keyD k) = true then (e.1, d) else e) (kvs.map fun kv => if kv.1 = k then (kv.1, v) else kv)
  | _, _, .nil => .nil
  | _, _, .cons (k := j) h1 h2 => by
    rw [List.map_cons, List.map_cons]
    have e := kEq_K j k
    by_cases c : j = k
    · subst c
      simp only [e, decide_true, if_true]
      exact .cons r (map_K r h2)
    · simp only [e, c, decide_false, if_false, Bool.false_eq_true]
      exact .cons h1 (map_K r h2)
theorem snoc_K {k : Key} {d : PyData} {v : V} (r : Rp K F d v) : ∀ {es : List (PyData × PyData)} {kvs : List (Key × V)}, RpK K F es kvs → RpK K F (es ++ [(keyD k, d)]) (kvs ++ [(k, v)])
  | _, _, .nil => .cons r .nil
  | _, _, .cons h1 h2 => .cons h1 (snoc_K r h2)
theorem put_K {es : List (PyData × PyData)} {kvs : List (Key × V)} {k : Key} {d : PyData} {v : V} (r : Rp K F d v) (h : RpK K F es kvs) : RpK K F (putD es (keyD k) d) (putK kvs k v) := by
  unfold putD putK
  rw [(look_K k h).some_eq, valV_any]
  by_cases c : (valV kvs k).isSome = true
  · rw [if_pos c, if_pos c]
    exact map_K r h
  · rw [if_neg c, if_neg c]
    exact snoc_K r h
theorem tup_of {k : NestedKey} {b : Addr} (ok : okN k = true) (r : Rp K F k.data (.ref b)) : ∃ ks, k = .tup ks := by
  cases k with
  | tup ks => exact ⟨ks, rfl⟩
  | num i => rw [NestedKey.data] at r; cases r
  | none => rw [NestedKey.data] at r; cases r
  | text x => rw [NestedKey.data] at r; cases r
theorem look_T : ∀ {es : List (PyData × PyData)} {kvs : List (NestedKey × Addr × V)} (k : NestedKey), okN k = true → (∃ ks, k = .tup ks) → RpI K F es kvs → LookR K F (lookD es k.data) (valI kvs k)
  | _, _, _, _, _, .nil => trivial
  | _, _, k, ok, tk, .cons (k := j) (b := b) (v := v) (vs := vs) (d := d) (ds := ds) oj h0 h1 h2 => by
    have e := kEq_N (okN_num oj) (okN_num ok) (tup_of oj h0) tk
    by_cases c : j = k
    · subst c
      have l : lookD ((j.data, d) :: ds) j.data = some d := by simp only [lookD, List.find?_cons, e, decide_true, Option.map_some]
      have l2 : valI ((j, b, v) :: vs) j = some v := by simp only [valI, List.find?_cons, decide_true, Option.map_some]
      rw [l, l2]
      exact h1
    · have l : lookD ((j.data, d) :: ds) k.data = lookD ds k.data := by simp only [lookD, List.find?_cons, e, c, decide_false]
      have l2 : valI ((j, b, v) :: vs) k = valI vs k := by simp only [valI, List.find?_cons, c, decide_false]
      rw [l, l2]
      exact look_T k ok tk h2
theorem map_T {k : NestedKey} {d : PyData} {v : V} (ok : okN k = true) (tk : ∃ ks, k = .tup ks) (r : Rp K F d v) : ∀ {es : List (PyData × PyData)} {kvs : List (NestedKey × Addr × V)}, RpI K F es kvs → RpI K F (es.map fun e => if kEq e.1 k.data = true then (e.1, d) else e) (kvs.map fun x => if x.1 = k then (x.1, x.2.1, v) else x)
  | _, _, .nil => .nil
  | _, _, .cons (k := j) oj h0 h1 h2 => by
    rw [List.map_cons, List.map_cons]
    have e := kEq_N (okN_num oj) (okN_num ok) (tup_of oj h0) tk
    by_cases c : j = k
    · subst c
      simp only [e, decide_true, if_true]
      exact .cons oj h0 r (map_T ok tk r h2)
    · simp only [e, c, decide_false, if_false, Bool.false_eq_true]
      exact .cons oj h0 h1 (map_T ok tk r h2)
theorem snoc_T {k : NestedKey} {b : Addr} {d : PyData} {v : V} (ok : okN k = true) (r0 : Rp K F k.data (.ref b)) (r : Rp K F d v) : ∀ {es : List (PyData × PyData)} {kvs : List (NestedKey × Addr × V)}, RpI K F es kvs → RpI K F (es ++ [(k.data, d)]) (kvs ++ [(k, b, v)])
  | _, _, .nil => .cons ok r0 r .nil
  | _, _, .cons oj h0 h1 h2 => .cons oj h0 h1 (snoc_T ok r0 r h2)
theorem put_T {es : List (PyData × PyData)} {kvs : List (NestedKey × Addr × V)} {k : NestedKey} {b : Addr} {d : PyData} {v : V} (ok : okN k = true) (r0 : Rp K F k.data (.ref b)) (r : Rp K F d v) (h : RpI K F es kvs) : RpI K F (putD es k.data d) (putI kvs k b v) := by
  have tk := tup_of ok r0
  unfold putD putI
  rw [(look_T k ok tk h).some_eq]
  by_cases c : (valI kvs k).isSome = true
  · rw [if_pos c, if_pos c]
    exact map_T ok tk r h
  · rw [if_neg c, if_neg c]
    exact snoc_T ok r0 r h
theorem putI_len (kvs : List (NestedKey × Addr × V)) (k : NestedKey) (b : Addr) (v : V) : (putI kvs k b v).length ≤ kvs.length + 1 := by
  unfold putI
  split
  · rw [List.length_map]; omega
  · rw [List.length_append, List.length_cons, List.length_nil]; omega
theorem rpK_len : ∀ {es : List (PyData × PyData)} {kvs : List (Key × V)}, RpK K F es kvs → es.length = kvs.length
  | _, _, .nil => rfl
  | _, _, .cons _ h2 => congrArg Nat.succ (rpK_len h2)
theorem rpI_len : ∀ {es : List (PyData × PyData)} {kvs : List (NestedKey × Addr × V)}, RpI K F es kvs → es.length = kvs.length
  | _, _, .nil => rfl
  | _, _, .cons _ _ _ h2 => congrArg Nat.succ (rpI_len h2)
end

/-! ### the object behind -/
abbrev PtI : List (NestedKey × Addr × V) → List (NestedKey × Addr × Value) → Prop := Paired fun (p : NestedKey × Addr × V) (q : NestedKey × Addr × Value) => p.1 = q.1 ∧ p.2.1 = q.2.1 ∧ RelV p.2.2 q.2.2
theorem PtI.look {kvs : List (NestedKey × Addr × V)} {xs : List (NestedKey × Addr × Value)} (r : PtI kvs xs) (k : NestedKey) : RelO (valI kvs k) ((atKey xs k).map (·.2)) := by
  induction r with
  | nil => exact trivial
  | @cons p q ps qs h t ih =>
    obtain ⟨h1, _, h2⟩ := h
    by_cases c : p.1 = k
    · have l2 : valI (p :: ps) k = some p.2.2 := by simp only [valI, List.find?_cons, c, decide_true, Option.map_some]
      have c' : q.1 = k := h1.symm.trans c
      have l3 : atKey (q :: qs) k = some q.2 := by simp only [atKey, List.find?_cons, c', decide_true, Option.map_some]
      rw [l2, l3]
      exact h2
    · have l2 : valI (p :: ps) k = valI ps k := by simp only [valI, List.find?_cons, c, decide_false]
      have c' : ¬ q.1 = k := fun z => c (h1.trans z)
      have l3 : atKey (q :: qs) k = atKey qs k := by simp only [atKey, List.find?_cons, c', decide_false]
      rw [l2, l3]
      exact ih
theorem PtI.put {kvs : List (NestedKey × Addr × V)} {xs : List (NestedKey × Addr × Value)} (r : PtI kvs xs) (k : NestedKey) {b : Addr} {v : V} {u : Value} (rv : RelV v u) : PtI (putI kvs k b v) (storedH xs k b u) := by
  have e : (valI kvs k).isSome = (atKey xs k).isSome := by rw [(r.look k).isSome_eq, Option.isSome_map]
  unfold putI storedH
  rw [e]
  by_cases c : (atKey xs k).isSome = true
  · rw [if_pos c, if_pos c]
    clear e c
    induction r with
    | nil => exact .nil
    | @cons p q ps qs h t ih =>
      rw [List.map_cons, List.map_cons]
      refine .cons ?_ ih
      obtain ⟨h1, h2, h3⟩ := h
      unfold putAt
      by_cases c : p.1 = k
      · rw [if_pos c, if_pos (h1.symm.trans c)]
        exact ⟨h1, h2, rv⟩
      · rw [if_neg c, if_neg fun z => c (h1.trans z)]
        exact ⟨h1, h2, h3⟩
  · rw [if_neg c, if_neg c]
    exact Paired.snoc r ⟨rfl, rfl, rv⟩
section
variable {X : Cx} {pins : List (Addr × Obj)} {σ : St} {H : Hp} {s : Shared} {a b c : Addr} {kvs : List (NestedKey × Addr × V)} {es : List (PyData × PyData)} {k : NestedKey}
mutual
theorem nest_is {K : PySem.W.Frag} (I : Inv X pins σ H s) : ∀ {k : NestedKey} {v : V} {u : Value}, numN k = true → Rp K H k.data v → RelV v u → NestedIs s.heap k u
  | .num i, v, u, _, r, ru => by
    rw [NestedKey.data] at r
    cases r
    obtain ⟨tk, e⟩ := (show ∃ t, u = Value.int i t from ru)
    subst e
    exact .int i tk
  | .tup ks, v, u, h, r, ru => by
    rw [NestedKey.data] at r
    rw [numN] at h
    cases r with
    | tup h1 h0 h3 =>
      rename_i c o vs
      cases (show u = Value.ref c from ru)
      obtain ⟨_, _, its, rv, ob, g1, g2, n, g3⟩ := (show ObjOk X.prog X.w H s.heap c (.frz _ (.tup vs)) from I.hok c _ h1)
      exact .tup g1 g2 g3 (by simpa using nest_all I h h3 rv)
  | .none, _, _, h, _, _ => by simp [numN] at h
  | .text _, _, _, h, _, _ => by simp [numN] at h
theorem nest_all {K : PySem.W.Frag} (I : Inv X pins σ H s) : ∀ {ks : List NestedKey} {vs : List V} {us : List Value}, numNs ks = true → RpAll K H (NestedKey.datas ks) vs → Vals vs us → NestedAll s.heap ks us
  | [], _, _, _, r, ru => by
    rw [NestedKey.datas] at r
    cases r
    cases ru
    exact .nil
  | k :: ks, _, _, h, r, ru => by
    rw [NestedKey.datas] at r
    rw [numNs, Bool.and_eq_true] at h
    cases r with
    | cons r1 r2 =>
      cases ru with
      | cons u1 u2 => exact .cons (nest_is I h.1 r1 u1) (nest_all I h.2 r2 u2)
end
/-- a frozen tuple of whole numbers and such tuples is a key -/
theorem keyI {K : PySem.W.Frag} (I : Inv X pins σ H s) (ok : okN k = true) (r : Rp K H k.data (.ref c)) : (numKind X.prog X.w).is s.heap k c := by
  refine ⟨⟨nest_is I (okN_num ok) r rfl, ?_⟩, ok⟩
  unfold okN at ok
  rw [Bool.and_eq_true, decide_eq_true_eq] at ok
  exact ok.2
theorem RpI.keys {K : PySem.W.Frag} (I : Inv X pins σ H s) : ∀ {es : List (PyData × PyData)} {kvs : List (NestedKey × Addr × V)} {xs : List (NestedKey × Addr × Value)}, RpI K H es kvs → PtI kvs xs → ∀ x ∈ xs, (numKind X.prog X.w).is s.heap x.1 x.2.1
  | _, _, _, .nil, q, x, hx => by
    cases q
    exact absurd hx List.not_mem_nil
  | _, _, _, .cons hk h0 _ h2, .cons z t, x, hx => by
    rcases List.mem_cons.mp hx with e | hx
    · subst e
      rw [← z.1, ← z.2.1]
      exact keyI I hk h0
    · exact RpI.keys I h2 t x hx
theorem tab_dict {K : PySem.W.Frag} (I : Inv X pins σ H s) (e : Rd H a (tabO b kvs)) (r : RpI K H es kvs) : kvs.length ≤ sizeLine ∧ (a == sysModules) = false ∧ ∃ xs, PtI kvs xs ∧ s.heap.DictOfH (numKind X.prog X.w) a xs := by
  have ok : ObjOk X.prog X.w H s.heap a (tabO b kvs) := by
    rcases e with e | ⟨o, e⟩
    · exact I.hok a _ e
    · exact (I.hok a _ e).2
  obtain ⟨_, z, y, xs, q, o, en, ep, g1, g2, g3, g4, g5⟩ := tabO_of ok
  exact ⟨z, y, xs, q, o, en, ep, g1, g2, g3, g4, r.keys I q, g5⟩
theorem tab_new {P : Program} {w : World} {h' : Heap} {H' : Hp} {xs : List (NestedKey × Addr × Value)} (z : kvs.length ≤ sizeLine) (y : (a == sysModules) = false) (q : PtI kvs xs) (dd : h'.DictOfH (numKind P w) a xs) : ObjOk P w H' h' a (tabO a kvs) := by
  obtain ⟨o, en, ep, g1, g2, g3, g4, _, g5⟩ := dd
  exact tabO_ok ⟨z, y, xs, q, o, en, ep, g1, g2, g3, g4, g5⟩
/-- what stands at a key -/
def TGet (K : PySem.W.Frag) (H : Hp) (a : Addr) (y : V) (r : Option V) : Prop := DGet H a y r ∨ ∃ b kvs k c es, Rd H a (tabO b kvs) ∧ y = .ref c ∧ RpI K H es kvs ∧ okN k = true ∧ Rp K H k.data (.ref c) ∧ r = valI kvs k
variable {y v : V} {u w : Value} {r : Option V} {A : Around} {E : Value → Shared → Prop}
theorem t_getItem {Q : Value → Shared → Prop} (hu : A.units + 9 < cLine) (I : Inv X pins σ H s) (g : TGet X.K H a y (some v)) (ry : RelV y u) (h : ∀ z s', Inv X pins σ H s' → RelV v z → Q z s') : wpAny (model X.prog X.w) A (getItem (.ref a) u) Q E s := by
  rcases g with g | ⟨b, kvs, k, c, es, e, rfl, r1, rk, r2, l⟩
  · exact d_getItem (by omega) I g ry h
  · cases (show u = Value.ref c from ry)
    obtain ⟨_, _, xs, q, dd⟩ := tab_dict I e r1
    have lk := q.look k
    rw [← l] at lk
    obtain ⟨z, hz, rz⟩ := RelO.some_of (v := v) lk
    obtain ⟨p, hp, hp2⟩ := Option.map_eq_some_iff.mp hz
    refine wpAny_getItem_heap (numKind_room hu) (keyI I rk r2) dd hp ?_
    rw [hp2]
    exact h z _ (I.tok _) rz
/-- the heap behind a store -/
def TPut (K : PySem.W.Frag) (H : Hp) (a : Addr) (y v : V) (H' : Hp) : Prop := DPut H a y v H' ∨ ∃ b kvs k c es, H a = some (tabO b kvs) ∧ y = .ref c ∧ RpI K H es kvs ∧ okN k = true ∧ Rp K H k.data (.ref c) ∧ kvs.length < sizeLine ∧ H' = upd H a (tabO a (putI kvs k c v))
theorem t_setItem {H' : Hp} {Q : Unit → Shared → Prop} (hu : A.units + 9 < cLine) (I : Inv X pins σ H s) (g : TPut X.K H a y v H') (ry : RelV y u) (rv : RelV v w) (h : ∀ s', Inv X pins σ H' s' → Q () s') : wpAny (model X.prog X.w) A (setItem (.ref a) u w) Q E s := by
  rcases g with g | ⟨b, kvs, k, c, es, e, rfl, r1, rk, r2, l, rfl⟩
  · exact d_setItem (by omega) I g ry rv h
  · cases (show u = Value.ref c from ry)
    obtain ⟨z, hd, xs, q, dd⟩ := tab_dict I (.inl e) r1
    have hz : xs.length ≤ sizeLine := by rw [← Paired.length q]; exact z
    have hl : (putI kvs k c v).length ≤ sizeLine := by
      have := putI_len kvs k c v
      omega
    refine wpAny_setItem_heap (hsz := hz) (numKind_room hu) (keyI I rk r2) dd fun h' dd' hs => h _ ?_
    have he : ∃ ob, h'.get? a = some ob := let ⟨ob, _, _, g1, _⟩ := dd'; ⟨ob, g1⟩
    exact d_write I (by rw [e]; exact trivial) hs he (tab_new hl hd (q.put k rv) dd')
end

/-! ### as rules -/
def rTGet (K : PySem.W.Frag) : R2 := fun x y H Q => ∃ a v, x = .ref a ∧ TGet K H a y (some v) ∧ Q v H
def rTIn (K : PySem.W.Frag) : R2 := fun y x H Q => ∃ a r, x = .ref a ∧ TGet K H a y r ∧ Q (.bl r.isSome) H
def rTNin (K : PySem.W.Frag) : R2 := fun y x H Q => ∃ a r, x = .ref a ∧ TGet K H a y r ∧ Q (.bl (!r.isSome)) H
def rTPut (K : PySem.W.Frag) : TSet := fun o i v H Q => ∃ a H', o = .ref a ∧ TPut K H a i v H' ∧ Q H'
section
variable {X : Cx}
theorem set_tab (hu : X.A.units + 9 < cLine) : PSet X (rTPut X.K) := by
  intro pins s σ H o i v ov iv u Q I ro ri rv ⟨a, H', e, g, q⟩
  subst e
  cases (show ov = Value.ref a from ro)
  exact t_setItem hu I g ri rv fun s3 I3 => ⟨H', I3, q⟩
theorem tget_type {pins : List (Addr × Obj)} {σ : St} {H : Hp} {s : Shared} {a : Addr} {y : V} {r : Option V} (I : Inv X pins σ H s) (g : TGet X.K H a y r) : s.TypeIs (.ref a) "dict" := by
  rcases g with g | ⟨b, kvs, k, c, es, e, rfl, r1, rk, r2, l⟩
  · exact dict_typeIs I g
  · obtain ⟨_, hd, xs, q, dd⟩ := tab_dict I e r1
    exact dd.typeIs
theorem pe_tget {o i : Expr} {td ty : TE} {pos : Pos} (hu : X.A.units + 9 < cLine) (ho : PE X o td) (hi : PE X i ty) (hs : NoSl i) : PE X (.Subscript o i pos) (tOp (rTGet X.K) td ty) := by
  refine ⟨fun pins s σ H Q I h => ?_⟩
  refine subD_of PySem.F.slot_dict_getitem.lookup hs (thn (ho.run pins s σ H _ I h) fun u s1 ⟨x, H1, I1, rx, q1⟩ => thn (hi.run pins s1 σ H1 _ I1 q1) fun iv s2 ⟨y, H2, I2, ry, q2⟩ => ?_)
  obtain ⟨a, v, e, g, q3⟩ := q2
  subst e
  cases (show u = Value.ref a from rx)
  exact ⟨tget_type I2 g, t_getItem hu I2 g ry fun z s3 I3 rz => ⟨v, H2, I3, rz, q3⟩⟩
theorem noSl_of {b : Expr} (h : notSlice b = true) : NoSl b := by
  intro ov iv
  cases b <;> first | rfl | cases h
end

/-! ### meanings -/
def tabOf : Slot → Option (Bool × List (PyData × PyData))
  | .odc t es => some (t, es)
  | .val (.dict es) => some (false, es)
  | _ => none
def kOk (t : Bool) (d : PyData) : Bool := if t = true then (keyT d).isSome else (keyK d).isSome
def isTab (ρ : Env) (i : Nat) : Bool := ((ρ[i]?).bind tabOf).isSome
theorem isTab_of {ρ : Env} {i : Nat} (h : isTab ρ i = true) : ∃ s t es, ρ[i]? = some s ∧ tabOf s = some (t, es) := by
  unfold isTab at h
  cases e : ρ[i]? with
  | none => rw [e] at h; cases h
  | some s =>
    rw [e] at h
    obtain ⟨⟨t, es⟩, q⟩ := Option.isSome_iff_exists.mp h
    exact ⟨s, t, es, rfl, q⟩
section
variable {B : Bd} {F H : Hp} {ρ : Env} {σ : St}
theorem tab_val (R : Rel B F H ρ σ) {i : Nat} {s : Slot} {t : Bool} {es : List (PyData × PyData)} (hs : ρ[i]? = some s) (ht : tabOf s = some (t, es)) : ∃ a, σ[i]? = some (some (.ref a)) := by
  cases s with
  | odc t' es' =>
    obtain ⟨a, o, g1, _⟩ := R.sl.own i _ hs rfl
    exact ⟨a, g1⟩
  | val d =>
    cases d with
    | dict es' =>
      obtain ⟨v, g1, g2⟩ := R.sl.val i _ hs
      cases g2 <;> exact ⟨_, g1⟩
    | _ => cases ht
  | _ => cases ht
theorem tab_get (R : Rel B F H ρ σ) {i : Nat} {s : Slot} {t : Bool} {es : List (PyData × PyData)} {d : PyData} {w : V} {a : Addr} (hs : ρ[i]? = some s) (ht : tabOf s = some (t, es)) (hk : kOk t d = true) (hw : Bp B.K F H d w) (ha : σ[i]? = some (some (.ref a))) :
    ∃ r, TGet B.K H a w r ∧ LookR B.K F (lookD es d) r := by
  have kk : t = false → ∀ kvs, Rd H a (.dK kvs) → RpK B.K F es kvs → ∃ r, TGet B.K H a w r ∧ LookR B.K F (lookD es d) r := fun z kvs h1 h2 => by
    subst z
    obtain ⟨k, e⟩ := Option.isSome_iff_exists.mp (show (keyK d).isSome = true from hk)
    have e := keyK_of e
    subst e
    have : w = kV k := by
      cases k with
      | inl i => exact hw.int
      | inr x => exact hw.str
    exact ⟨_, .inl (.inl ⟨kvs, k, h1, this, rfl⟩), look_K k h2⟩
  cases s with
  | odc t' es' =>
    cases ht
    obtain ⟨a', o, g1, g2, g3, g4, _⟩ := R.sl.own i _ hs rfl
    rw [ha] at g1
    cases g1
    cases t with
    | false =>
      obtain ⟨kvs, rfl, r⟩ := g4
      exact kk rfl kvs (.inl g3) r
    | true =>
      obtain ⟨b, kvs, rfl, r⟩ := g4
      obtain ⟨k, e⟩ := Option.isSome_iff_exists.mp (show (keyT d).isSome = true from hk)
      obtain ⟨ed, ok⟩ := keyT_of e
      have tk : ∃ ks, k = .tup ks := keyT_tup e
      obtain ⟨ks, ek⟩ := tk
      subst ed
      have hw' := hw
      rw [ek, NestedKey.data] at hw'
      obtain ⟨c, o, vs, rfl, h1, h2, h3⟩ := hw'.tup
      have rk : Rp B.K F k.data (.ref c) := by rw [ek, NestedKey.data]; exact .tup h1 h2 h3
      exact ⟨_, .inr ⟨b, kvs, k, c, es, .inl g3, rfl, r.mono R.kept.ex, ok, rk.mono R.kept.ex, rfl⟩, look_T k ok ⟨ks, ek⟩ r⟩
  | val d' =>
    cases d' with
    | dict es' =>
      cases ht
      obtain ⟨v, g1, g2⟩ := R.sl.val i _ hs
      rw [ha] at g1
      cases g1
      cases g2 with
      | dK h1 h2 => exact kk rfl _ (.inl (R.kept.ex _ _ h1)) h2
      | dT h1 h2 => exact kk rfl _ (.inr ⟨_, R.kept.ex _ _ h1⟩) h2
    | _ => cases ht
  | _ => cases ht
end
/-- d[k] -/
def dTGet (i : Nat) (k : DenO) : Den := fun Φ ρ => guard' (isTab ρ i) ((k Φ ρ).bind fun x => match (x.2[i]?).bind tabOf with
  | some (t, es) => guard' (kOk t x.1) ((opt (lookD es x.1)).bind fun d => .ok (.val d, x.2))
  | none => .stuck)
/-- k in d, k not in d -/
def dTIn (neg : Bool) (i : Nat) (k : DenO) : Den := fun Φ ρ => (k Φ ρ).bind fun x => match (x.2[i]?).bind tabOf with
  | some (t, es) => guard' (kOk t x.1) (.ok (.val (.bool (if neg = true then !(lookD es x.1).isSome else (lookD es x.1).isSome)), x.2))
  | none => .stuck
/-- d[k] = v -/
def dTPut (i : Nat) (k : DenO) (e : Den) : DenS := fun Φ ρ => (oOf e Φ ρ).bind fun r => guard' (isTab r.2 i) ((k Φ r.2).bind fun j => match j.2[i]? with
  | some (.odc t es) => guard' (kOk t j.1 && decide (es.length < 1000000)) (.ok (.nx, j.2.set i (.odc t (putD es j.1 r.1))))
  | _ => .stuck)
def dNewD (t : Bool) : Den := fun _ ρ => .ok (.odc t [], ρ)
section
variable {Γ : Ctx} {x : Str} {i : Nat} {k : DenO} {p m : Bool} {c e : Expr} {d : Den} {xpos pos spos : Pos}
theorem snd_tget (hN : Γ.N[i]? = some x) (hv : visB Γ.sc x = true) (hx : okName x = true) (hk : SndO Γ c k p m) (hc : notSlice c = true) : SndE Γ (.Subscript (.Name x xpos) c pos) (dTGet i k) p := by
  intro X Φ B F H ρ σ Q W C hK T R hq
  have P : PE X (.Name x xpos) (tVar i) := pe_var (by rw [C.nm]; exact hN) (by rw [C.sc]; exact vis_of hv) (okName_d hx) (okName_c hx)
  obtain ⟨h1, hq⟩ := wp_guard hq
  obtain ⟨s, t, es, h1, h2⟩ := isTab_of h1
  obtain ⟨a, ha⟩ := tab_val R h1 h2
  refine PE.w (pe_tget (by have := room_u C.room; omega) P pe_w (noSl_of hc)) ⟨_, ha, ?_⟩
  refine hk X Φ B F H ρ σ _ W C hK T R (wp_mono (wp_bind (c := k Φ ρ) hq) (fun y q w F1 H1 R1 e1 e2 hw => ?_) fun _ z => z)
  obtain ⟨y, ρ1⟩ := y
  have R1 : Rel B F1 H1 ρ1 σ := R1
  cases z : (ρ1[i]?).bind tabOf with
  | none => simp only [z] at q; exact q.elim
  | some te =>
    obtain ⟨t1, es1⟩ := te
    obtain ⟨s1, g1, g2⟩ := Option.bind_eq_some_iff.mp z
    simp only [z] at q
    obtain ⟨q1, q⟩ := wp_guard q
    obtain ⟨r, g3, g4⟩ := tab_get R1 g1 g2 q1 hw.bp ha
    cases l : lookD es1 y with
    | none => rw [l] at q; exact q.elim
    | some dd =>
      rw [l] at q g4
      cases r with
      | none => exact g4.elim
      | some v => exact ⟨a, v, rfl, hK ▸ g3, q v F1 H1 R1 e1 e2 g4⟩
theorem snd_tput {pk : Bool} (hN : Γ.N[i]? = some x) (hv : visB Γ.sc x = true) (hx : okName x = true) (h : SndE Γ e d p) (hk : SndO Γ c k pk m) (he : notComp e = true) (hc : notSlice c = true) :
    SndS Γ (.Assign [.Subscript (.Name x xpos) c spos] e pos) (dTPut i k d) := by
  intro X Φ B F H ρ σ D W C BO bo hK T R hq
  have P : PE X (.Name x xpos) (tVar i) := pe_var (by rw [C.nm]; exact hN) (by rw [C.sc]; exact vis_of hv) (okName_d hx) (okName_c hx)
  refine PS.w (ps_asg pe_w (pg_sub P pe_w (set_tab (by have := room_u C.room; omega)) (by intro v; cases c <;> first | rfl | cases hc)) (sole_of he) (by unfold swappedStores; cases e <;> rfl) rfl) ?_
  refine snd_oOf h X Φ B F H ρ σ _ W C hK T R (wp_mono (wp_bind (c := oOf d Φ ρ) hq) (fun r q v F1 H1 R1 e1 _ hv => ?_) ExS.ex)
  obtain ⟨y, ρ1⟩ := r
  have hv : Rp B.K F1 y v := hv
  obtain ⟨ho, q⟩ := wp_guard q
  obtain ⟨s, t, es, h1, h2⟩ := isTab_of ho
  have R1 : Rel B F1 H1 ρ1 σ := R1
  obtain ⟨a, ha⟩ := tab_val R1 h1 h2
  refine ⟨_, ha, ?_⟩
  refine hk X Φ B F1 H1 ρ1 σ _ W C hK T R1 (wp_mono (wp_bind (c := k Φ ρ1) q) (fun j q w F2 H2 R2 e3 _ hw => ?_) fun z q => ExS.ex z (ExS.mono e1 z q))
  obtain ⟨j, ρ2⟩ := j
  have R2 : Rel B F2 H2 ρ2 σ := R2
  cases z : ρ2[i]? with
  | none => simp only [z] at q; exact q.elim
  | some s2 =>
    cases s2 with
    | odc t2 es2 =>
      simp only [z] at q
      obtain ⟨q1, q⟩ := wp_guard q
      rw [Bool.and_eq_true, decide_eq_true_eq] at q1
      obtain ⟨q1, q2⟩ := q1
      obtain ⟨a', o', k1, k2, k3, k4, k5⟩ := R2.sl.own i _ z rfl
      rw [ha] at k1
      cases k1
      have hw := hw.bp
      cases t2 with
      | false =>
        obtain ⟨kvs, rfl, r⟩ := k4
        obtain ⟨kk, e⟩ := Option.isSome_iff_exists.mp (show (keyK j).isSome = true from q1)
        have e := keyK_of e
        subst e
        have ew : w = kV kk := by
          cases kk with
          | inl i => exact hw.int
          | inr x => exact hw.str
        have lt : kvs.length < sizeLine := by rw [← rpK_len r]; exact lt_line (by omega)
        exact ⟨a, _, rfl, .inl (.inl ⟨kvs, kk, k3, ew, lt, rfl⟩), q σ F2 _ (R2.alter (s' := .odc false (putD es2 (keyD kk) y)) z rfl ha ⟨_, rfl, put_K (hv.mono e3) r⟩) (e1.trans e3)⟩
      | true =>
        obtain ⟨b, kvs, rfl, r⟩ := k4
        obtain ⟨kk, e⟩ := Option.isSome_iff_exists.mp (show (keyT j).isSome = true from q1)
        obtain ⟨ed, ok⟩ := keyT_of e
        obtain ⟨ks, ek⟩ : ∃ ks, kk = .tup ks := keyT_tup e
        subst ed
        have hw' := hw
        rw [ek, NestedKey.data] at hw'
        obtain ⟨cc, oo, vs, rfl, g1, g2, g3⟩ := hw'.tup
        have rk : Rp B.K F2 kk.data (.ref cc) := by rw [ek, NestedKey.data]; exact .tup g1 g2 g3
        have lt : kvs.length < sizeLine := by rw [← rpI_len r]; exact lt_line (by omega)
        exact ⟨a, _, rfl, .inr ⟨b, kvs, kk, cc, es2, k3, rfl, hK ▸ r.mono R2.kept.ex, ok, hK ▸ rk.mono R2.kept.ex, lt, rfl⟩, q σ F2 _ (R2.alter (s' := .odc true (putD es2 kk.data y)) z rfl ha ⟨_, _, rfl, put_T ok rk (hv.mono e3) r⟩) (e1.trans e3)⟩
    | _ => simp only [z] at q; exact q.elim
/-- {} -/
theorem tab_empty {P : Program} {w : World} {H : Hp} (h : Heap) (hb : sysModules < h.objs.size) : ObjOk P w H (h.push { cls := .type "dict", data := .dict #[] }) h.objs.size (tabO h.objs.size []) :=
  tabO_ok ⟨Nat.zero_le _, beq_eq_false_iff_ne.mpr (Ne.symm (Nat.ne_of_lt hb)), [], .nil, _, #[], 0, Heap.get?_push_size _ rfl, ⟨rfl, rfl, rfl⟩, rfl, rfl, List.nodup_nil⟩
def tNewTab : TE := fun _ H Q => ∀ p, H p = none → Q (.ref p) (upd H p (tabO p []))
theorem pe_newTab {X : Cx} : PE X (.Dict [] [] pos) tNewTab := ⟨fun pins s σ H Q I h =>
  wpAny_Dict_empty ⟨.ref s.heap.objs.size, _, I.laid (a := s.heap.objs.size) (o := tabO s.heap.objs.size []) (t' := s.toks) (fun _ _ q => Heap.get?_push_of_some _ q) (Nat.le_refl _) (tab_empty s.heap I.big), rfl, h _ (I.hok.fresh (Nat.le_refl _))⟩⟩
theorem snd_newD (t : Bool) : SndE Γ (.Dict [] [] pos) (dNewD t) true := by
  intro X Φ B F H ρ σ Q W C hK T R hq
  have q := pq_of (s := .odc t []) R (.refl F) (fun _ => .refl H) hq
  cases t with
  | false => exact PE.w pe_dnewK fun p hp => q p [] hp .nil
  | true => exact PE.w pe_newTab fun p hp => q p [] hp .nil
end

/-! ### {k: None} of a tuple of whole numbers -/
def tDispN (ty : TE) : TE := fun σ H Q => ∀ p, H p = none → ty σ (upd H p (tabO p [])) fun y H2 => H2 p = some (tabO p []) ∧ ∃ k c, y = .ref c ∧ okN k = true ∧ (∃ K : PySem.W.Frag, Rp K H2 k.data (.ref c)) ∧ Q (.ref p) (upd H2 p (tabO p [(k, c, .non)]))
def dDispN (j : Nat) : Den := fun _ ρ => match ρ[j]? with
  | some (.val d) => guard' (keyT d).isSome (.ok (.odc true [(d, .none)], ρ))
  | _ => .stuck
/-- {i: n} -/
def dDispI (i n : Int) : Den := fun _ ρ => .ok (.odc false [(.int i, .int n)], ρ)
/-- d.get(k, x) -/
def dTGet2 (i : Nat) (a : DenOs) : Den := fun Φ ρ => guard' (isTab ρ i) ((a Φ ρ).bind fun x => match (x.2[i]?).bind tabOf, x.1 with
  | some (false, es), [k, d] => guard' (keyK k).isSome (.ok (.val ((lookD es k).getD d), x.2))
  | _, _ => .stuck)
/-- the keys: the dict stands still from here on -/
def iDictK (i : Nat) : DenI := fun _ ρ => match ρ[i]? with
  | some (.odc false es) => .ok (es.map (·.1), ρ.set i (.val (.dict es)))
  | _ => .stuck
/-- list(d) of a new dict -/
def dListD (d : Den) : Den := fun Φ ρ => (d Φ ρ).bind fun r => match r.1 with
  | .odc true es => guard' (decide (es.length ≤ 1000000)) (.ok (.own (es.map (·.1)), r.2))
  | _ => .stuck
section
variable {B : Bd} {F H : Hp} {ρ : Env} {σ : St} {s : Slot} {a : Addr} {o o' : HO}
/-- an own object is frozen in another form -/
theorem Rel.lock (k : Rel B F H ρ σ) {i : Nat} {d : PyData} (h : ρ[i]? = some s) (hs : s.isOwn = true) (h1 : σ[i]? = some (some (.ref a))) (e2 : Rp B.K (upd F a o') d (.ref a)) : Rel B (upd F a o') (upd H a o') (ρ.set i (.val d)) σ ∧ Ex F (upd F a o') := by
  obtain ⟨b, o, g1, h2, h3, h4, h5⟩ := k.sl.own i s h hs
  rw [h1] at g1
  cases g1
  have e : Ex F (upd F a o') := .new h2
  have dis : ∀ (j : Nat) (t : Slot), (ρ.set i (.val d))[j]? = some t → t.isOwn = true → ρ[j]? = some t ∧ j ≠ i := fun j t q qs => by
    rcases set_get q with ⟨_, z, _⟩ | ⟨z1, z2⟩
    · rw [z] at qs; cases qs
    · exact ⟨z2, z1⟩
  have hn : B.La a ∨ B.H0 a = none := h5.imp (fun z => ⟨i, z⟩) id
  refine ⟨⟨⟨k.kept.ff.trans e, fun b u q => ?_, fun b u q n => ?_, fun b q1 q2 q3 => ?_, fun b q => ?_⟩, ⟨by rw [List.length_set]; exact k.sl.len, fun j d' q => ?_, fun j ns q => ?_, fun j t q qs => ?_, k.sl.par, fun j m t u b ne q qs q' qs' e3 => ?_⟩⟩, e⟩
  · by_cases z : b = a
    · subst z; rw [upd_same] at q ⊢; exact q
    · rw [upd_ne z] at q ⊢; exact k.kept.ex _ _ q
  · have z : b ≠ a := fun z => by
      subst z
      rcases hn with w | w
      · exact n w
      · rw [w] at q; cases q
    rw [upd_ne z]
    exact k.kept.keep b u q n
  · have z : b ≠ a := fun z => by
      subst z
      rcases hn with w | w
      · exact q3 w
      · exact q1 w
    rw [upd_ne z]
    exact k.kept.nof b q1 q2 q3
  · by_cases z : b = a
    · subst z; rw [upd_same]; exact fun z => nomatch z
    · rw [upd_ne z]; exact k.kept.live b q
  · rcases set_get q with ⟨z, z2, _⟩ | ⟨z, z2⟩
    · cases z2
      rw [z]
      exact ⟨_, h1, e2⟩
    · obtain ⟨v, q1, q2⟩ := k.sl.val j d' z2
      exact ⟨v, q1, q2.mono e⟩
  · rcases set_get q with ⟨z, z2, _⟩ | ⟨z, z2⟩
    · cases z2
    · obtain ⟨v, q1, q2⟩ := k.sl.scr j ns z2
      exact ⟨v, q1, e.sqL q2⟩
  · obtain ⟨q', ne⟩ := dis j t q qs
    obtain ⟨b, u, g1, g2, g3, g4, g5⟩ := k.sl.own j t q' qs
    have nb : b ≠ a := fun z => by subst z; exact k.sl.dis j i t s b ne q' qs h hs g1 h1
    exact ⟨b, u, g1, by rw [upd_ne nb]; exact g2, by rw [upd_ne nb]; exact g3, g4.mono e, g5⟩
  · obtain ⟨g, _⟩ := dis j t q qs
    obtain ⟨g', _⟩ := dis m u q' qs'
    exact k.sl.dis j m t u b ne g qs g' qs' e3
end
section
variable {Γ : Ctx} {x : Str} {i : Nat} {k : DenO} {p m : Bool} {c e : Expr} {d : Den} {xpos pos spos apos fpos : Pos}
theorem snd_dispI {n j : Int} {k1 k2 : Nat} {p1 p2 : Pos} : SndE Γ (.Dict [some (.Constant (.int j) k1 p1)] [.Constant (.int n) k2 p2] pos) (dDispI j n) true := by
  intro X Φ B F H ρ σ Q W C hK T R hq
  refine PE.w (pe_disp (pps_cons pe_int pe_int pps_nil) rfl rfl (fun z => nomatch z) (Nat.le_of_lt_succ (by show 1 < 16; decide))) ?_
  intro t ht
  have e : mergeK [] [((.inl j : Key), V.int n)] = [((.inl j : Key), V.int n)] := rfl
  refine ⟨upd_same, [(.inl j, .int n)], rfl, by show 1 ≤ 15; decide, ?_⟩
  rw [e, upd_upd]
  exact pq_of (s := .odc false [(.int j, .int n)]) R (.refl F) (fun _ => .refl H) hq t _ ht (.cons (k := .inl j) (.int n) .nil)
theorem src_keys {K : PySem.W.Frag} {F : Hp} {tp : Bool} {a : Addr} {o : Obj} {kvs : List (Key × V)} {es : List (PyData × PyData)} (h : F a = some (.frz o (.dK kvs))) (r : RpK K F es kvs) : Src tp K F (Itk a o kvs) (es.map (·.1)) := by
  have get : ∀ {es : List (PyData × PyData)} {kvs : List (Key × V)}, RpK K F es kvs → ∀ (i : Nat) (d : PyData), (es.map (·.1))[i]? = some d → ∃ k v, kvs[i]? = some (k, v) ∧ d = keyD k := by
    intro es kvs r
    induction es generalizing kvs with
    | nil => intro i d q; simp at q
    | cons e es ih =>
      cases r with
      | cons h1 h2 =>
        intro i d q
        cases i with
        | zero => simp at q; exact ⟨_, _, rfl, q.symm⟩
        | succ i =>
          obtain ⟨k, v, g1, g2⟩ := ih h2 i d (by simpa using q)
          exact ⟨k, v, by simpa using g1, g2⟩
  have len := rpK_len r
  refine ⟨fun i H d e q => ?_, fun i H e q => ⟨e _ _ h, by rw [← len]; simpa using q⟩⟩
  obtain ⟨k, v, g1, g2⟩ := get r i d q
  refine ⟨⟨e _ _ h, (List.getElem?_eq_some_iff.mp g1).1⟩, fun x H' y F2 e2 e3 => ?_⟩
  obtain ⟨z, k', v', y1, y2⟩ := y
  subst z
  rw [g1] at y1
  cases y1
  subst g2 y2
  exact ⟨fun _ z => z, .refl e3, taken_of e3 (by cases k with
    | inl i => exact .int i
    | inr x => exact .str x)⟩
theorem snd_iDict {tg : Expr} {tp : Bool} (hN : Γ.N[i]? = some x) (hv : visB Γ.sc x = true) (hx : okName x = true) : SndI Γ tg (.Name x xpos) (iDictK i) false tp := by
  intro X Φ B F H ρ σ Q W C hK T R hq
  have P : PE X (.Name x xpos) (tVar i) := pe_var (by rw [C.nm]; exact hN) (by rw [C.sc]; exact vis_of hv) (okName_d hx) (okName_c hx)
  unfold iDictK at hq
  cases z : ρ[i]? with
  | none => rw [z] at hq; exact hq.elim
  | some s =>
    rw [z] at hq
    cases s with
    | odc t es =>
      cases t with
      | true => exact hq.elim
      | false =>
        obtain ⟨a, o, g1, g2, g3, g4, g5⟩ := R.sl.own i _ z rfl
        obtain ⟨kvs, rfl, r⟩ := g4
        intro pins s I
        obtain ⟨od, I1⟩ := I.lock g3 trivial
        have e : Ex F (upd F a (.frz od (.dK kvs))) := .new g2
        obtain ⟨R1, e1⟩ := R.lock (o' := .frz od (.dK kvs)) z rfl g1 (.dT upd_same (r.mono e))
        refine PI.w (pi_keys P) ⟨_, g1, a, od, rfl, .inl ⟨kvs, upd_same, ?_⟩⟩ pins s I1
        exact hq _ _ _ R1 e1 (fun z => nomatch z) (src_keys upd_same (r.mono e))
    | _ => exact hq.elim
def rListTab (K : PySem.W.Frag) : List V → Hp → VK → Prop := fun xs H Q => ∃ a b kvs es, xs = [V.ref a] ∧ H a = some (tabO b kvs) ∧ RpI K H es kvs ∧ ∀ p, H p = none → Q (.ref p) (upd H p (.lst (kvs.map fun x => .ref x.2.1)))
/-- a bar b -/
def pOrI : Prim := pI2 yes2 fun i j => .int (Builtin.bitOr i j)
theorem e_orI {a b : Expr} {d : DenOs} (h : SndOs Γ [a, b] d p) : SndE Γ (.BinOp a .BitOr b pos) (dP pOrI d) p := snd_bin (r := fun _ => rI0 fun i j => .int (Builtin.bitOr i j)) (fun X _ _ => op_or) (fun K => rule_I0 fun _ _ _ => .int _) h
end
end Dn

/-! Den36: d.get(k, x), a name's own thing moved, range with a step, tuple(range). -/
namespace Dn
open PySem PySem.Spec L2
open PyProof.Rows hiding St
def isTabF (ρ : Env) (i : Nat) : Bool := match (ρ[i]?).bind tabOf with
  | some (false, _) => true
  | _ => false
theorem isTabF_of {ρ : Env} {i : Nat} (h : isTabF ρ i = true) : ∃ s es, ρ[i]? = some s ∧ tabOf s = some (false, es) := by
  unfold isTabF at h
  cases z : (ρ[i]?).bind tabOf with
  | none => rw [z] at h; cases h
  | some te =>
    obtain ⟨t, es⟩ := te
    rw [z] at h
    cases t with
    | true => cases h
    | false =>
      obtain ⟨s, g1, g2⟩ := Option.bind_eq_some_iff.mp z
      exact ⟨s, es, g1, g2⟩
def dTGetD (i : Nat) (a : DenOs) : Den := fun Φ ρ => guard' (isTabF ρ i) ((a Φ ρ).bind fun x => match (x.2[i]?).bind tabOf, x.1 with
  | some (false, es), [k, d] => guard' (keyK k).isSome (.ok (.val ((lookD es k).getD d), x.2))
  | _, _ => .stuck)
section
variable {B : Bd} {F H : Hp} {ρ : Env} {σ : St}
/-- a dict of whole numbers and texts, own or frozen -/
theorem tabF_get (R : Rel B F H ρ σ) {i : Nat} {s : Slot} {es : List (PyData × PyData)} (hs : ρ[i]? = some s) (ht : tabOf s = some (false, es)) : ∃ a kvs, σ[i]? = some (some (.ref a)) ∧ Rd H a (.dK kvs) ∧ RpK B.K F es kvs := by
  cases s with
  | odc t es' =>
    cases ht
    obtain ⟨a, o, g1, g2, g3, g4, _⟩ := R.sl.own i _ hs rfl
    obtain ⟨kvs, rfl, r⟩ := g4
    exact ⟨a, kvs, g1, .inl g3, r⟩
  | val d =>
    cases d with
    | dict es' =>
      cases ht
      obtain ⟨v, g1, g2⟩ := R.sl.val i _ hs
      cases g2 with
      | dK h1 h2 => exact ⟨_, _, g1, .inl (R.kept.ex _ _ h1), h2⟩
      | dT h1 h2 => exact ⟨_, _, g1, .inr ⟨_, R.kept.ex _ _ h1⟩, h2⟩
    | _ => cases ht
  | _ => cases ht
end
section
variable {Γ : Ctx} {x y : Str} {i j : Nat} {a b c : Expr} {d d' d2 : DenO} {as : DenOs} {p p' p2 m m' m2 : Bool} {xpos pos pos' apos fpos rpos lpos : Pos} {tg : Expr}
theorem snd_tgetD (hN : Γ.N[i]? = some x) (hv : visB Γ.sc x = true) (hx : okName x = true) (h : SndFs Γ [a, b] as p) (he : [a, b].all plainE = true) (hline : (apos.endLine == pos.line) = true) :
    SndE Γ (.Call (.Attribute (.Name x xpos) "get" apos) [a, b] [] pos) (dTGetD i as) p := by
  intro X Φ B F H ρ σ Q W C hK T R hq
  have P : PE X (.Name x xpos) (tVar i) := pe_var (by rw [C.nm]; exact hN) (by rw [C.sc]; exact vis_of hv) (okName_d hx) (okName_c hx)
  have he' := he
  rw [List.all_cons, Bool.and_eq_true, List.all_cons, Bool.and_eq_true] at he'
  obtain ⟨h1, hq⟩ := wp_guard hq
  obtain ⟨s, es, h1, h2⟩ := isTabF_of h1
  obtain ⟨l, kvs, g1, g2, g3⟩ := tabF_get R h1 h2
  refine PE.w (pe_dget2 (by have := room_u C.room; omega) P pe_w pe_w ⟨base_of rfl, few_of he (show 2 < 20 by decide), hline, by rw [star_of he'.1, star_of he'.2.1]; rfl⟩) ⟨_, g1, l, rfl, .inl ⟨kvs, g2⟩, ?_⟩
  refine (show wEs X [a, b] σ H (fun vs H3 => match vs with
    | [y, z] => ∃ o, DGet H3 l y o ∧ Q (o.getD z) H3
    | _ => False) from ?_)
  refine h X Φ B F H ρ σ _ W C hK T R (wp_mono (wp_bind (c := as Φ ρ) hq) (fun r q vs F1 H1 R1 e1 e2 hvs => ?_) fun _ z => z)
  obtain ⟨ds, ρ1⟩ := r
  have R1 : Rel B F1 H1 ρ1 σ := R1
  cases z : (ρ1[i]?).bind tabOf with
  | none => simp only [z] at q; exact q.elim
  | some te =>
    obtain ⟨t1, es1⟩ := te
    obtain ⟨s1, k1, k2⟩ := Option.bind_eq_some_iff.mp z
    simp only [z] at q
    cases t1 with
    | true => exact q.elim
    | false =>
      obtain ⟨l', kvs1, k3, k4, k5⟩ := tabF_get R1 k1 k2
      rw [g1] at k3
      cases k3
      match ds, vs, hvs, q with
      | [k, dd], [w, v], .cons w1 (.cons w2 .nil), q =>
        obtain ⟨q1, q⟩ := wp_guard q
        obtain ⟨kk, e⟩ := Option.isSome_iff_exists.mp q1
        have e := keyK_of e
        subst e
        have ew : w = kV kk := by
          cases kk with
          | inl i => cases w1; rfl
          | inr x => cases w1; rfl
        have lk := look_K kk k5
        refine ⟨valV kvs1 kk, .inl ⟨kvs1, kk, k4, ew, rfl⟩, q _ F1 H1 R1 e1 e2 ?_⟩
        cases l1 : lookD es1 (keyD kk) with
        | none =>
          cases l2 : valV kvs1 kk with
          | none => exact w2
          | some u => rw [l1, l2] at lk; exact lk.elim
        | some u1 =>
          cases l2 : valV kvs1 kk with
          | none => rw [l1, l2] at lk; exact lk.elim
          | some u => rw [l1, l2] at lk; exact lk
      | [], _, _, q => exact q.elim
      | [_], _, _, q => exact q.elim
      | _ :: _ :: _ :: _, _, _, q => exact q.elim
/-- y = x: what x owns goes over -/
def dMvS (i j : Nat) : DenS := fun _ ρ => match ρ[j]? with
  | some (.val d) => .ok (.nx, ρ.set i (.val d))
  | some (.own ds) => .ok (.nx, (ρ.set j .un).set i (.own ds))
  | some (.odc t es) => .ok (.nx, (ρ.set j .un).set i (.odc t es))
  | _ => .stuck
theorem snd_mvS (hN : Γ.N[i]? = some x) (hl : locB Γ.sc x = true) (hi : Γ.np ≤ i) (hN' : Γ.N[j]? = some y) (hv : visB Γ.sc y = true) (hy : okName y = true) (hj : Γ.np ≤ j) : SndS Γ (.Assign [.Name x xpos] (.Name y pos') pos) (dMvS i j) := by
  intro X Φ B F H ρ σ D W C BO bo hK T R h
  have P : PE X (.Name y pos') (tVar j) := pe_var (by rw [C.nm]; exact hN') (by rw [C.sc]; exact vis_of hv) (okName_d hy) (okName_c hy)
  refine PS.w (ps_set (i := i) (by rw [C.nm]; exact C.nd) (by rw [C.nm]; exact hN) (by rw [C.sc]; exact loc_of hl) P (swap_of rfl) (.inl (BO.fn x))) ?_
  unfold dMvS at h
  have mv : ∀ s : Slot, s.isOwn = true → ρ[j]? = some s → (Out.ok (Fl.nx, (ρ.set j .un).set i s)).wp (StP B F D) (ExS X B F W) → tVar j σ H fun v H' => D.nx (σ.set i (some v)) H' := fun s hs e hq => by
    obtain ⟨a, o, e1, e2, e3, e4, e5⟩ := R.sl.own j s e hs
    have e6 : B.H0 a = none := by
      rcases e5 with z | z
      · exact absurd (bo.L j a z) (by omega)
      · exact z
    refine ⟨_, e1, hq _ F H ((R.unset j).put (s := s) ((Res.of_own hs).mpr ⟨a, o, rfl, e2, e3, e4, e6, fun m t k1 k2 k3 => ?_⟩) i (Nat.le_trans bo.vs hi)) (.refl F)⟩
    rcases set_get k1 with ⟨_, z2, _⟩ | ⟨z1, z2⟩
    · rw [z2] at k2; cases k2
    · exact R.sl.dis m j t s a z1 z2 k2 e hs k3 e1
  cases e : ρ[j]? with
  | none => rw [e] at h; exact h.elim
  | some s =>
    rw [e] at h
    cases s with
    | val d =>
      obtain ⟨v, h1, h2⟩ := R.sl.val j d e
      exact ⟨v, h1, h _ F H (R.put (s := .val d) h2 i (Nat.le_trans bo.vs hi)) (.refl F)⟩
    | own ds => exact mv _ rfl e h
    | odc t es => exact mv _ rfl e h
    | obj _ _ => exact h.elim
    | un => exact h.elim
    | scr ns => exact h.elim
/-- range(a, b, c) -/
def rngC (lo c : Int) (n : Nat) : List PyData := (List.range n).map fun i => .int (lo + (i : Nat) * c)
def rg3B (i j c : Int) (n : Nat) : Bool := decide (c ≠ 0) && decide (c.natAbs < 1073741824) && Builtin.Range.small i j c && decide (Builtin.Range.rangeSize i j c = n)
def iR3 (a b c : DenO) : DenI := fun Φ ρ => (a Φ ρ).bind fun r => (b Φ r.2).bind fun s => (c Φ s.2).bind fun t => match r.1, s.1, t.1 with
  | .int i, .int j, .int k => guard' (rg3B i j k (Builtin.Range.rangeSize i j k).toNat) (.ok (rngC i k (Builtin.Range.rangeSize i j k).toNat, t.2))
  | _, _, _ => .stuck
/-- tuple(range(a)), the object known -/
def tTupRgF (te : St → Hp → (Int → Int → Hp → Prop) → Prop) : TE := fun σ H Q => te σ H fun a b H1 => RgOk a b ∧ ∀ q o, H1 q = none → o.dict = none → Q (.ref q) (upd H1 q (.frz o (.tup (rgV a b))))
def dTupR (so : DenI) : Den := fun Φ ρ => (so Φ ρ).bind fun r => guard' (decide (r.1.length ≤ 1000000)) (.ok (.val (.tuple r.1), r.2))
end
/-! ### insert -/
def rInsertP : V → List V → Hp → VK → Prop := fun x vs H Q => ∃ (l : Addr) (xs : List V) (i : Int) (y : V), x = .ref l ∧ vs = [.int i, y] ∧ H l = some (.lst xs) ∧ xs.length < sizeLine ∧ 0 ≤ i ∧ i < 2 ^ 63 ∧ Q .non (upd H l (.lst (xs.take i.toNat ++ [y] ++ xs.drop i.toNat)))
def mInsert : MutF := fun ds as => match as with
  | [.int i, d] => if decide (0 ≤ i) && decide (i < 2 ^ 62) && decide (ds.length < 1000000) then some (.none, ds.take i.toNat ++ [d] ++ ds.drop i.toNat) else none
  | _ => none
section
variable {Γ : Ctx} {as : DenOs} {p : Bool} {pos xpos apos : Pos} {e f : Expr} {x : Str} {i : Nat}
end
end Dn

/-! Den37: how the meanings of Den35, Den36 are taken apart. -/
namespace Dn
open PySem PySem.Spec L2
open PyProof.Rows hiding St
section
variable {Φ : Calls} {ρ : Env} {a b c : DenO} {e d : Den} {as : DenOs} {i j : Nat} {x k v : PyData} {ds : List PyData} {es : List (PyData × PyData)} {t neg : Bool} {s : Slot} {n m : Int} {so : DenI}
@[simp] theorem x_isTab : isTab ρ i = ((ρ[i]?).bind tabOf).isSome := id rfl
@[simp] theorem x_tabOf1 : tabOf (.odc t es) = some (t, es) := id rfl
@[simp] theorem x_tabOf2 : tabOf (.val (.dict es)) = some (false, es) := id rfl
def kTg2 (o : Option PyData) (ρ : Env) : Out (Slot × Env) := (opt o).bind fun d => .ok (.val d, ρ)
def kTg (o : Option (Bool × List (PyData × PyData))) (x : PyData) (ρ : Env) : Out (Slot × Env) := match o with
  | some (t, es) => guard' (kOk t x) (kTg2 (lookD es x) ρ)
  | none => .stuck
def kTg0 (i : Nat) : PyData × Env → Out (Slot × Env) := fun x => kTg ((x.2[i]?).bind tabOf) x.1 x.2
@[simp] theorem x_dTGet : dTGet i a Φ ρ = guard' (isTab ρ i) ((a Φ ρ).bind (kTg0 i)) := id rfl
@[simp] theorem x_dTGet0 : kTg0 i (x, ρ) = kTg ((ρ[i]?).bind tabOf) x ρ := id rfl
@[simp] theorem x_dTGet1 : kTg (some (t, es)) x ρ = guard' (kOk t x) (kTg2 (lookD es x) ρ) := id rfl
@[simp] theorem x_dTGet2 : kTg2 (some x) ρ = .ok (.val x, ρ) := id rfl
def kTi (neg : Bool) (o : Option (Bool × List (PyData × PyData))) (x : PyData) (ρ : Env) : Out (Slot × Env) := match o with
  | some (t, es) => guard' (kOk t x) (.ok (.val (.bool (if neg = true then !(lookD es x).isSome else (lookD es x).isSome)), ρ))
  | none => .stuck
def kTi0 (neg : Bool) (i : Nat) : PyData × Env → Out (Slot × Env) := fun x => kTi neg ((x.2[i]?).bind tabOf) x.1 x.2
@[simp] theorem x_dTIn : dTIn neg i a Φ ρ = (a Φ ρ).bind (kTi0 neg i) := id rfl
@[simp] theorem x_dTIn0 : kTi0 neg i (x, ρ) = kTi neg ((ρ[i]?).bind tabOf) x ρ := id rfl
@[simp] theorem x_dTIn1 : kTi true (some (t, es)) x ρ = guard' (kOk t x) (.ok (.val (.bool (!(lookD es x).isSome)), ρ)) := id rfl
@[simp] theorem x_dTIn2 : kTi false (some (t, es)) x ρ = guard' (kOk t x) (.ok (.val (.bool ((lookD es x).isSome)), ρ)) := id rfl
def kTp2 (o : Option Slot) (i : Nat) (k v : PyData) (ρ : Env) : Out (Fl × Env) := match o with
  | some (.odc t es) => guard' (kOk t k && decide (es.length < 1000000)) (.ok (.nx, ρ.set i (.odc t (putD es k v))))
  | _ => .stuck
def kTp1 (i : Nat) (v : PyData) : PyData × Env → Out (Fl × Env) := fun j => kTp2 (j.2[i]?) i j.1 v j.2
def kTp (i : Nat) (a : DenO) (Φ : Calls) : PyData × Env → Out (Fl × Env) := fun r => guard' (isTab r.2 i) ((a Φ r.2).bind (kTp1 i r.1))
@[simp] theorem x_dTPut : dTPut i a e Φ ρ = (oOf e Φ ρ).bind (kTp i a Φ) := id rfl
@[simp] theorem x_dTPut0 : kTp i a Φ (v, ρ) = guard' (isTab ρ i) ((a Φ ρ).bind (kTp1 i v)) := id rfl
@[simp] theorem x_dTPut1 : kTp1 i v (k, ρ) = kTp2 (ρ[i]?) i k v ρ := id rfl
@[simp] theorem x_dTPut2 : kTp2 (some (.odc t es)) i k v ρ = guard' (kOk t k && decide (es.length < 1000000)) (.ok (.nx, ρ.set i (.odc t (putD es k v)))) := id rfl
@[simp] theorem x_dNewD : dNewD t Φ ρ = .ok (.odc t [], ρ) := id rfl
@[simp] theorem x_dDispI : dDispI n m Φ ρ = .ok (.odc false [(.int n, .int m)], ρ) := id rfl
def kDn (o : Option Slot) (ρ : Env) : Out (Slot × Env) := match o with
  | some (.val d) => guard' (keyT d).isSome (.ok (.odc true [(d, .none)], ρ))
  | _ => .stuck
@[simp] theorem x_dDispN : dDispN j Φ ρ = kDn (ρ[j]?) ρ := id rfl
@[simp] theorem x_dDispN1 : kDn (some (.val x)) ρ = guard' (keyT x).isSome (.ok (.odc true [(x, .none)], ρ)) := id rfl
def kIk (o : Option Slot) (i : Nat) (ρ : Env) : Out (List PyData × Env) := match o with
  | some (.odc false es) => .ok (es.map (·.1), ρ.set i (.val (.dict es)))
  | _ => .stuck
@[simp] theorem x_iDictK : iDictK i Φ ρ = kIk (ρ[i]?) i ρ := id rfl
@[simp] theorem x_iDictK1 : kIk (some (.odc false es)) i ρ = .ok (es.map (·.1), ρ.set i (.val (.dict es))) := id rfl
def kLd : Slot × Env → Out (Slot × Env) := fun r => match r.1 with
  | .odc true es => guard' (decide (es.length ≤ 1000000)) (.ok (.own (es.map (·.1)), r.2))
  | _ => .stuck
@[simp] theorem x_dListD : dListD d Φ ρ = (d Φ ρ).bind kLd := id rfl
@[simp] theorem x_dListD1 : kLd (.odc true es, ρ) = guard' (decide (es.length ≤ 1000000)) (.ok (.own (es.map (·.1)), ρ)) := id rfl
@[simp] theorem x_isTabF1 : isTabF (.odc false es :: ρ) 0 = true := id rfl
@[simp] theorem x_isTabF2 : isTabF (.val (.dict es) :: ρ) 0 = true := id rfl
@[simp] theorem x_isTabF3 : isTabF (s :: ρ) (i + 1) = isTabF ρ i := by
  unfold isTabF
  rw [List.getElem?_cons_succ]
def kGd (o : Option (Bool × List (PyData × PyData))) (l : List PyData) (ρ : Env) : Out (Slot × Env) := match o, l with
  | some (false, es), [k, d] => guard' (keyK k).isSome (.ok (.val ((lookD es k).getD d), ρ))
  | _, _ => .stuck
def kGd0 (i : Nat) : List PyData × Env → Out (Slot × Env) := fun x => kGd ((x.2[i]?).bind tabOf) x.1 x.2
@[simp] theorem x_dTGetD : dTGetD i as Φ ρ = guard' (isTabF ρ i) ((as Φ ρ).bind (kGd0 i)) := id rfl
@[simp] theorem x_dTGetD0 : kGd0 i (ds, ρ) = kGd ((ρ[i]?).bind tabOf) ds ρ := id rfl
@[simp] theorem x_dTGetD1 : kGd (some (false, es)) [k, v] ρ = guard' (keyK k).isSome (.ok (.val ((lookD es k).getD v), ρ)) := id rfl
def kMv (o : Option Slot) (i j : Nat) (ρ : Env) : Out (Fl × Env) := match o with
  | some (.val d) => .ok (.nx, ρ.set i (.val d))
  | some (.own ds) => .ok (.nx, (ρ.set j .un).set i (.own ds))
  | some (.odc t es) => .ok (.nx, (ρ.set j .un).set i (.odc t es))
  | _ => .stuck
@[simp] theorem x_dMvS : dMvS i j Φ ρ = kMv (ρ[j]?) i j ρ := id rfl
@[simp] theorem x_dMvS1 : kMv (some (.val x)) i j ρ = .ok (.nx, ρ.set i (.val x)) := id rfl
@[simp] theorem x_dMvS2 : kMv (some (.own ds)) i j ρ = .ok (.nx, (ρ.set j .un).set i (.own ds)) := id rfl
@[simp] theorem x_dMvS3 : kMv (some (.odc t es)) i j ρ = .ok (.nx, (ρ.set j .un).set i (.odc t es)) := id rfl
@[simp] theorem x_kOkI : kOk false (.int n) = true := id rfl
@[simp] theorem x_kOkP {p : Int × Int} : kOk true (prD p) = true := id rfl
@[simp] theorem x_kOkP2 : kOk true (.tuple [.int n, .int m]) = true := id rfl
@[simp] theorem x_keyKI : keyK (.int n) = some (.inl n) := id rfl
@[simp] theorem x_keyTP {p : Int × Int} : keyT (prD p) = some (.tup [.num p.1, .num p.2]) := id rfl
@[simp] theorem x_keyTP2 : keyT (.tuple [.int n, .int m]) = some (.tup [.num n, .num m]) := id rfl
@[simp] theorem x_orI : pOrI [.int n, .int m] = some (.val (.int (Builtin.bitOr n m))) := id rfl
def kTr : List PyData × Env → Out (Slot × Env) := fun r => guard' (decide (r.1.length ≤ 1000000)) (.ok (.val (.tuple r.1), r.2))
@[simp] theorem x_dTupR : dTupR so Φ ρ = (so Φ ρ).bind kTr := id rfl
@[simp] theorem x_dTupR1 : kTr (ds, ρ) = guard' (decide (ds.length ≤ 1000000)) (.ok (.val (.tuple ds), ρ)) := id rfl
def kR3c (x y : PyData) : PyData × Env → Out (List PyData × Env) := fun t => match x, y, t.1 with
  | .int i, .int j, .int k => guard' (rg3B i j k (Builtin.Range.rangeSize i j k).toNat) (.ok (rngC i k (Builtin.Range.rangeSize i j k).toNat, t.2))
  | _, _, _ => .stuck
def kR3b (c : DenO) (Φ : Calls) (x : PyData) : PyData × Env → Out (List PyData × Env) := fun s => (c Φ s.2).bind (kR3c x s.1)
def kR3 (b c : DenO) (Φ : Calls) : PyData × Env → Out (List PyData × Env) := fun r => (b Φ r.2).bind (kR3b c Φ r.1)
@[simp] theorem x_iR3 : iR3 a b c Φ ρ = (a Φ ρ).bind (kR3 b c Φ) := id rfl
@[simp] theorem x_iR3a : kR3 b c Φ (x, ρ) = (b Φ ρ).bind (kR3b c Φ x) := id rfl
@[simp] theorem x_iR3b : kR3b c Φ x (k, ρ) = (c Φ ρ).bind (kR3c x k) := id rfl
@[simp] theorem x_iR3c {l : Int} : kR3c (.int n) (.int m) (.int l, ρ) = guard' (rg3B n m l (Builtin.Range.rangeSize n m l).toNat) (.ok (rngC n l (Builtin.Range.rangeSize n m l).toNat, ρ)) := id rfl
end
/-! ### tables of pairs -/
/-- keys pairs -/
def tabP {α : Type} (f : α → PyData) (L : List ((Int × Int) × α)) : List (PyData × PyData) := L.map fun e => (prD e.1, f e.2)
def lookL {κ α : Type} [DecidableEq κ] (L : List (κ × α)) (k : κ) : Option α := (L.find? fun e => decide (e.1 = k)).map (·.2)
def putL {κ α : Type} [DecidableEq κ] (L : List (κ × α)) (k : κ) (v : α) : List (κ × α) := if (lookL L k).isSome = true then L.map (fun e => if e.1 = k then (e.1, v) else e) else L ++ [(k, v)]
/-- keys by a coding -/
theorem lookD_enc {κ α : Type} [DecidableEq κ] (enc : κ → PyData) (he : ∀ a b, kEq (enc a) (enc b) = decide (a = b)) (f : α → PyData) : ∀ (L : List (κ × α)) (k : κ), lookD (L.map fun e => (enc e.1, f e.2)) (enc k) = (lookL L k).map f
  | [], _ => rfl
  | e :: L, k => by
    have ih := lookD_enc enc he f L k
    unfold lookD lookL at ih ⊢
    rw [List.map_cons, List.find?_cons, List.find?_cons]
    have h := he e.1 k
    by_cases c : e.1 = k
    · subst c
      simp only [h, decide_true, Option.map_some]
    · simp only [h, c, decide_false]
      exact ih
theorem putD_enc {κ α : Type} [DecidableEq κ] (enc : κ → PyData) (he : ∀ a b, kEq (enc a) (enc b) = decide (a = b)) (f : α → PyData) (L : List (κ × α)) (k : κ) (v : α) : putD (L.map fun e => (enc e.1, f e.2)) (enc k) (f v) = (putL L k v).map fun e => (enc e.1, f e.2) := by
  unfold putD putL
  rw [lookD_enc enc he f, Option.isSome_map]
  split
  · rw [List.map_map, List.map_map]
    refine List.map_congr_left fun e _ => ?_
    have h := he e.1 k
    by_cases c : e.1 = k
    · have h1 : kEq (enc k) (enc k) = true := by rw [he]; exact decide_eq_true rfl
      simp [h1, c]
    · simp [h, c]
  · rw [List.map_append]
    rfl
section
variable {κ α : Type} [DecidableEq κ]
theorem lookL_none {L : List (κ × α)} {k : κ} : lookL L k = none ↔ k ∉ L.map (·.1) := by
  unfold lookL
  rw [Option.map_eq_none_iff, List.find?_eq_none, List.mem_map]
  constructor
  · rintro h ⟨e, he, rfl⟩
    exact h e he (decide_eq_true rfl)
  · intro h e he z
    exact h ⟨e, he, of_decide_eq_true z⟩
theorem lookL_some {L : List (κ × α)} {k : κ} {v : α} (h : lookL L k = some v) : (k, v) ∈ L := by
  obtain ⟨e, he, rfl⟩ := Option.map_eq_some_iff.mp h
  have h1 := List.mem_of_find?_eq_some he
  have h2 : e.1 = k := by simpa using List.find?_some he
  rw [← h2]
  exact h1
theorem lookL_of {L : List (κ × α)} (nd : (L.map (·.1)).Nodup) {k : κ} {v : α} (h : (k, v) ∈ L) : lookL L k = some v := by
  induction L with
  | nil => cases h
  | cons e L ih =>
    rw [List.map_cons, List.nodup_cons] at nd
    unfold lookL
    rw [List.find?_cons]
    rcases List.mem_cons.mp h with z | z
    · subst z
      simp
    · have ne : ¬ e.1 = k := fun q => nd.1 (by rw [q]; exact List.mem_map.mpr ⟨_, z, rfl⟩)
      simp only [ne, decide_false]
      exact ih nd.2 z
end
end Dn

/-! Den38: things of any kind, for the laws that hand them in (plain). -/
namespace Dn
open PySem PySem.Spec L2
open PyProof.Rows hiding St
/-- small data -/
abbrev L0 (d : PyData) : Prop := Sn 12 17000 d
theorem big100' : (1000000 : Nat) < 2 ^ 100 := by decide
theorem L0.int {i : Int} (h : -1000000 < i ∧ i < 1000000) : Sn 1 2000 (.int i) := .int (Nat.lt_trans (by omega) big100') (by decide)
theorem L0.tup8 {ds : List PyData} (h : ∀ d ∈ ds, Sn 11 2000 d) (hl : ds.length ≤ 8) : L0 (.tuple ds) := .tup (k := 11) (w := 2000) h (by decide) (by omega)
theorem L0.ns {ns : List Int} (h : ∀ i ∈ ns, -1000000 < i ∧ i < 1000000) (hl : ns.length ≤ 8) : L0 (.tuple (nsD ns)) := .tup8 (fun d hd => by
  obtain ⟨i, hi, rfl⟩ := List.mem_map.mp hd
  exact (L0.int (h i hi)).mono (by decide) (by decide)) (by rw [List.length_map]; exact hl)
theorem L0.pr {p : Int × Int} (h : (-1000000 < p.1 ∧ p.1 < 1000000) ∧ -1000000 < p.2 ∧ p.2 < 1000000) : L0 (prD p) := L0.ns (ns := [p.1, p.2]) (fun i hi => by
  simp only [List.mem_cons, List.not_mem_nil, or_false] at hi
  rcases hi with rfl | rfl
  · exact h.1
  · exact h.2) (by simp)
/-- what is handed in -/
structure Thing (d : PyData) : Prop where
  rp : reprOk d = true
  ln : ∀ ds, d = .list ds → ds.length ≤ 900
theorem Thing.lst {ds : List PyData} (h : ∀ d ∈ ds, L0 d) (hl : ds.length ≤ 900) : Thing (.list ds) :=
  ⟨(Sn.lst (k := 12) (w := 17000) (k' := 13) (w' := 15990000) h (by decide) (by omega)).repr (by decide) (by decide), fun es e => by cases e; exact hl⟩
theorem Thing.tup {ds : List PyData} (h : ∀ d ∈ ds, L0 d) (hl : ds.length ≤ 900) : Thing (.tuple ds) :=
  ⟨(Sn.tup (k := 12) (w := 17000) (k' := 13) (w' := 15990000) h (by decide) (by omega)).repr (by decide) (by decide), fun es e => by cases e⟩
theorem L0.thing {d : PyData} (h : L0 d) (hl : ∀ ds, d = .list ds → ds.length ≤ 900) : Thing d := ⟨h.repr (by decide) (by decide), hl⟩
/-- a result that is such a thing -/
def ResT (s : Slot) : Prop := ∃ d, (s = .val d ∨ ∃ ds, s = .own ds ∧ d = .list ds) ∧ Thing d
theorem ResT.val {d : PyData} (h : Thing d) : ResT (.val d) := ⟨d, .inl rfl, h⟩
theorem ResT.own {ds : List PyData} (h : Thing (.list ds)) : ResT (.own ds) := ⟨_, .inr ⟨ds, rfl, rfl⟩, h⟩
theorem addL {A B : List PyData} (h : A.length + B.length ≤ 1000000) : pAdd [.list A, .list B] = some (.own (A ++ B)) := by
  show (if A.length + B.length ≤ 1000000 then some (Slot.own (A ++ B)) else none) = _
  rw [if_pos h]
theorem psD_len (L : List (Int × Int)) : (psD L).length = L.length := List.length_map _
/-- all of the one are of the other -/
def SubP (F T : List (Int × Int)) : Prop := ∀ p ∈ F, p ∈ T
theorem SubP.snoc {F T : List (Int × Int)} {u : Int × Int} (h : SubP F T) (hu : u ∈ T) : SubP (F ++ [u]) T := fun p hp => (List.mem_append.mp hp).elim (h p) fun z => by rw [List.mem_singleton.mp z]; exact hu
theorem SubP.one {T : List (Int × Int)} {u : Int × Int} (hu : u ∈ T) : SubP [u] T := fun p z => by rw [List.mem_singleton.mp z]; exact hu
theorem SubP.nil {T : List (Int × Int)} : SubP [] T := fun p z => absurd z List.not_mem_nil
theorem SubP.filter {T : List (Int × Int)} {f : Int × Int → Bool} : SubP (T.filter f) T := fun p hp => (List.mem_filter.mp hp).1
theorem SubP.refl {T : List (Int × Int)} : SubP T T := fun p hp => hp
theorem SubP.trans {A B C : List (Int × Int)} (h : SubP A B) (g : SubP B C) : SubP A C := fun p hp => g p (h p hp)
end Dn

/-! Den39: tables of a search: each thing with the one it comes of (plain). -/
namespace Dn
open PySem PySem.Spec L2
open PyProof.Rows hiding St
abbrev CamL := List ((Int × Int) × Option (Int × Int))
def optD : Option (Int × Int) → PyData
  | none => .none
  | some p => prD p
def camD (L : CamL) : List (PyData × PyData) := L.map fun e => (prD e.1, optD e.2)
def keysL (L : CamL) : List (Int × Int) := L.map (·.1)
theorem keysL_len (L : CamL) : (keysL L).length = L.length := List.length_map _
theorem keysL_app (L : CamL) (x : Int × Int) (o : Option (Int × Int)) : keysL (L ++ [(x, o)]) = keysL L ++ [x] := by simp [keysL]
/-- on the way back -/
def BackI (L : CamL) (T : List (Int × Int)) (k : Nat) (G : List (Int × Int)) : Prop := ∃ v F, G = v :: F ∧ v ∈ keysL L ∧ k = (keysL L).idxOf v ∧ F.length + k ≤ 64 ∧ SubP G T
/-- every thing but the first comes of an earlier one -/
structure Came (T : List (Int × Int)) (s : Int × Int) (E : Int × Int → Int × Int → Prop) (L : CamL) : Prop where
  nd : (keysL L).Nodup
  sub : SubP (keysL L) T
  hd : ∃ L', L = (s, none) :: L'
  pr : ∀ (i : Nat) (e : (Int × Int) × Option (Int × Int)), L[i]? = some e → i ≠ 0 → ∃ (j : Nat) (y : Int × Int), j < i ∧ (keysL L)[j]? = some y ∧ e.2 = some y ∧ E y e.1
section
variable {T : List (Int × Int)} {s : Int × Int} {E : Int × Int → Int × Int → Prop} {L : CamL}
theorem Came.start (hs : s ∈ T) : Came T s E [(s, none)] := by
  refine ⟨by simp [keysL], fun p hp => ?_, ⟨[], rfl⟩, fun i e h ne => ?_⟩
  · have hp : p ∈ [s] := hp
    rw [List.mem_singleton.mp hp]; exact hs
  · cases i with
    | zero => exact absurd rfl ne
    | succ i => simp at h
theorem Came.len (c : Came T s E L) : L.length ≤ T.length := by
  have := nodup_sub_len (keysL L) T c.nd c.sub
  rwa [keysL_len] at this
theorem Came.push (c : Came T s E L) {x y : Int × Int} {j : Nat} (hx : x ∈ T) (hn : lookL L x = none) (hy : (keysL L)[j]? = some y) (he : E y x) : Came T s E (L ++ [(x, some y)]) := by
  have hn : x ∉ keysL L := lookL_none.mp hn
  have ek := keysL_app L x (some y)
  refine ⟨?_, ?_, ?_, fun i e h ne => ?_⟩
  · rw [ek]
    exact List.nodup_append.mpr ⟨c.nd, by simp, fun a ha b hb e => by
      rw [List.mem_singleton.mp hb] at e
      subst e
      exact hn ha⟩
  · rw [ek]; exact c.sub.snoc hx
  · obtain ⟨L', rfl⟩ := c.hd
    exact ⟨L' ++ [(x, some y)], rfl⟩
  · rw [ek]
    have lt : ∀ {k : Nat} {z : Int × Int}, (keysL L)[k]? = some z → (keysL L ++ [x])[k]? = some z := fun {k z} q => by
      have := (List.getElem?_eq_some_iff.mp q).1
      rw [List.getElem?_append_left this]
      exact q
    by_cases lti : i < L.length
    · rw [List.getElem?_append_left lti] at h
      obtain ⟨j', y', h1, h2, h3, h4⟩ := c.pr i e h ne
      exact ⟨j', y', h1, lt h2, h3, h4⟩
    · rw [List.getElem?_append_right (by omega)] at h
      have i0 : i - L.length = 0 := by
        have := (List.getElem?_eq_some_iff.mp h).1
        simp at this
        omega
      rw [i0] at h
      cases h
      have := (List.getElem?_eq_some_iff.mp hy).1
      rw [keysL_len] at this
      exact ⟨j, y, by omega, lt hy, rfl, he⟩
/-- a thing's entry -/
theorem Came.look (c : Came T s E L) {x : Int × Int} (hx : x ∈ keysL L) : ∃ o, lookL L x = some o ∧ ((o = none ∧ x = s) ∨ ∃ y, o = some y ∧ y ∈ keysL L ∧ (keysL L).idxOf y < (keysL L).idxOf x ∧ E y x) := by
  have hi := List.idxOf_lt_length_of_mem hx
  have gi : (keysL L)[(keysL L).idxOf x]? = some x := by
    rw [List.getElem?_eq_getElem hi, List.getElem_idxOf hi]
  rw [keysL_len] at hi
  have ei : L[(keysL L).idxOf x]? = some (L[(keysL L).idxOf x]'hi) := List.getElem?_eq_getElem hi
  generalize L[(keysL L).idxOf x]'hi = e at ei
  have ex : e.1 = x := by
    unfold keysL at gi ei
    rw [List.getElem?_map, ei] at gi
    exact Option.some.inj gi
  refine ⟨e.2, lookL_of c.nd (by rw [← ex]; exact List.mem_of_getElem? ei), ?_⟩
  by_cases z : (keysL L).idxOf x = 0
  · left
    obtain ⟨L', hL⟩ := c.hd
    rw [z, hL] at ei
    have : (s, none) = e := by simpa using ei
    rw [← this]
    refine ⟨rfl, ?_⟩
    rw [← ex, ← this]
  · right
    obtain ⟨j, y, h1, h2, h3, h4⟩ := c.pr _ e ei z
    refine ⟨y, h3, List.mem_of_getElem? h2, ?_, by rw [← ex]; exact h4⟩
    have hj := (List.getElem?_eq_some_iff.mp h2).1
    have : (keysL L).idxOf y = j := by
      have := (List.getElem?_eq_some_iff.mp h2).2
      rw [← this]
      exact c.nd.idxOf_getElem j hj
    omega
theorem Came.ne (c : Came T s E L) : L ≠ [] := by
  obtain ⟨L', rfl⟩ := c.hd
  simp
end
/-- a way back: each one comes of the one ahead -/
def BackP (s : Int × Int) (E : Int × Int → Int × Int → Prop) : List (Int × Int) → Prop
  | [] => False
  | [_] => True
  | a :: b :: F => E a b ∧ BackP s E (b :: F)
end Dn

/-! Den40: o[a], o[b] = x, y; (a, b), (c, d) = x, y. -/
namespace Dn
open PySem PySem.Spec L2
open PyProof.Rows hiding St
def notNm : Expr → Bool
  | .Subscript _ _ _ => true
  | .Tuple _ _ _ => true
  | _ => false
/-- o[a], o[b] = x, y: o an own list, a, b names -/
def dSwp (i k1 k2 : Nat) (vs : DenOs) : DenS := fun Φ ρ => (vs Φ ρ).bind fun r => match r.1, r.2[k1]?, r.2[k2]?, r.2[i]? with
  | [x, y], some (.val (.int a)), some (.val (.int b)), some (.own ds) => (opt (ixN ds.length a)).bind fun m => (opt (ixN ds.length b)).bind fun m2 => .ok (.nx, r.2.set i (.own ((ds.set m x).set m2 y)))
  | _, _, _, _ => .stuck
section
variable {Γ : Ctx} {x y z : Str} {i k1 k2 : Nat} {vs : DenOs} {p : Bool} {a b : Expr} {xp yp zp xp2 sp sp2 pos tp vp : Pos} {kt kv : Nat}
end
/-- (a, ..), (c, ..) = x, y: names -/
def dUn2 (is js : List Nat) (vs : DenOs) : DenS := fun Φ ρ => (vs Φ ρ).bind fun r => match r.1 with
  | [.tuple ds, .tuple es] => (opt (setAll is ds r.2)).bind fun ρ => (opt (setAll js es ρ)).bind fun ρ => .ok (.nx, ρ)
  | _ => .stuck
section
variable {Φ : Calls} {ρ : Env} {vs : DenOs} {i k1 k2 : Nat} {is js : List Nat} {ds es xs : List PyData} {x y : PyData} {a b : Int} {m m2 : Nat}
def kSw3 (o : Option Nat) (i : Nat) (ds : List PyData) (y : PyData) (ρ : Env) : Out (Fl × Env) := (opt o).bind fun m2 => .ok (.nx, ρ.set i (.own (ds.set m2 y)))
def kSw2 (o : Option Nat) (b : Int) (i : Nat) (ds : List PyData) (x y : PyData) (ρ : Env) : Out (Fl × Env) := (opt o).bind fun m => (opt (ixN ds.length b)).bind fun m2 => .ok (.nx, ρ.set i (.own ((ds.set m x).set m2 y)))
def kSw1 (l : List PyData) (o1 o2 o3 : Option Slot) (i : Nat) (ρ : Env) : Out (Fl × Env) := match l, o1, o2, o3 with
  | [x, y], some (.val (.int a)), some (.val (.int b)), some (.own ds) => kSw2 (ixN ds.length a) b i ds x y ρ
  | _, _, _, _ => .stuck
def kSw (i k1 k2 : Nat) : List PyData × Env → Out (Fl × Env) := fun r => kSw1 r.1 (r.2[k1]?) (r.2[k2]?) (r.2[i]?) i r.2
@[simp] theorem x_dSwp : dSwp i k1 k2 vs Φ ρ = (vs Φ ρ).bind (kSw i k1 k2) := id rfl
@[simp] theorem x_dSwp0 : kSw i k1 k2 (xs, ρ) = kSw1 xs (ρ[k1]?) (ρ[k2]?) (ρ[i]?) i ρ := id rfl
@[simp] theorem x_dSwp1 : kSw1 [x, y] (some (.val (.int a))) (some (.val (.int b))) (some (.own ds)) i ρ = kSw2 (ixN ds.length a) b i ds x y ρ := id rfl
def kUn3 (o : Option Env) : Out (Fl × Env) := (opt o).bind fun ρ => .ok (.nx, ρ)
def kUn2 (js : List Nat) (es : List PyData) (o : Option Env) : Out (Fl × Env) := (opt o).bind fun ρ => kUn3 (setAll js es ρ)
def kUn1 (is js : List Nat) : List PyData × Env → Out (Fl × Env) := fun r => match r.1 with
  | [.tuple ds, .tuple es] => kUn2 js es (setAll is ds r.2)
  | _ => .stuck
@[simp] theorem x_dUn2 : dUn2 is js vs Φ ρ = (vs Φ ρ).bind (kUn1 is js) := id rfl
@[simp] theorem x_dUn2a : kUn1 is js ([.tuple ds, .tuple es], ρ) = kUn2 js es (setAll is ds ρ) := id rfl
@[simp] theorem x_dUn2b : kUn2 js es (some ρ) = kUn3 (setAll js es ρ) := id rfl
@[simp] theorem x_dUn2c : kUn3 (some ρ) = .ok (.nx, ρ) := id rfl
end
end Dn

/-! Den41: sorted(t) of a tuple too. -/
namespace Dn
open PySem PySem.Spec L2
open PyProof.Rows hiding St
section
open PySem.W PySem.Calls
variable {prog : Program} {w : World} {A : Around} {E : Value → Shared → Prop} {s : Shared} {β : Type} {enc : β → PyData} {R : Value → β → Prop} {vs : List Value} {bs : List β}
end
/-- sorted of a list or a tuple -/
def pSortS : Prim
  | [.tuple ds] => if sortOk ds && decide (ds.length ≤ 1000000) then some (.own (sortD ds)) else none
  | xs => pSorted xs
@[simp] theorem pSortS_list (ds : List PyData) : pSortS [.list ds] = pSorted [.list ds] := id rfl
def rSortS (K : PySem.W.Frag) : List V → Hp → VK → Prop := fun vs H Q => rSortF K vs H Q ∨ ∃ (a : Addr) (zs : List (PyData × V)), vs = [.ref a] ∧ (SqL K H a (zs.map (·.2)) ∨ SqT K H a (zs.map (·.2))) ∧ (∀ z ∈ zs, Dp K H z.2 z.1) ∧ sortOk (zs.map (·.1)) = true ∧
  ∀ p, H p = none → Q (.ref p) (upd H p (.lst ((zs.mergeSort (PySem.W.dataLe false Prod.fst)).map (·.2))))
section
variable {Γ : Ctx} {d : DenOs} {p : Bool} {pos fpos : Pos} {a : Expr} {es : List Expr}
end
end Dn

/-! Den42: rows (all things in some order), as plain lists. -/
namespace Dn
open PySem PySem.Spec L2
open PyProof.Rows hiding St
def leI (a b : Int) : Bool := decide (a ≤ b)
def sortI (ns : List Int) : List Int := ns.mergeSort leI
theorem sh_i (p : Int) : SeqAt.shaped (.int p) = true := by
  have := sh_nsT [p]
  unfold SeqAt.shaped at this ⊢
  simp [PyData.depth, PyData.canLay0, PyData.canLayAll0, PyData.depthAll] at this ⊢
theorem leI_trans {a b c : Int} (h : leI a b = true) (g : leI b c = true) : leI a c = true := by
  unfold leI at *
  simp only [decide_eq_true_eq] at *
  omega
theorem leI_total (a b : Int) : (leI a b || leI b a) = true := by
  unfold leI
  simp only [Bool.or_eq_true, decide_eq_true_eq]
  omega
theorem sortI_perm (ns : List Int) : (sortI ns).Perm ns := List.mergeSort_perm ns leI
theorem x_inN (ns : List Int) (x : Int) : pIn [.int x, .tuple (nsD ns)] = some (.val (.bool (decide (x ∈ ns)))) := by
  unfold pIn
  simp only [sh_i, sh_nsT, any_int, Bool.and_self, if_true]
theorem x_ninN (ns : List Int) (x : Int) : pNin [.int x, .tuple (nsD ns)] = some (.val (.bool (!decide (x ∈ ns)))) := by
  unfold pNin
  simp only [sh_i, sh_nsT, any_int, Bool.and_self, if_true]
theorem addT {A B : List PyData} (h : A.length + B.length ≤ 1000000) : pAdd [.tuple A, .tuple B] = some (.val (.tuple (A ++ B))) := by
  show (if A.length + B.length ≤ 1000000 then some (Slot.val (.tuple (A ++ B))) else none) = _
  rw [if_pos h]
def intOf : PyData → Int
  | .int i => i
  | _ => 0
/-- a tuple of all things -/
def rowT (m : Nat) : PyData → Bool
  | .tuple ds => decide (ds.length = m) && (ds.all isW && decide (sortI (ds.map intOf) = upTo m))
  | _ => false
/-- which stands ahead -/
def aheadB (ns : List Int) (p : Int × Int) : Bool := decide (ns.idxOf p.1 < ns.idxOf p.2)
def fitsD (ps : List (Int × Int)) : PyData → Bool
  | .tuple ds => ps.all (aheadB (ds.map intOf))
  | _ => false
def rowD (m : Nat) (ps : List (Int × Int)) (x : PyData) : Bool := rowT m x && fitsD ps x
/-- a row whose things are in the order's bounds -/
theorem perm_has {m : Nat} {ns : List Int} (h : ns.Perm (upTo m)) {x : Int} (h0 : 0 ≤ x) (h1 : x < m) : x ∈ ns := h.mem_iff.mpr (mem_upTo.mpr ⟨h0, h1⟩)
/-- things not yet in the row that may come next, in the order of their numbers -/
def freeI (m : Nat) (ps : List (Int × Int)) (R : List Int) : List Int := (upTo m).filter fun t => decide (t ∉ R) && ps.all fun p => !(decide (p.2 = t) && !decide (p.1 ∈ R))
theorem mem_free {m : Nat} {ps : List (Int × Int)} {R : List Int} {t : Int} : t ∈ freeI m ps R ↔ t ∈ upTo m ∧ t ∉ R ∧ ∀ p ∈ ps, p.2 = t → p.1 ∈ R := by
  unfold freeI
  rw [List.mem_filter]
  simp only [Bool.and_eq_true, decide_eq_true_eq, List.all_eq_true, Bool.not_eq_true', Bool.and_eq_false_iff, decide_eq_false_iff_not, Bool.not_eq_false']
  refine and_congr_right fun _ => and_congr_right fun _ => forall_congr' fun p => forall_congr' fun hp => ?_
  constructor
  · rintro (h | h) e
    · exact absurd e h
    · exact h
  · intro h
    by_cases e : p.2 = t
    · exact .inr (h e)
    · exact .inl e
theorem perm_of_full {m : Nat} {R : List Int} (nd : R.Nodup) (sub : ∀ x ∈ R, x ∈ upTo m) (hl : m ≤ R.length) : R.Perm (upTo m) := by
  refine (List.perm_ext_iff_of_nodup nd (upTo_nd m)).mpr fun x => ⟨sub x, fun hx => Classical.byContradiction fun z => ?_⟩
  have := nodup_sub_len (x :: R) (upTo m) (List.nodup_cons.mpr ⟨z, nd⟩) fun y hy => (List.mem_cons.mp hy).elim (fun e => by rw [e]; exact hx) (sub y)
  rw [List.length_cons, upTo_len] at this
  omega
theorem upTo_succ (m : Nat) : upTo (m + 1) = upTo m ++ [(m : Int)] := by simp [upTo, List.range_succ]
/-- so far all that has something ahead of it has it ahead -/
def AhdI (ps : List (Int × Int)) (R : List Int) : Prop := ∀ p ∈ ps, p.2 ∈ R → aheadB R p = true
theorem ahd_snoc {ps : List (Int × Int)} {R : List Int} {t : Int} (h : AhdI ps R) (ht : t ∉ R) (g : ∀ p ∈ ps, p.2 = t → p.1 ∈ R) : AhdI ps (R ++ [t]) := fun p hp hm => by
  unfold aheadB
  rw [decide_eq_true_eq]
  by_cases c : p.2 ∈ R
  · have := h p hp c
    unfold aheadB at this
    rw [decide_eq_true_eq] at this
    have m1 : p.1 ∈ R := List.idxOf_lt_length_iff.mp (Nat.lt_of_lt_of_le this (List.idxOf_le_length))
    rw [List.idxOf_append, if_pos m1, List.idxOf_append, if_pos c]
    exact this
  · have e : p.2 = t := by simpa [c] using hm
    have m1 := g p hp e
    rw [List.idxOf_append, if_pos m1, List.idxOf_append, if_neg c]
    have := List.idxOf_lt_length_iff.mpr m1
    omega
theorem ahd_all {m : Nat} {ps : List (Int × Int)} (o : IsOrd m ps) {R : List Int} (h : AhdI ps R) (pm : R.Perm (upTo m)) : ps.all (aheadB R) = true := by
  rw [List.all_eq_true]
  exact fun p hp => h p hp (perm_has pm (o.bd p hp).2.2.1 (o.bd p hp).2.2.2)
end Dn

/-! Den43: lists of rows, what they tell, all rows of an order. -/
namespace Dn
open PySem PySem.Spec L2
open PyProof.Rows hiding St
theorem x_eqPT (ps qs : List (Int × Int)) : pEq [.tuple (psD ps), .tuple (psD qs)] = some (.val (.bool (decide (ps = qs)))) := by
  unfold pEq
  simp only [sh_psT, PyData.eqv, eqv_ps, Bool.and_self, if_true, beq_dec]
/-- the whole numbers of a row -/
def rowOf : PyData → List Int
  | .tuple ds => ds.map intOf
  | _ => []
/-- a list of one or more rows -/
def rowsD (m : Nat) (ps : List (Int × Int)) : PyData → Bool
  | .list ds => decide (ds ≠ []) && ds.all (rowD m ps)
  | _ => false
def rsOf : PyData → List (List Int)
  | .list ds => ds.map rowOf
  | _ => []
/-- rows of an order, as plain lists -/
def RowsI (m : Nat) (ps : List (Int × Int)) (rs : List (List Int)) : Prop := ∀ r ∈ rs, r.Perm (upTo m) ∧ ps.all (aheadB r) = true
/-- a list of rows that tells the order -/
def tellD (m : Nat) (ps : List (Int × Int)) (x : PyData) : Bool := rowsD m ps x && decide (toldP m (rsOf x) = ps)
/-- all beginnings of rows of so many things, in the order of tuples -/
def rowsI (m : Nat) (ps : List (Int × Int)) : Nat → List (List Int)
  | 0 => [[]]
  | t + 1 => (rowsI m ps t).flatMap fun r => (freeI m ps r).map fun x => r ++ [x]
theorem freeI_len (m : Nat) (ps : List (Int × Int)) (R : List Int) : (freeI m ps R).length ≤ m := by
  have := List.length_filter_le (fun t => decide (t ∉ R) && ps.all fun p => !(decide (p.2 = t) && !decide (p.1 ∈ R))) (upTo m)
  rw [upTo_len] at this
  exact this
theorem flat_len {α β : Type} (f : α → List β) (k : Nat) : ∀ xs : List α, (∀ x ∈ xs, (f x).length ≤ k) → (xs.flatMap f).length ≤ xs.length * k
  | [], _ => Nat.zero_le _
  | x :: xs, h => by
    rw [List.flatMap_cons, List.length_append, List.length_cons, Nat.succ_mul]
    have h1 := h x List.mem_cons_self
    have h2 := flat_len f k xs fun y hy => h y (List.mem_cons_of_mem _ hy)
    omega
theorem rowsI_len (m : Nat) (ps : List (Int × Int)) : ∀ t, (rowsI m ps t).length ≤ m ^ t
  | 0 => Nat.le_refl _
  | t + 1 => by
    have h := flat_len (fun r => (freeI m ps r).map fun x => r ++ [x]) m (rowsI m ps t) fun r _ => by rw [List.length_map]; exact freeI_len m ps r
    exact Nat.le_trans h (Nat.mul_le_mul_right m (rowsI_len m ps t))
/-- a beginning of a row -/
structure Beg (m : Nat) (ps : List (Int × Int)) (r : List Int) : Prop where
  nd : r.Nodup
  sub : ∀ x ∈ r, x ∈ upTo m
  ahd : AhdI ps r
theorem Beg.nil {m : Nat} {ps : List (Int × Int)} : Beg m ps [] := ⟨List.nodup_nil, fun _ h => absurd h List.not_mem_nil, fun _ _ h => absurd h List.not_mem_nil⟩
theorem Beg.snoc {m : Nat} {ps : List (Int × Int)} {r : List Int} {x : Int} (b : Beg m ps r) (h : x ∈ freeI m ps r) : Beg m ps (r ++ [x]) := by
  obtain ⟨h1, h2, h3⟩ := mem_free.mp h
  refine ⟨List.nodup_append.mpr ⟨b.nd, by simp, by rintro a ha c hc rfl; rw [List.mem_singleton.mp hc] at ha; exact h2 ha⟩, fun y hy => ?_, ahd_snoc b.ahd h2 h3⟩
  rcases List.mem_append.mp hy with hy | hy
  · exact b.sub y hy
  · rw [List.mem_singleton.mp hy]; exact h1
theorem rowsI_beg (m : Nat) (ps : List (Int × Int)) : ∀ t, ∀ r ∈ rowsI m ps t, Beg m ps r ∧ r.length = t
  | 0, r, h => by rw [List.mem_singleton.mp h]; exact ⟨.nil, rfl⟩
  | t + 1, r, h => by
    obtain ⟨q, hq, h⟩ := List.mem_flatMap.mp h
    obtain ⟨x, hx, rfl⟩ := List.mem_map.mp h
    have := rowsI_beg m ps t q hq
    exact ⟨this.1.snoc hx, by rw [List.length_append, this.2]; rfl⟩
end Dn

/-! Den44: points (each thing's two numbers). -/
namespace Dn
open PySem PySem.Spec L2
open PyProof.Rows hiding St
/-- a tuple of two whole numbers -/
def isPt : PyData → Bool
  | .tuple ds => decide (ds.length = 2) && ds.all isW
  | _ => false
def ptOf : PyData → Int × Int
  | .tuple [.int a, .int b] => (a, b)
  | _ => (0, 0)
/-- a thing's point -/
def gP (F : List (Int × Int)) (t : Int) : Int × Int := F.getD t.toNat (0, 0)
/-- less in both -/
def lessB (F : List (Int × Int)) (p : Int × Int) : Bool := decide ((gP F p.1).1 < (gP F p.2).1) && decide ((gP F p.1).2 < (gP F p.2).2)
def domP (m : Nat) (F : List (Int × Int)) : List (Int × Int) := (gridP m).filter (lessB F)
/-- points of an order -/
def ptsF (m : Nat) (ps F : List (Int × Int)) : Bool := decide (sortI (F.map (·.1)) = upTo m) && (decide (sortI (F.map (·.2)) = upTo m) && decide (domP m F = ps))
def ptsD (m : Nat) (ps : List (Int × Int)) : PyData → Bool
  | .list ds => decide (ds.length = m) && (ds.all isPt && ptsF m ps (ds.map ptOf))
  | _ => false
/-- so far what is less is so in the order -/
def LessOk (F ps L : List (Int × Int)) : Prop := ∀ p ∈ L, lessB F p = decide (p ∈ ps)
theorem LessOk.nil {F ps : List (Int × Int)} : LessOk F ps [] := fun _ h => absurd h List.not_mem_nil
theorem LessOk.app {F ps A B : List (Int × Int)} (h : LessOk F ps A) (g : LessOk F ps B) : LessOk F ps (A ++ B) := fun p hp => (List.mem_append.mp hp).elim (h p) (g p)
theorem LessOk.one {F ps : List (Int × Int)} {p : Int × Int} (h : lessB F p = decide (p ∈ ps)) : LessOk F ps [p] := fun q hq => by rw [List.mem_singleton.mp hq]; exact h
end Dn

/-! Den45: refusals: raise, the mark of a refusal that is held, try. -/
namespace Dn
open PySem PySem.Spec L2
open PyProof.Rows hiding St

/-! ### the class of a refusal, asked of it -/
section
open PySem.W PySem.Calls in
theorem find_cls {K : Frag} {D : Addr} {od : Option Obj} (c : ExcC K D) : findObj K D od "__class__" = some (.bind (.builtin "getset_descriptor.__get__") (.builtin "object.__class__")) := by
  obtain ⟨cd, e, _⟩ := any_some c.hd
  show (clsIn K D).bind _ = _
  rw [e, Option.bind_some, c.ha, Option.bind_some]
  simp only [c.hn, c.ht, Option.bind_some]
open PySem.W PySem.Calls in
theorem ask_cls {P : Program} {w : World} {A : Around} {E : Value → Shared → Prop} {s : Shared} {K : Frag} {a D : Addr} {o : Obj} {od : Option Obj} {Q : Option Value → Shared → Prop} (c : ExcC K D) (hk : K.In s.heap) (i : InstAt s.heap a o D od) (q : Q (some (.ref D)) { s with toks := s.toks + 1 }) :
    wpAny (model P w) A (getAttr? (.ref a) "__class__") Q E s := by
  have ty := i.type (M := model P w)
  have fd := looks_find (M := model P w) hk i (find_cls c)
  have isE : Looks (model P w) s.heap (isInstance (.ref a) (.type "BaseException")) true := ty.andThen (looks_subIn hk c.hs)
  have noB : (Value.builtin "BaseException.__getattribute__" == .builtin "object.__getattribute__") = false := by decide +kernel
  obtain ⟨hp, gs, dr, tk, os⟩ := s
  unfold getAttr? getAttrBy? getAttrBy
  refine wpAny_bind (wpAny_mkText (wpAny_bind (wpAny_attempt (wpAny_holding (wpAny_bind (ty.at (wpAny_bind ((looks_findIn hk c.hg).at ?_))))))))
  refine wp_if_neg (by rw [noB, Bool.and_false]; decide) ?_
  unfold getAttrByItsOwn hookBefore
  refine wpAny_bind (wp_if_pos rfl ((looks_findIn hk c.hk).at (wpAny_bind (wpAny_attempt (wpAny_holding ?_)))))
  unfold callGetattribute
  refine wp_if_neg (by simp) ?_
  unfold boundAndCalled
  rw [PySem.F.excAttr_ValueError.ga.bind]
  refine wpAny_bind (wpAny_pure (wpAny_call (codeAny_call_builtin PySem.F.excAttr_ValueError.ga.plain PySem.F.entry_bexc_ga ?_)))
  refine check_slot (M := model P w) (i := "BaseException.__getattribute__") (owner := "BaseException") (n := "__getattribute__") (s := ⟨hp, gs, dr, tk + 1, os⟩) (by decide +kernel) (by decide +kernel) isE (PySem.F.args_bexc_ga (.ref a) (.str "__class__" tk)) ?_
  unfold Builtin.«object.__getattribute__»
  refine wpAny_bind (wpAny_of_eq (a := ((Value.ref a : Value), [Value.str "__class__" tk])) (by first | rfl | (simp only [slotArgs]; rfl)) (wpAny_bind (wpAny_pure (wpAny_bind (ty.at (wpAny_bind (fd.at ?_)))))))
  show wpAny _ _ (holding [Value.builtin "object.__class__"] (call (.builtin "getset_descriptor.__get__") [.builtin "object.__class__", .ref a, .ref D]) >>= ret) _ _ _
  refine wpAny_bind (wpAny_holding (wpAny_call (class_get (s := ⟨hp, gs, dr, tk + 1, os⟩) (ox := o) hk i c.hm (wpAny_pure ?_))))
  show wpAny _ _ (handedOut (.ref D)) _ _ _
  exact handed_on rfl (wpAny_pure q)
open PySem.W in
theorem kit_exc {K : Frag} {a D : Addr} {o : Obj} {od : Option Obj} (c : ExcC K D) : KitX K (.ref a) (.ref D) (fun h => InstAt h a o D od) := by
  obtain ⟨cd, e, _⟩ := any_some c.hd
  have at_ : ∃ oc dc sl, K.lookup D = some ⟨oc, dc, .cls cd, sl⟩ := by
    unfold clsIn at e
    split at e
    · rename_i z
      cases e
      exact ⟨_, _, _, z⟩
    · cases e
  obtain ⟨oc, dc, sl, e⟩ := at_
  have ne : ∀ (h : Heap) (tp : Addr) (dd : Option Addr) (its : List Value) (n : Nat) (sl : Array (Option Value)), K.In h → h.get? tp = some ⟨.type "tuple", dd, .seq its.toArray n, sl⟩ → (Value.ref D == .ref tp) = false := fun h tp dd its n sl' hk htp => by
    rw [beq_eq_false_iff_ne]
    intro z
    have z : D = tp := Value.ref.inj z
    subst z
    have := (hk _ _ e).symm.trans htp
    cases this
  exact ⟨fun M h _ i => i.type, fun M h hk _ => (Looks.ld (part := none) (hk _ _ e)).andThen .now, ne, fun hk i q => ask_cls c hk i q⟩
end
/-! ### what is asked of a refusal while it is held -/
/-- the refusal at a, of class D, is held -/
structure Holds (X : Cx) (a D : Addr) : Prop where
  oe : ∃ oe : Obj, (a, oe) ∈ X.pn ∧ oe.cls = .ref D ∧ (oe.dict = none ∨ ∃ dd od, oe.dict = some dd ∧ X.s_0.heap.get? dd = some od ∧ dd ∉ X.ex) ∧ ∃ vs, oe.data = .fields vs
  is : ExcC X.K D
  isi : X.mg "isinstance" = none
section
variable {X : Cx} {a D : Addr} {σ : St} {H : Hp}
/-- a row of such questions -/
def Bls (X : Cx) (σ : St) (es : List Expr) (bs : List Bool) : Prop := es.all plainE = true ∧ ∀ (H : Hp) (Q : List V → Hp → Prop), Q (bs.map V.bl) H → wEs X es σ H Q
theorem Bls.nil : Bls X σ [] [] := ⟨rfl, fun _ _ q => q⟩
theorem Bls.cons {e : Expr} {es : List Expr} {b : Bool} {bs : List Bool} (he : plainE e = true) (h : ∀ (H : Hp) (Q : VK), Q (.bl b) H → wE X e σ H Q) (t : Bls X σ es bs) : Bls X σ (e :: es) (b :: bs) :=
  ⟨by rw [List.all_cons, he, t.1]; rfl, fun H Q q => h H _ (t.2 H _ q)⟩
/-- how often -/
def rCntB (K : PySem.W.Frag) : V → List V → Hp → VK → Prop := fun x xs H Q => ∃ (p : Addr) (bs : List Bool) (k : Bool), x = .ref p ∧ xs = [.bl k] ∧ SqL K H p (bs.map V.bl) ∧ Q (.int (bs.count k : Nat)) H
def isB (k : Bool) (v : Value) : Bool := match v with
  | .bool b => b == k
  | _ => false
end

/-! ### the mark -/
def marksN : List Str := ["e", "found", "words"]
/-- the mark: the word at the one place that is true -/
def markOf (bs : List Bool) (ws : List Str) : Str := if bs.count true = 1 then (ws[bs.idxOf true]?).getD "other" else "other"
def strE (ws : List (Str × Nat × Pos)) : List Expr := ws.map fun w => .Constant (.str w.1) w.2.1 w.2.2
section
variable {X : Cx} {a D : Addr} {σ : St} {H : Hp} {Q : VK}
end
/-! ### the def that tells the mark -/
def asks : List Str := ["NoOrder", "NoMany", "NoPairs", "Ring", "NoThing", "NoRow", "NoRows", "NoNumber", "NoChain", "NoTurns", "NoPoints", "NoText"]
def words : List Str := ["order", "many", "pairs", "ring", "thing", "row", "rows", "number", "chain", "turns", "points", "text"]
/-- what is known of a refusal's class -/
structure Kn (K : PySem.W.Frag) (mg : Str → Option Value) (D : Addr) (nm : Str) : Prop where
  ask : ∀ x ∈ asks, ∃ C : Addr, mg x = some (.ref C) ∧ PySem.W.kitOne K (.ref D) (.ref C) = some (decide (x = nm))
  rank : ∃ C : Addr, mg "RankError" = some (.ref C) ∧ PySem.W.kitOne K (.ref D) (.ref C) = some true
  val : mg "ValueError" = none ∧ PySem.W.kitOne K (.ref D) (.type "ValueError") = some true
def mkSc (sc : Scope) : Bool := marksN.all (fun x => sc.names.lookup x == some .local) && ("isinstance" :: "RankError" :: "ValueError" :: asks : List Str).all fun x => sc.names.lookup x == some .globalImplicit
abbrev isA (x : Str) (p1 p2 p3 p4 : Pos) : Expr := .Call (.Name "isinstance" p1) [.Name "e" p2, .Name x p3] [] p4
section
variable {X : Cx} {a D : Addr} {σ : St} {H : Hp}
end
/-- a def whose body tells the mark -/
def MkBody (st : Stmt) : Prop := ∀ (X : Cx) (a D : Addr) (nm : Str) (σ : St) (H : Hp) (D0 : Ends), X.N = marksN → X.env.scope = defScope st → (∀ x, X.fn x = true) → Holds X a D → Kn X.K X.mg D nm → σ[0]? = some (some (.ref a)) → σ.length = 3 →
  (∀ H', Ex H H' → D0.rt (.str (markOf (asks.map fun x => decide (x = nm)) words)) H') → wSs X (defBody st) D0 σ H
/-! ### raise, try -/
def dRaise (x : Str) : DenS := fun _ _ => .exc ⟨x, none⟩
def hasX (x : Str) (exs : List (Str × Str)) : Bool := exs.any fun p => p.1 == x
/-- what stays of the slots behind a refusal -/
def thin (ρ : Env) : Env := ρ.map fun s => if s.isOwn = true then .un else s
theorem thin_get {ρ : Env} {i : Nat} {s : Slot} (h : (thin ρ)[i]? = some s) (n : s ≠ .un) : ρ[i]? = some s ∧ s.isOwn = false := by
  unfold thin at h
  rw [List.getElem?_map] at h
  cases e : ρ[i]? with
  | none => rw [e] at h; cases h
  | some t =>
    rw [e] at h
    have h : (if t.isOwn = true then Slot.un else t) = s := Option.some.inj h
    cases o : t.isOwn with
    | true => rw [o] at h; exact absurd h.symm n
    | false => rw [o] at h; subst h; exact ⟨rfl, o⟩
theorem Sl.thin {B : Bd} {F H F' H' : Hp} {ρ : Env} {σ : St} (k : Sl B F H ρ σ) (e : Ex F F') : Sl B F' H' (Dn.thin ρ) σ := by
  have no : ∀ {i : Nat} {s : Slot}, (Dn.thin ρ)[i]? = some s → s.isOwn = true → False := fun {i s} h o => by
    have := (thin_get h fun z => by rw [z] at o; cases o).2
    rw [o] at this
    cases this
  refine ⟨by rw [← k.len]; exact List.length_map _, fun i d h => ?_, fun i ns h => ?_, fun i s h o => (no h o).elim, k.par, fun i j s t a _ h o => (no h o).elim⟩
  · obtain ⟨v, h1, h2⟩ := k.val i d (thin_get h fun z => nomatch z).1
    exact ⟨v, h1, h2.mono e⟩
  · obtain ⟨b, h1, h2⟩ := k.scr i ns (thin_get h fun z => nomatch z).1
    exact ⟨b, h1, e.sqL h2⟩
/-- try: body, except RankError as e: return _law_marks(e) -/
def dTry (exs : List (Str × Str)) (b : DenS) : DenS := fun Φ ρ => match b Φ ρ with
  | .ok r => .ok r
  | .exc x => match x.arg, exs.find? fun p => p.1 == x.cls with
    | none, some p => .ok (.ret (.val (.str p.2)), thin ρ)
    | _, _ => .stuck
  | .stuck => .stuck
  | .any _ => .stuck
  | .exs _ _ => .stuck
/-! ### which class is which -/
/-! ### steps -/
section
variable {α β : Type} {x : Exc} {f : α → Out β} {P : α → Prop} {E : Exc → Prop} {Φ : Calls} {ρ : Env} {b : DenS} {exs : List (Str × Str)} {c : Str} {p : Str × Str} {r : Fl × Env}
@[simp] theorem x_bindX : (Out.exc x : Out α).bind f = .exc x := id rfl
@[simp] theorem x_wpX : (Out.exc x : Out α).wp P E = E x := id rfl
@[simp] theorem x_dRaise : dRaise c Φ ρ = .exc ⟨c, none⟩ := id rfl
def kTry2 (o : Option (Str × Str)) (ρ : Env) : Out (Fl × Env) := match o with
  | some p => .ok (.ret (.val (.str p.2)), thin ρ)
  | none => .stuck
def kTry (exs : List (Str × Str)) (ρ : Env) : Out (Fl × Env) → Out (Fl × Env)
  | .ok r => .ok r
  | .exc ⟨c, none⟩ => kTry2 (exs.find? fun p => p.1 == c) ρ
  | .exc ⟨_, some _⟩ => .stuck
  | .stuck => .stuck
  | .any _ => .stuck
  | .exs _ _ => .stuck
@[simp] theorem x_dTry : dTry exs b Φ ρ = kTry exs ρ (b Φ ρ) := by
  unfold dTry kTry
  cases b Φ ρ with
  | ok r => rfl
  | stuck => rfl
  | any _ => rfl
  | exs _ _ => rfl
  | exc x =>
    obtain ⟨c, a⟩ := x
    cases a with
    | none =>
      show _ = kTry2 (exs.find? fun p => p.1 == c) ρ
      cases g : exs.find? fun p => p.1 == c with
      | none => simp only [g]; rfl
      | some p => simp only [g]; rfl
    | some v => rfl
@[simp] theorem x_kTryO : kTry exs ρ (.ok r) = .ok r := id rfl
@[simp] theorem x_kTryX : kTry exs ρ (.exc ⟨c, none⟩) = kTry2 (exs.find? fun p => p.1 == c) ρ := id rfl
@[simp] theorem x_kTry2 : kTry2 (some p) ρ = .ok (.ret (.val (.str p.2)), thin ρ) := id rfl
@[simp] theorem x_thin0 : thin [] = [] := id rfl
@[simp] theorem x_thinV {d : PyData} : thin (.val d :: ρ) = .val d :: thin ρ := id rfl
@[simp] theorem x_thinU : thin (.un :: ρ) = .un :: thin ρ := id rfl
@[simp] theorem x_thinO {ds : List PyData} : thin (.own ds :: ρ) = .un :: thin ρ := id rfl
end
end Dn

/-! Den46: lists of rows compared. -/
namespace Dn
open PySem PySem.Spec L2
open PyProof.Rows hiding St
/-! an expression's result, frozen -/
def kIce : Slot × Env → Out (Slot × Env) := fun r => match r.1 with
  | .val d => .ok (.val d, r.2)
  | .own ds => .ok (.val (.list ds), r.2)
  | .odc false es => .ok (.val (.dict es), r.2)
  | _ => .stuck
def dIce (d : Den) : Den := fun Φ ρ => (d Φ ρ).bind kIce
section
variable {d : Den} {Φ : Calls} {ρ : Env} {x : PyData} {ds : List PyData}
@[simp] theorem x_dIce : dIce d Φ ρ = (d Φ ρ).bind kIce := id rfl
@[simp] theorem x_kIce1 : kIce (.val x, ρ) = .ok (.val x, ρ) := id rfl
@[simp] theorem x_kIce2 : kIce (.own ds, ρ) = .ok (.val (.list ds), ρ) := id rfl
end
end Dn

/-! Den47: how many ways to go on. -/
namespace Dn
open PySem PySem.Spec L2
open PyProof.Rows hiding St
theorem x_inLi (ns : List Int) (x : Int) : pIn [.int x, .list (nsD ns)] = some (.val (.bool (decide (x ∈ ns)))) := by
  unfold pIn
  simp only [sh_i, sh_nsL, any_int, Bool.and_self, if_true]
theorem x_ninLi (ns : List Int) (x : Int) : pNin [.int x, .list (nsD ns)] = some (.val (.bool (!decide (x ∈ ns)))) := by
  unfold pNin
  simp only [sh_i, sh_nsL, any_int, Bool.and_self, if_true]
/-- so many rows begin so, k things lacking -/
def cnt (m : Nat) (ps : List (Int × Int)) : Nat → List Int → Nat
  | 0, _ => 1
  | k + 1, R => ((freeI m ps R).map fun x => cnt m ps k (R ++ [x])).sum
theorem free_perm {m : Nat} {ps : List (Int × Int)} {R Q : List Int} (h : R.Perm Q) : freeI m ps R = freeI m ps Q := by
  unfold freeI
  refine List.filter_congr fun t _ => ?_
  have e1 : decide (t ∉ R) = decide (t ∉ Q) := by
    rw [Bool.eq_iff_iff, decide_eq_true_eq, decide_eq_true_eq, h.mem_iff]
  have e2 : ∀ p : Int × Int, decide (p.1 ∈ R) = decide (p.1 ∈ Q) := fun p => by
    rw [Bool.eq_iff_iff, decide_eq_true_eq, decide_eq_true_eq, h.mem_iff]
  rw [e1]
  simp only [e2]
theorem cnt_perm {m : Nat} {ps : List (Int × Int)} : ∀ (k : Nat) {R Q : List Int}, R.Perm Q → cnt m ps k R = cnt m ps k Q
  | 0, _, _, _ => rfl
  | k + 1, R, Q, h => by
    unfold cnt
    rw [free_perm h]
    congr 1
    exact List.map_congr_left fun x _ => cnt_perm k (h.append_right [x])
theorem sort_iff {R Q : List Int} : sortI R = sortI Q ↔ R.Perm Q := by
  constructor
  · intro h
    exact ((sortI_perm R).symm.trans (by rw [h])).trans (sortI_perm Q)
  · intro h
    refine List.Perm.eq_of_pairwise (le := fun a b => leI a b = true) (fun a b _ _ h1 h2 => ?_) ?_ ?_ (((sortI_perm R).trans h).trans (sortI_perm Q).symm)
    · unfold leI at h1 h2
      simp only [decide_eq_true_eq] at h1 h2
      omega
    · exact List.pairwise_mergeSort (le := leI) (fun a b c h g => leI_trans h g) leI_total R
    · exact List.pairwise_mergeSort (le := leI) (fun a b c h g => leI_trans h g) leI_total Q
/-- what is known -/
def TabOk (m : Nat) (ps : List (Int × Int)) (T : List (List Int × Int)) : Prop := ∀ e ∈ T, ∃ R, Beg m ps R ∧ e.1 = sortI R ∧ e.2 = cnt m ps (m - R.length) R
def tabN (T : List (List Int × Int)) : List (PyData × PyData) := T.map fun e => (.tuple (nsD e.1), .int e.2)
theorem TabOk.nil {m : Nat} {ps : List (Int × Int)} : TabOk m ps [] := fun _ h => absurd h List.not_mem_nil
theorem TabOk.look {m : Nat} {ps : List (Int × Int)} {T : List (List Int × Int)} (t : TabOk m ps T) {g : List Int} {v : Int} (h : lookL T (sortI g) = some v) : v = cnt m ps (m - g.length) g := by
  obtain ⟨R, _, h1, h2⟩ := t _ (lookL_some h)
  have p := sort_iff.mp h1
  have h2 : v = cnt m ps (m - R.length) R := h2
  rw [h2, ← cnt_perm _ p, p.length_eq]
theorem TabOk.put {m : Nat} {ps : List (Int × Int)} {T : List (List Int × Int)} (t : TabOk m ps T) {g : List Int} (b : Beg m ps g) : TabOk m ps (putL T (sortI g) (cnt m ps (m - g.length) g)) := by
  unfold putL
  split
  · intro e he
    obtain ⟨e', h', rfl⟩ := List.mem_map.mp he
    by_cases c : e'.1 = sortI g
    · rw [if_pos c]
      exact ⟨g, b, c, rfl⟩
    · rw [if_neg c]
      exact t e' h'
  · intro e he
    rcases List.mem_append.mp he with he | he
    · exact t e he
    · rw [List.mem_singleton.mp he]
      exact ⟨g, b, rfl, rfl⟩
section
variable {Φ : Calls} {ρ : Env} {i : Nat} {r : DenA} {t t' : Bool} {es fs : List (PyData × PyData)} {ss : List Slot}
@[simp] theorem x_asVar5 : aVar (some (.odc t es)) i r Φ ρ = (r Φ (ρ.set i .un)).bind (kAs (some i, .odc t es)) := id rfl
@[simp] theorem x_outs5 : outsOk (.odc t es :: ss) (.odc t' fs :: ρ) = outsOk ss ρ := id rfl
end
/-- so many entries more at most -/
def more (m : Nat) : Nat → Nat
  | 0 => 0
  | k + 1 => 1 + m * more m k
/-- all rows that begin so, in the order of tuples -/
def ext (m : Nat) (ps : List (Int × Int)) : Nat → List Int → List (List Int)
  | 0, R => [R]
  | k + 1, R => (freeI m ps R).flatMap fun x => ext m ps k (R ++ [x])
theorem rows_ext (m : Nat) (ps : List (Int × Int)) (t : Nat) : ∀ k, rowsI m ps (t + k) = (rowsI m ps t).flatMap (ext m ps k)
  | 0 => by
    show rowsI m ps t = (rowsI m ps t).flatMap fun R => [R]
    rw [List.flatMap_singleton']
  | k + 1 => by
    have h := rows_ext m ps (t + 1) k
    rw [show t + (k + 1) = t + 1 + k by omega, h]
    show ((rowsI m ps t).flatMap fun r => (freeI m ps r).map fun x => r ++ [x]).flatMap (ext m ps k) = _
    rw [List.flatMap_assoc]
    congr 1
    funext r
    rw [List.flatMap_map]
    rfl
theorem rows_all (m : Nat) (ps : List (Int × Int)) : rowsI m ps m = ext m ps m [] := by
  have h := rows_ext m ps 0 m
  rw [Nat.zero_add] at h
  rw [h]
  show ([[]] : List (List Int)).flatMap (ext m ps m) = _
  simp
theorem ext_beg {m : Nat} {ps : List (Int × Int)} : ∀ (k : Nat) {R : List Int}, Beg m ps R → ∀ r ∈ ext m ps k R, Beg m ps r ∧ r.length = R.length + k
  | 0, R, b, r, h => by rw [List.mem_singleton.mp h]; exact ⟨b, rfl⟩
  | k + 1, R, b, r, h => by
    obtain ⟨x, hx, h⟩ := List.mem_flatMap.mp h
    have := ext_beg k (b.snoc hx) r h
    refine ⟨this.1, ?_⟩
    rw [this.2, List.length_append, List.length_singleton]
    omega
theorem Beg.row {m : Nat} {ps : List (Int × Int)} {R : List Int} (o : IsOrd m ps) (b : Beg m ps R) (h : R.length = m) : R.Perm (upTo m) ∧ ps.all (aheadB R) = true := by
  have pm := perm_of_full b.nd b.sub (by omega)
  exact ⟨pm, ahd_all o b.ahd pm⟩
end Dn

/-! Den50: rows that turn a turn; rows from behind. -/
namespace Dn
open PySem PySem.Spec L2
open PyProof.Rows hiding St
/-- the order with (b, a) and all that follows -/
def andP (m : Nat) (ps : List (Int × Int)) (a b : Int) : List (Int × Int) := (gridP m).filter fun p => decide (p ∈ ps) || ((decide (p.1 = b) || decide ((p.1, b) ∈ ps)) && (decide (p.2 = a) || decide ((a, p.2) ∈ ps)))
theorem in_row {m : Nat} {ps : List (Int × Int)} (o : IsOrd m ps) {r : List Int} (h : r ∈ ext m ps m []) : r.Perm (upTo m) ∧ ps.all (aheadB r) = true := by
  obtain ⟨b, l⟩ := ext_beg (m := m) (ps := ps) m (R := []) .nil r h
  exact b.row o (by simpa using l)
/-- turns that none of the rows turns -/
def leftT (m : Nat) (ps : List (Int × Int)) (rs : List (List Int)) : List (Int × Int) := (gridP m).filter fun p => apartB ps p.1 p.2 && rs.all fun r => aheadB r p
theorem mem_told {m : Nat} {rs : List (List Int)} {p : Int × Int} : p ∈ toldP m rs ↔ p ∈ gridP m ∧ p.1 ≠ p.2 ∧ ∀ r ∈ rs, r.idxOf p.1 < r.idxOf p.2 := by
  unfold toldP tells
  rw [List.mem_filter, Bool.and_eq_true, List.all_eq_true, decide_eq_true_eq]
  refine and_congr Iff.rfl (and_congr Iff.rfl (forall_congr' fun r => forall_congr' fun h => ?_))
  rw [decide_eq_true_eq]
/-! from behind -/
def fac : Nat → Nat
  | 0 => 1
  | k + 1 => (k + 1) * fac k
end Dn

/-! Den52: turns that force one another: classes of forcing, and a choice of each two turns about one another (plain). -/
namespace Dn
abbrev PI := Int × Int
abbrev PS' := PI → Prop
def sw (p : PI) : PI := (p.2, p.1)
/-- one forces another one -/
def Fo (S : PS') (p q : PI) : Prop := p ≠ q ∧ ((p.1 = q.1 ∧ ¬ S (p.2, q.2)) ∨ (p.2 = q.2 ∧ ¬ S (p.1, q.1)))
inductive Rch (S : PS') (p : PI) : PI → Prop
  | refl : Rch S p p
  | step {q r : PI} : Rch S p q → S r → Fo S q r → Rch S p r
def SymS (S : PS') : Prop := ∀ a b, S (a, b) → S (b, a)
def IrrS (S : PS') : Prop := ∀ a, ¬ S (a, a)
def NoKnot (S : PS') : Prop := ∀ a b, S (a, b) → ¬ Rch S (a, b) (b, a)
section
variable {S : PS'} {p q r : PI} {a b c d a2 b2 c2 : Int}
theorem sw_sw (p : PI) : sw (sw p) = p := rfl
theorem Fo.symm (sy : SymS S) (h : Fo S p q) : Fo S q p := by
  obtain ⟨n, h⟩ := h
  refine ⟨fun e => n e.symm, ?_⟩
  rcases h with ⟨e, h⟩ | ⟨e, h⟩
  · exact .inl ⟨e.symm, fun z => h (sy _ _ z)⟩
  · exact .inr ⟨e.symm, fun z => h (sy _ _ z)⟩
theorem Fo.swap (h : Fo S p q) : Fo S (sw p) (sw q) := by
  obtain ⟨n, h⟩ := h
  refine ⟨fun e => n (by
    have := congrArg sw e
    rwa [sw_sw, sw_sw] at this), ?_⟩
  rcases h with h | h
  · exact .inr h
  · exact .inl h
theorem Rch.trans (h : Rch S p q) (g : Rch S q r) : Rch S p r := by
  induction g with
  | refl => exact h
  | step _ s f ih => exact .step ih s f
theorem Rch.mem (h : Rch S p q) (hp : S p) : S q := by
  cases h with
  | refl => exact hp
  | step _ s _ => exact s
theorem Rch.one (hq : S q) (f : Fo S p q) : Rch S p q := .step .refl hq f
theorem Rch.symm (sy : SymS S) (h : Rch S p q) (hp : S p) : Rch S q p := by
  induction h with
  | refl => exact .refl
  | step g s f ih => exact (Rch.one (g.mem hp) (f.symm sy)).trans ih
theorem Rch.swap (sy : SymS S) (h : Rch S p q) : Rch S (sw p) (sw q) := by
  induction h with
  | refl => exact .refl
  | step g s f ih => exact .step ih (sy _ _ s) f.swap
/-- what is left when a class and its turned about one are taken away -/
def Less (S : PS') (e q : PI) : Prop := S q ∧ ¬ Rch S e q ∧ ¬ Rch S e (sw q)
def HatS (S : PS') (e q : PI) : Prop := Rch S e q ∨ Rch S e (sw q)
theorem Less.sym (sy : SymS S) {e : PI} : SymS (Less S e) := fun a b h => ⟨sy _ _ h.1, h.2.2, h.2.1⟩
theorem Less.irr (ir : IrrS S) {e : PI} : IrrS (Less S e) := fun a h => ir a h.1
/-- two classes meet over one that is taken away -/
def Mg (S : PS') (e x y : PI) : Prop := ∃ a b c, HatS S e (b, c) ∧ S (b, c) ∧ Less S e (a, b) ∧ Less S e (a, c) ∧ ((Rch S x (a, b) ∧ Rch S (a, c) y) ∨ (Rch S x (b, a) ∧ Rch S (c, a) y))
theorem Less.of (sy : SymS S) {e p q : PI} (hp : Less S e p) (h : Rch S p q) : Less S e q :=
  ⟨h.mem hp.1, fun g => hp.2.1 (g.trans (h.symm sy hp.1)), fun g => hp.2.2 (g.trans ((h.swap sy).symm sy (sy _ _ hp.1)))⟩
/-- a choice of each two turns about one another, that goes on -/
structure Tro (S F : PS') : Prop where
  sub : ∀ p, F p → S p
  tot : ∀ a b, S (a, b) → F (a, b) ∨ F (b, a)
  asy : ∀ a b, F (a, b) → ¬ F (b, a)
  tr : ∀ a b c, F (a, b) → F (b, c) → F (a, c)
end
end Dn

/-! Den53: two rows as points; the rows of a choice of turns (plain). -/
namespace Dn
open PySem PySem.Spec L2
open PyProof.Rows hiding St
def ptI (r0 r1 : List Int) (t : Int) : Int × Int := ((r0.idxOf t : Nat), (r1.idxOf t : Nat))
def ptsI (m : Nat) (r0 r1 : List Int) : List (Int × Int) := (upTo m).map (ptI r0 r1)
/-! ### a choice of turns gives two rows -/
/-- all turns of an order, as a list -/
def TurnsOf (m : Nat) (ps T : List (Int × Int)) : Prop := ∀ p, p ∈ T ↔ (0 ≤ p.1 ∧ p.1 < m ∧ 0 ≤ p.2 ∧ p.2 < m) ∧ apartB ps p.1 p.2 = true
def inL (T : List (Int × Int)) : PS' := fun p => p ∈ T
theorem TurnsOf.sym {m : Nat} {ps T : List (Int × Int)} (h : TurnsOf m ps T) : SymS (inL T) := fun a b q => by
  obtain ⟨⟨h1, h2, h3, h4⟩, h5⟩ := (h _).mp q
  rw [apartB_iff] at h5
  exact (h _).mpr ⟨⟨h3, h4, h1, h2⟩, apartB_iff.mpr ⟨fun e => h5.1 e.symm, h5.2.2, h5.2.1⟩⟩
theorem TurnsOf.irr {m : Nat} {ps T : List (Int × Int)} (h : TurnsOf m ps T) : IrrS (inL T) := fun a q => by
  have := apartB_iff.mp ((h _).mp q).2
  exact this.1 rfl
section
variable {m : Nat} {ps T F : List (Int × Int)}
/-- ahead in the row -/
def Lb (ps F : List (Int × Int)) (a b : Int) : Bool := decide ((a, b) ∈ ps) || decide ((a, b) ∈ F)
structure LinB (m : Nat) (R : Int → Int → Bool) : Prop where
  asy : ∀ a b, R a b = true → R b a = false
  tr : ∀ a b c, R a b = true → R b c = true → R a c = true
  tot : ∀ a b : Int, 0 ≤ a → a < m → 0 ≤ b → b < m → a ≠ b → R a b = true ∨ R b a = true
/-- how many are ahead of one -/
def rkB (m : Nat) (R : Int → Int → Bool) (t : Int) : Nat := ((upTo m).filter fun x => R x t).length
/-- the row of a rank -/
def rowRk (m : Nat) (R : Int → Int → Bool) : List Int := (upTo m).mergeSort fun a b => decide (rkB m R a ≤ rkB m R b)
/-- the points by a choice -/
def ptB (ps F : List (Int × Int)) (t : Int) : Int × Int := (((ps.filter fun p => decide (p.2 = t)).length : Int) + ((F.filter fun p => decide (p.2 = t)).length : Int), ((ps.filter fun p => decide (p.2 = t)).length : Int) + ((F.filter fun p => decide (p.1 = t)).length : Int))
end
/-! ### a crown -/
def Crn (m : Int) (ps : List (Int × Int)) : Prop := ∃ l h : Nat → Int, (∀ i, i < 3 → 0 ≤ l i ∧ l i < m ∧ 0 ≤ h i ∧ h i < m ∧ l i ≠ h i ∧ (l i, h i) ∉ ps) ∧ ∀ i j, i < 3 → j < 3 → i ≠ j → (l i, h j) ∈ ps
end Dn

/-! Den54: each row with the one in which all that is apart stands the other way about (plain). -/
namespace Dn
open PySem PySem.Spec L2
open PyProof.Rows hiding St
section
variable {m : Nat} {ps T : List (Int × Int)} {R : Int → Int → Bool}
/-- of each two things just one leads -/
structure Trn (m : Nat) (R : Int → Int → Bool) : Prop where
  inn : ∀ a b, R a b = true → a ∈ upTo m ∧ b ∈ upTo m
  asy : ∀ a b, R a b = true → R b a = false
  tot : ∀ a ∈ upTo m, ∀ b ∈ upTo m, a ≠ b → R a b = true ∨ R b a = true
theorem Trn.irr (t : Trn m R) (a : Int) : R a a = false := by
  cases c : R a a with
  | false => rfl
  | true => exact (t.asy a a c).symm.trans c |>.symm
/-- all that is apart the other way about -/
def othB (m : Nat) (ps : List (Int × Int)) (r : List Int) (a b : Int) : Bool := decide (a ∈ upTo m) && (decide (b ∈ upTo m) && (decide ((a, b) ∈ ps) || (apartB ps a b && decide (r.idxOf b < r.idxOf a))))
/-- the places in the other row -/
def othP (m : Nat) (ps : List (Int × Int)) (r : List Int) : List Int := (upTo m).map fun t => ((rkB m (othB m ps r) t : Nat) : Int)
end
end Dn

/-! Den55: orders put together, and their rows (plain). -/
namespace Dn
open PySem PySem.Spec L2
open PyProof.Rows hiding St
def shP (k : Int) (ps : List (Int × Int)) : List (Int × Int) := ps.map fun p => (p.1 + k, p.2 + k)
def besP (m : Int) (ps qs : List (Int × Int)) : List (Int × Int) := sortP (ps ++ shP m qs)
def acrP (m k : Nat) : List (Int × Int) := (List.range m).flatMap fun a : Nat => (List.range k).map fun b : Nat => ((a : Int), (m : Int) + (b : Int))
def blk (t m one : Nat) : List Int := if one = t then (List.range m).map fun i : Nat => (t : Int) + (i : Int) else [(one : Int) + ((m : Int) - 1) * (if (one : Int) > t then 1 else 0)]
theorem flat_lenC {α β : Type} (f : α → List β) (c : Nat) (h : ∀ a, (f a).length ≤ c) : ∀ l : List α, (l.flatMap f).length ≤ l.length * c
  | [] => by simp
  | x :: l => by
    rw [List.flatMap_cons, List.length_append, List.length_cons, Nat.succ_mul]
    have := flat_lenC f c h l
    have := h x
    omega
def nrow (t k i : Nat) : List (Int × Int) := (List.range (if i = t then k else 1)).map fun j : Nat => ((i : Int), (j : Int))
def NM (t k i : Nat) : List (Int × Int) := (List.range i).flatMap (nrow t k)
def dec (t k x : Nat) : Int × Int := if x < t then ((x : Int), 0) else if x < t + k then ((t : Int), (x : Int) - t) else ((x : Int) - k + 1, 0)
def rel (t k : Nat) (ps qs : List (Int × Int)) (p : Int × Int) : Bool :=
  if (dec t k p.1.toNat).1 = (dec t k p.2.toNat).1 then decide ((dec t k p.1.toNat).1 = (t : Int)) && decide (((dec t k p.1.toNat).2, (dec t k p.2.toNat).2) ∈ qs)
  else decide (((dec t k p.1.toNat).1, (dec t k p.2.toNat).1) ∈ ps)
def gR (R : List (List Int)) (t : Nat) : List Int := (R[t % R.length]?).getD []
def sh1 (k : Int) (s : List Int) : List Int := s.map (· + k)
def behR (m1 : Nat) (R1 R2 : List (List Int)) (k : Nat) : List (List Int) := (List.range k).map fun t => gR R1 t ++ sh1 m1 (gR R2 t)
section
variable {m1 m2 : Nat} {ps1 ps2 : List (Int × Int)} {R1 R2 : List (List Int)}
/-- a row of the ones beside one another -/
def besRow (m1 : Nat) (R1 R2 : List (List Int)) (t : Nat) : List Int := if t = 1 then sh1 m1 (gR R2 t) ++ gR R1 t else gR R1 t ++ sh1 m1 (gR R2 t)
def besR (m1 : Nat) (R1 R2 : List (List Int)) (k : Nat) : List (List Int) := (List.range k).map (besRow m1 R1 R2)
end
/-- a row with a thing replaced -/
def rplB (t k : Nat) (s : List Int) (one : Int) : List Int := if one = t then s.map fun x => (t : Int) + x else blk t k one.toNat
def rplRow (t k : Nat) (r s : List Int) : List Int := r.flatMap (rplB t k s)
def rplR (t k : Nat) (R1 R2 : List (List Int)) (K : Nat) : List (List Int) := (List.range K).map fun i => rplRow t k (gR R1 i) (gR R2 i)
section
variable {m1 m2 t : Nat} {ps1 ps2 : List (Int × Int)} {R1 R2 : List (List Int)} {r s : List Int}
end

end Dn

/-! Den57: the first that does, in loops; marks of rows as numbers; how many rows an order has at most. -/
namespace Dn
open PySem PySem.Spec L2
open PyProof.Rows hiding St
/-- a loop that gives back at the first that does -/
def FndP {α β : Type} (f : α → Option β) (out : β → Slot) (I : Env → Prop) (E : List α) : Fl × Env → Prop := fun q => (q.1 = .nx ∧ E.findSome? f = none ∧ I q.2) ∨ ∃ v, q.1 = .ret (out v) ∧ E.findSome? f = some v ∧ I q.2
def StpP {β : Type} (o : Option β) (out : β → Slot) (I : Env → Prop) : Fl × Env → Prop := fun q => ((q.1 = .nx ∨ q.1 = .cnt) ∧ o = none ∧ I q.2) ∨ ∃ v, q.1 = .ret (out v) ∧ o = some v ∧ I q.2
theorem or_nat (a b : Nat) : Builtin.bitOr (a : Int) (b : Int) = ((a ||| b : Nat) : Int) := by
  have h1 : decide (0 ≤ -(a : Int) - 1) = false := decide_eq_false (by omega)
  have h2 : decide (0 ≤ -(b : Int) - 1) = false := decide_eq_false (by omega)
  have h3 : (-(-(a : Int) - 1) - 1).toNat = a := by omega
  have h4 : (-(-(b : Int) - 1) - 1).toNat = b := by omega
  unfold Builtin.bitOr Builtin.bitAnd Builtin.bitNot
  rw [h1, h2]
  simp only [h3, h4]
  omega
/-- whether a row turns a turn -/
def trnB (r : List Int) (p : Int × Int) : Bool := decide (r.idxOf p.2 < r.idxOf p.1)
/-- truths as a number, the first the highest -/
def mkF {α : Type} (f : α → Bool) : Nat → List α → Nat
  | a, [] => a
  | a, x :: T => mkF f (2 * a + (f x).toNat) T
theorem mkF_snoc {α : Type} (f : α → Bool) (x : α) : ∀ (T : List α) (a : Nat), mkF f a (T ++ [x]) = 2 * mkF f a T + (f x).toNat
  | [], _ => rfl
  | y :: T, a => mkF_snoc f x T _
theorem or_bit (a c : Nat) (p q : Bool) : (2 * a + p.toNat) ||| (2 * c + q.toNat) = 2 * (a ||| c) + (p || q).toNat := by
  have h1 : ((2 * a + p.toNat) ||| (2 * c + q.toNat)) / 2 = a ||| c := by
    rw [Nat.or_div_two]
    congr 1
    · cases p <;> simp <;> omega
    · cases q <;> simp <;> omega
  have h2 : ((2 * a + p.toNat) ||| (2 * c + q.toNat)) % 2 = 1 ↔ (p || q) = true := by
    rw [Nat.or_mod_two_eq_one]
    cases p <;> cases q <;> simp <;> omega
  cases h : (p || q) with
  | true =>
    have := h2.mpr h
    simp
    omega
  | false =>
    have : ¬ (((2 * a + p.toNat) ||| (2 * c + q.toNat)) % 2 = 1) := fun z => by rw [h2.mp z] at h; cases h
    simp
    omega
theorem mkF_or {α : Type} (f g : α → Bool) : ∀ (T : List α) (a c : Nat), mkF f a T ||| mkF g c T = mkF (fun x => f x || g x) (a ||| c) T
  | [], _, _ => rfl
  | x :: T, a, c => by
    show mkF f _ T ||| mkF g _ T = mkF (fun x => f x || g x) (2 * (a ||| c) + (f x || g x).toNat) T
    rw [mkF_or f g T, or_bit]
theorem mkF_full {α : Type} (f : α → Bool) : ∀ (T : List α) (a : Nat), mkF f a T + 1 ≤ (a + 1) * 2 ^ T.length ∧ (mkF f a T + 1 = (a + 1) * 2 ^ T.length ↔ T.all f = true)
  | [], a => by simp [mkF]
  | x :: T, a => by
    obtain ⟨h1, h2⟩ := mkF_full f T (2 * a + (f x).toNat)
    have e : (a + 1) * 2 ^ (x :: T).length = (2 * a + 2) * 2 ^ T.length := by
      rw [List.length_cons, Nat.pow_succ, show 2 * a + 2 = (a + 1) * 2 by omega, Nat.mul_assoc, Nat.mul_comm (2 ^ T.length) 2]
    rw [e, List.all_cons]
    show mkF f (2 * a + (f x).toNat) T + 1 ≤ _ ∧ _
    have pos : 0 < 2 ^ T.length := Nat.pow_pos (by decide)
    cases h : f x with
    | true =>
      rw [h] at h1 h2
      exact ⟨h1, by rw [Bool.true_and]; show mkF f (2 * a + (f x).toNat) T + 1 = _ ↔ _; rw [h]; exact h2⟩
    | false =>
      rw [h] at h1
      have h1 : mkF f (2 * a + (f x).toNat) T + 1 ≤ (2 * a + 1) * 2 ^ T.length := by rw [h]; exact h1
      have lt : (2 * a + 1) * 2 ^ T.length < (2 * a + 2) * 2 ^ T.length := Nat.mul_lt_mul_of_pos_right (by omega) pos
      rw [h] at h1
      refine ⟨by show mkF f (2 * a + false.toNat) T + 1 ≤ _; omega, ?_⟩
      rw [Bool.false_and]
      show mkF f (2 * a + (f x).toNat) T + 1 = _ ↔ _
      rw [h]
      exact ⟨fun z => by omega, fun z => nomatch z⟩
theorem mk_whole {α : Type} (f : α → Bool) (T : List α) : mkF f 0 T = 2 ^ T.length - 1 ↔ T.all f = true := by
  obtain ⟨h1, h2⟩ := mkF_full f T 0
  have pos : 0 < 2 ^ T.length := Nat.pow_pos (by decide)
  rw [Nat.zero_add, Nat.one_mul] at h1 h2
  rw [← h2]
  omega
theorem mk_lt {α : Type} (f : α → Bool) (T : List α) : mkF f 0 T < 2 ^ T.length := by
  have := (mkF_full f T 0).1
  omega
/-- no more rows than so many -/
theorem free_lenM (m : Nat) (ps : List (Int × Int)) (R : List Int) : (freeI m ps R).length ≤ m := by
  unfold freeI
  have := List.length_filter_le (fun t => decide (t ∉ R) && ps.all fun p => !(decide (p.2 = t) && !decide (p.1 ∈ R))) (upTo m)
  rw [upTo_len] at this
  exact this
theorem ext_leM (m : Nat) (ps : List (Int × Int)) : ∀ (k : Nat) (R : List Int), (ext m ps k R).length ≤ m ^ k
  | 0, _ => by simp [ext]
  | k + 1, R => by
    show ((freeI m ps R).flatMap fun x => ext m ps k (R ++ [x])).length ≤ _
    have h1 := flat_lenC (fun x => ext m ps k (R ++ [x])) (m ^ k) (fun x => ext_leM m ps k (R ++ [x])) (freeI m ps R)
    have h2 := Nat.mul_le_mul_right (m ^ k) (free_lenM m ps R)
    rw [Nat.pow_succ, Nat.mul_comm (m ^ k) m]
    omega
/-- rows tell an order when each turn is turned by one of them -/
theorem told_trn {m : Nat} {ps T : List (Int × Int)} (o : IsOrd m ps) (ht : TurnsOf m ps T) {rs : List (List Int)} (fit : ∀ r ∈ rs, ps.all (aheadB r) = true) (ne : rs ≠ []) (pm : ∀ r ∈ rs, r.Perm (upTo m)) : toldP m rs = ps ↔ T.all (fun p => rs.any fun r => trnB r p) = true := by
  rw [List.all_eq_true]
  have tsy := ht.sym
  constructor
  · intro e p hp
    rw [List.any_eq_true]
    refine Classical.byContradiction fun c => ?_
    have hs := (ht p).mp hp
    have ap := apartB_iff.mp hs.2
    refine ap.2.1 ?_
    rw [← e, mem_told]
    refine ⟨mem_grid.mpr hs.1, ap.1, fun r hr => ?_⟩
    have c1 : ¬ (r.idxOf p.2 < r.idxOf p.1) := fun z => c ⟨r, hr, decide_eq_true z⟩
    have g := hs.1
    have m1 : p.1 ∈ r := (pm r hr).mem_iff.mpr (mem_upTo.mpr (by omega))
    have m2 : p.2 ∈ r := (pm r hr).mem_iff.mpr (mem_upTo.mpr (by omega))
    have : r.idxOf p.1 ≠ r.idxOf p.2 := fun z => ap.1 (by
      have l1 := List.idxOf_lt_length_iff.mpr m1
      have l2 := List.idxOf_lt_length_iff.mpr m2
      have e1 := List.getElem_idxOf l1
      have e2 := List.getElem_idxOf l2
      rw [← e1, ← e2]
      congr 1)
    show r.idxOf p.1 < r.idxOf p.2
    omega
  · intro h
    refine srt_ext (grid_srt _ _) ⟨o.nd, o.st⟩ fun p => ?_
    show p ∈ toldP m _ ↔ p ∈ ps
    rw [mem_told]
    constructor
    · rintro ⟨b, ne', lt⟩
      refine Classical.byContradiction fun c => ?_
      obtain ⟨r0, hr0⟩ := List.exists_mem_of_ne_nil _ ne
      by_cases c2 : (p.2, p.1) ∈ ps
      · have : r0.idxOf p.2 < r0.idxOf p.1 := of_decide_eq_true (List.all_eq_true.mp (fit r0 hr0) _ c2)
        have := lt r0 hr0
        omega
      · have hp : p ∈ T := (ht p).mpr ⟨mem_grid.mp b, apartB_iff.mpr ⟨ne', c, c2⟩⟩
        obtain ⟨r, hr, hb⟩ := List.any_eq_true.mp (h p hp)
        have := of_decide_eq_true hb
        have := lt r hr
        omega
    · exact fun h => ⟨mem_grid.mpr ⟨(o.bd _ h).1, (o.bd _ h).2.1, (o.bd _ h).2.2.1, (o.bd _ h).2.2.2⟩, o.irr _ h, fun r hr => of_decide_eq_true (List.all_eq_true.mp (fit r hr) _ h)⟩
/-- a test that changes nothing leaves the slots as they were -/
def dPure (t : Den) : Den := fun Φ ρ => (t Φ ρ).bind fun r => .ok (r.1, ρ)
theorem Rel.back {B : Bd} {F F' H H' : Hp} {ρ ρ' : Env} {σ : St} (R : Rel B F H ρ σ) (R' : Rel B F' H' ρ' σ) (e : Ex H H') : Rel B F H' ρ σ :=
  ⟨⟨R.kept.ff, R.kept.ex.trans e, R'.kept.keep, R.kept.nof, R'.kept.live⟩,
   ⟨R.sl.len, R.sl.val, R.sl.scr, fun i s q qs => by
      obtain ⟨a, o, h1, h2, h3, h4, h5⟩ := R.sl.own i s q qs
      exact ⟨a, o, h1, h2, e _ _ h3, h4, h5⟩, R.sl.par, R.sl.dis⟩⟩
section
variable {Φ : Calls} {ρ ρ' : Env} {t : Den} {s : Slot}
def kPu (ρ : Env) : Slot × Env → Out (Slot × Env) := fun r => .ok (r.1, ρ)
@[simp] theorem x_dPure : dPure t Φ ρ = (t Φ ρ).bind (kPu ρ) := id rfl
@[simp] theorem x_dPure1 : kPu ρ (s, ρ') = .ok (s, ρ) := id rfl
end
end Dn

/-! Den58: the search for rows that turn some turns: what it finds does, and it finds where some do. -/
namespace Dn
open PySem PySem.Spec L2
open PyProof.Rows hiding St
abbrev PutL := List (List (Int × Int))
/-- what a row has -/
def atP (put : PutL) (i : Nat) : List (Int × Int) := (put[i]?).getD []
/-- the rows that can turn a turn, too -/
def plcP (put : PutL) (t : Int × Int) : List Nat := (List.range put.length).filter fun i => decide (t ∉ atP put i)
/-- of some turns the first that the fewest rows can turn -/
def hardP (put : PutL) (left : List (Int × Int)) : Int × Int := left.foldl (fun b t => if (plcP put t).length < (plcP put b).length then t else b) (left.headD (0, 0))
/-- a row's pairs with one turn turned -/
noncomputable def ndP (m : Nat) (L : List (Int × Int)) (t : Int × Int) : List (Int × Int) := clo m (L ++ [(t.2, t.1)])
/-- the search -/
noncomputable def putF (m : Nat) : Nat → PutL → List (Int × Int) → Option PutL
  | 0, put, _ => some put
  | k + 1, put, left => if left = [] then some put else (plcP put (hardP put left)).findSome? fun i => if i = 0 ∨ atP put i ≠ atP put (i - 1) then putF m k (put.set i (ndP m (atP put i) (hardP put left))) (left.filter fun t => decide (t ≠ hardP put left)) else none
/-- turns in place -/
def TIn (m : Nat) (left : List (Int × Int)) : Prop := ∀ t ∈ left, (0 ≤ t.1 ∧ t.1 < m ∧ 0 ≤ t.2 ∧ t.2 < m) ∧ t.1 ≠ t.2
section
variable {m : Nat} {L : List (Int × Int)} {t : Int × Int}
end
end Dn

/-! Den60: a list looked at in a test stays the law's own. -/
namespace Dn
open PySem PySem.Spec L2
open PyProof.Rows hiding St
/-- the slots, one own again, the other own ones forgotten -/
def keepE (i : Nat) (ds : List PyData) (ρ : Env) : Env := ρ.mapIdx fun j s => if j = i then .own ds else if s.isOwn then .un else s
theorem keepE_at {i j : Nat} {ds : List PyData} {ρ : Env} {s : Slot} (h : (keepE i ds ρ)[j]? = some s) : ∃ s0, ρ[j]? = some s0 ∧ ((j = i ∧ s = .own ds) ∨ (j ≠ i ∧ s = (if s0.isOwn then .un else s0))) := by
  unfold keepE at h
  rw [List.getElem?_mapIdx] at h
  obtain ⟨s0, h1, h2⟩ := Option.map_eq_some_iff.mp h
  refine ⟨s0, h1, ?_⟩
  by_cases c : j = i
  · rw [if_pos c] at h2
    exact .inl ⟨c, h2.symm⟩
  · rw [if_neg c] at h2
    exact .inr ⟨c, h2.symm⟩
/-- a test that looks at one own list of tuples (or the like) -/
def dKeep (i : Nat) (t : Den) : Den := fun Φ ρ => (t Φ ρ).bind fun r => match ρ[i]?, r.2[i]? with
  | some (.own _), some (.val (.list ds)) => guard' (noLAll ds) (.ok (r.1, keepE i ds ρ))
  | _, _ => .ok r
theorem Rel.keep {B : Bd} {F F' H H' : Hp} {ρ ρ' : Env} {σ : St} {i : Nat} {ds0 ds : List PyData} (R : Rel B F H ρ σ) (R' : Rel B F' H' ρ' σ) (e : Ex F F') (h0 : ρ[i]? = some (.own ds0)) (h1 : ρ'[i]? = some (.val (.list ds))) (nl : noLAll ds = true) :
    Rel B (bothH F (tupH F')) H' (keepE i ds ρ) σ ∧ Ex F (bothH F (tupH F')) := by
  have le : Ex (bothH F (tupH F')) F' := fun a o h => by
    unfold bothH at h
    cases z : F a with
    | some u => rw [z] at h; cases h; exact e _ _ z
    | none => rw [z] at h; exact tupH_ex F' _ _ h
  have tl : Ex (tupH F') (bothH F (tupH F')) := fun a o h => by
    unfold bothH
    cases z : F a with
    | some u =>
      have h1 := e _ _ z
      have h2 := tupH_ex F' _ _ h
      rw [h1] at h2
      cases h2
      rfl
    | none => exact h
  have l := bothH_l F (tupH F')
  refine ⟨⟨⟨R.kept.ff.trans l, le.trans R'.kept.ex, R'.kept.keep, fun a a1 a2 a3 => ?_, R'.kept.live⟩, ?_⟩, l⟩
  · have z := R'.kept.nof a a1 a2 a3
    cases y : bothH F (tupH F') a with
    | none => rfl
    | some o =>
      rw [le _ _ y] at z
      cases z
  · refine ⟨?_, fun j d q => ?_, fun j ns q => ?_, fun j s q qs => ?_, R.sl.par, fun j k s t a ne q qs q' qs' => ?_⟩
    · unfold keepE
      rw [List.length_mapIdx]
      exact R.sl.len
    · obtain ⟨s0, g1, g2 | ⟨g2, g3⟩⟩ := keepE_at q
      · cases g2.2
      · split at g3
        · cases g3
        · subst g3
          obtain ⟨v, k1, k2⟩ := R.sl.val j d g1
          exact ⟨v, k1, Rp.mono l _ _ k2⟩
    · obtain ⟨s0, g1, g2 | ⟨g2, g3⟩⟩ := keepE_at q
      · cases g2.2
      · split at g3
        · cases g3
        · subst g3
          obtain ⟨a, k1, k2⟩ := R.sl.scr j ns g1
          exact ⟨a, k1, l.sqL k2⟩
    · obtain ⟨s0, g1, g2 | ⟨g2, g3⟩⟩ := keepE_at q
      · obtain ⟨rfl, rfl⟩ := g2
        obtain ⟨a, o, k1, k2, k3, k4, k5⟩ := R.sl.own j _ h0 rfl
        obtain ⟨v, m1, m2⟩ := R'.sl.val j _ h1
        rw [k1] at m1
        cases m1
        cases m2 with
        | lst n1 n2 =>
          rename_i us
          refine ⟨a, .lst us, k1, ?_, R'.kept.ex _ _ n1, ⟨us, rfl, (rp_tupAll _ _ n2 nl).mono tl⟩, k5⟩
          unfold bothH tupH
          rw [k2, n1]
      · split at g3
        · subst g3; cases qs
        · rename_i c
          subst g3
          exact absurd qs c
    · obtain ⟨s0, g1, g2 | ⟨g2, g3⟩⟩ := keepE_at q
      · obtain ⟨t0, g4, g5 | ⟨g5, g6⟩⟩ := keepE_at q'
        · exact absurd (g2.1.trans g5.1.symm) ne
        · split at g6
          · subst g6; cases qs'
          · rename_i c
            subst g6
            exact absurd qs' c
      · split at g3
        · subst g3; cases qs
        · rename_i c
          subst g3
          exact absurd qs c
section
variable {Φ : Calls} {ρ ρ' : Env} {t : Den} {s : Slot} {i : Nat} {ds es : List PyData}
def kKe (i : Nat) (ρ : Env) : Slot × Env → Out (Slot × Env) := fun r => match ρ[i]?, r.2[i]? with
  | some (.own _), some (.val (.list ds)) => guard' (noLAll ds) (.ok (r.1, keepE i ds ρ))
  | _, _ => .ok r
@[simp] theorem x_dKeep : dKeep i t Φ ρ = (t Φ ρ).bind (kKe i ρ) := id rfl
end
end Dn

/-! Den61: a call without arguments. -/
namespace Dn
open PySem PySem.Spec L2
open PyProof.Rows hiding St
end Dn

/-! Den62: a refusal that a comprehension looks at: its name in a cell, a comprehension while it is held, defs called there. -/
namespace Dn
open PySem PySem.Spec L2
open PyProof.Rows hiding St

/-! ### the name of an except clause, in a cell -/
section
variable {X : Cx} {pins : List (Addr × Obj)} {σ : St} {H : Hp} {s : Shared} {i : Nat} {n : Str}
end
/-! ### a comprehension while an exception is held -/
/-- the block's context, the held exception known in it -/
abbrev blkH (X : Cx) (q : Addr × Obj) (s : Shared) (H : Hp) (scope : Scope) (cenv : PySem.Env) (fp : List Addr) : Cx := { X.blk s H scope cenv fp with pn := [q] }
section
variable {X : Cx} {q : Addr × Obj}
end
end Dn

/-! Den63: refusals told by their places: the defs that look at them, try. -/
namespace Dn
open PySem PySem.Spec L2
open PyProof.Rows hiding St

/-! ### a def that is called while an exception is held -/
/-! ### _law_classes, _law_only -/
/-- what is known of a refusal's class -/
structure KnL (K : PySem.W.Frag) (mg : Str → Option Value) (D : Addr) (nm : Str) : Prop where
  ask : ∀ x ∈ asksL, ∃ C : Addr, mg x = some (.ref C) ∧ PySem.W.kitOne K (.ref D) (.ref C) = some (decide (x = nm))
  rank : ∃ C : Addr, mg "RankError" = some (.ref C) ∧ PySem.W.kitOne K (.ref D) (.ref C) = some true
  val : mg "ValueError" = none ∧ PySem.W.kitOne K (.ref D) (.type "ValueError") = some true
  isi : mg "isinstance" = none
  is : ExcC K D
def clSc (sc : Scope) : Bool := ([("e" : Str), "found"].all fun x => sc.names.lookup x == some .local) && ("isinstance" :: asksL : List Str).all fun x => sc.names.lookup x == some .globalImplicit
section
variable {X : Cx} {a D : Addr} {σ : St} {H : Hp}
end
/-- a def whose body tells the classes -/
def ClBody (st : Stmt) : Prop := ∀ (X : Cx) (a D : Addr) (nm : Str) (σ : St) (H : Hp) (D0 : Ends), X.N = (["e", "found"] : List Str) → X.env.scope = defScope st → (∀ x, X.fn x = true) → Holds X a D → KnL X.K X.mg D nm → σ[0]? = some (some (.ref a)) → σ.length = 2 →
  (∀ H' p, Ex H H' → H' p = some (.lst ((asksL.map fun x => decide (x = nm)).map V.bl)) → D0.rt (.ref p) H') → wSs X (defBody st) D0 σ H
/-- its promise -/
def FnC (P : Program) (w : World) (K : PySem.W.Frag) (mg : Str → Option Value) (base : Heap) (f : Addr) (fd : FuncData) (D : Addr) (nm : Str) : Prop :=
  ∀ (A : Around) (outer : List PySem.Env) (s : Shared) (H : Hp) (q : Addr × Obj) (us : List Value) (Q : VK) (E : XK), L2H.RoomH 1 A → L2H.Hot1 A q → L2H.PinOk outer H s q → Env0 P w K mg base A outer s H → BindsTo s fd ⟨us, []⟩ ((["e"] : List Str).zip us) → Vals [.ref q.1] us →
    q.2.cls = .ref D → q.2.dict = none → (∃ vs, q.2.data = .fields vs) → (∀ H' p', Ex H H' → H' p' = some (.lst ((asksL.map fun x => decide (x = nm)).map V.bl)) → Q (.ref p') H') → codeAny (model P w) A (.call (.ref f) ⟨us, []⟩) (CR (L2N.CX P w) outer P w H s Q E) s
def olSc (sc csc : Scope) : Bool := (sc.names.lookup ("e" : Str) == some .local) && (sc.names.lookup ("place" : Str) == some .cell) && (["isinstance", "RankError", "ValueError", "_law_classes", "range"] : List Str).all (fun x => sc.names.lookup x == some .globalImplicit) && blkC ["e", "place", "k"] sc csc [("k", 2)] &&
  ((relS csc sc).names.lookup ("k" : Str) == some .local) && ((relS csc sc).names.lookup ("place" : Str) == some .cell || (relS csc sc).names.lookup ("place" : Str) == some .free)
section
variable {X : Cx} {a D : Addr} {σ : St} {H : Hp}
end
def OlBody (st : Stmt) : Prop := ∀ (X : Cx) (D : Addr) (nm : Str) (σ : St) (H : Hp) (D0 : Ends) (k : Int) (f : Addr) (fd : FuncData) (q : Addr × Obj), X.N = (["e", "place", "k"] : List Str) → X.env.scope = defScope st → q ∈ X.pn → L2H.Hot1 X.A q → L2H.RoomH 1 X.A → q.2.cls = .ref D → q.2.dict = none → (∃ vs, q.2.data = .fields vs) → KnL X.K X.mg D nm →
  FnC X.prog X.w X.K X.mg X.base f fd D nm → X.mg "_law_classes" = some (.ref f) → PySem.W.keepIn X.K (.ref f) = true → Binds X.K fd ["e"] [] → X.mg "range" = none → nm ∈ asksL → σ[0]? = some (some (.ref q.1)) → σ[1]? = some (some (.int k)) → σ.length = 3 →
  (∀ H', Ex H H' → D0.rt (.bl (decide (k = placeOf nm))) H') → wSs X (defBody st) D0 σ H
def tOl (X : Cx) (q : Addr × Obj) (csc : Scope) (e : Expr) : TT := fun σ H Q => ∀ (s : Shared) (H0 : Hp) (C : Addr) (cl : List (Str × Addr)) (fp : List Addr), wT (blkH X q s H0 csc (compEnvC csc cl C X.env) fp) e σ H Q
/-! ### try -/
/-- try: body, except RankError as e: return [place for place in range(16) if _law_only(e, place)] -/
def dTryL (exs : List (Str × Str)) (b : DenS) : DenS := fun Φ ρ => match b Φ ρ with
  | .ok r => .ok r
  | .exc x => match x.arg, exs.find? fun p => p.1 == x.cls with
    | none, some p => .ok (.ret (.own [.int (placeOf p.1)]), thin ρ)
    | _, _ => .stuck
  | .stuck => .stuck
  | .any _ => .stuck
  | .exs _ _ => .stuck
def tlSc (N : List Str) (sc csc : Scope) (jp : Nat) : Bool := (sc.names.lookup ("e" : Str) == some .cell) && (["RankError", "range"] : List Str).all (fun x => sc.names.lookup x == some .globalImplicit) && blkC N sc csc [("place", jp)] &&
  ((relS csc sc).names.lookup ("place" : Str) == some .local) && ((relS csc sc).names.lookup ("e" : Str) == some .cell || (relS csc sc).names.lookup ("e" : Str) == some .free) && ((relS csc sc).names.lookup ("_law_only" : Str) == some .globalImplicit)
/-! ### steps -/
section
variable {Φ : Calls} {ρ : Env} {b : DenS} {exs : List (Str × Str)} {c : Str} {p : Str × Str} {r : Fl × Env}
def kTryL2 (o : Option (Str × Str)) (ρ : Env) : Out (Fl × Env) := match o with
  | some p => .ok (.ret (.own [.int (placeOf p.1)]), thin ρ)
  | none => .stuck
def kTryL (exs : List (Str × Str)) (ρ : Env) : Out (Fl × Env) → Out (Fl × Env)
  | .ok r => .ok r
  | .exc ⟨c, none⟩ => kTryL2 (exs.find? fun p => p.1 == c) ρ
  | .exc ⟨_, some _⟩ => .stuck
  | .stuck => .stuck
  | .any _ => .stuck
  | .exs _ _ => .stuck
@[simp] theorem x_dTryL : dTryL exs b Φ ρ = kTryL exs ρ (b Φ ρ) := by
  unfold dTryL kTryL
  cases b Φ ρ with
  | ok r => rfl
  | stuck => rfl
  | any _ => rfl
  | exs _ _ => rfl
  | exc x =>
    obtain ⟨c, a⟩ := x
    cases a with
    | none =>
      show _ = kTryL2 (exs.find? fun p => p.1 == c) ρ
      cases g : exs.find? fun p => p.1 == c with
      | none => simp only [g]; rfl
      | some p => simp only [g]; rfl
    | some v => rfl
@[simp] theorem x_kTryLO : kTryL exs ρ (.ok r) = .ok r := id rfl
@[simp] theorem x_kTryLX : kTryL exs ρ (.exc ⟨c, none⟩) = kTryL2 (exs.find? fun p => p.1 == c) ρ := id rfl
@[simp] theorem x_kTryL2 : kTryL2 (some p) ρ = .ok (.ret (.own [.int (placeOf p.1)]), thin ρ) := id rfl
end
end Dn

/-! Den68: matchings by augmenting, and the chains they make. -/
namespace Dn
open PySem PySem.Spec L2
open PyProof.Rows hiding St
abbrev MtL := List (Int × Int)
/-- a set of matched things out of which the matching does not lead -/
def Clo (ps : List (Int × Int)) (L : MtL) (C : List Int) : Prop := ∀ l ∈ C, ∃ t, lookL L l = some t ∧ ∀ x, (t, x) ∈ ps → x ∈ C
/-- what augmenting gives -/
structure AugR (m : Nat) (ps : List (Int × Int)) (t : Int) (S : List Int) (L : MtL) (b : Bool) (S' : List Int) (L' : MtL) : Prop where
  sub : ∀ x ∈ S, x ∈ S'
  nd : S'.Nodup
  up : ∀ x ∈ S', x ∈ upTo m
  no : b = false → L' = L ∧ (∀ x, (t, x) ∈ ps → x ∈ S') ∧ ∀ l ∈ S', l ∉ S → ∃ t', lookL L l = some t' ∧ ∀ x, (t', x) ∈ ps → x ∈ S'
  key : b = true → ∃ l0, l0 ∉ L.map (·.1) ∧ l0 ∈ upTo m ∧ L'.map (·.1) = L.map (·.1) ++ [l0]
  val : b = true → (L'.map (·.2)).Perm (t :: L.map (·.2))
  same : b = true → ∀ l ∈ S, lookL L' l = lookL L l
  ok : b = true → ∀ e ∈ L', (e.2, e.1) ∈ ps
  clo : b = true → ∀ C, Clo ps L C → (∀ l ∈ C, lookL L' l = lookL L l) ∧ ¬ ∀ x, (t, x) ∈ ps → x ∈ C
/-- the loop over the places, before place j -/
structure AugI (m : Nat) (ps : List (Int × Int)) (t : Int) (S : List Int) (L : MtL) (j : Nat) (Sj : List Int) : Prop where
  sub : ∀ x ∈ S, x ∈ Sj
  nd : Sj.Nodup
  up : ∀ x ∈ Sj, x ∈ upTo m
  to : ∀ x : Int, 0 ≤ x → x < j → (t, x) ∈ ps → x ∈ Sj
  cl : ∀ l ∈ Sj, l ∉ S → ∃ t', lookL L l = some t' ∧ ∀ x, (t', x) ∈ ps → x ∈ Sj
theorem AugI.start {m : Nat} {ps : List (Int × Int)} {t : Int} {S : List Int} {L : MtL} (nd : S.Nodup) (up : ∀ x ∈ S, x ∈ upTo m) : AugI m ps t S L 0 S := ⟨fun _ h => h, nd, up, fun x h1 h2 => by omega, fun l h1 h2 => absurd h1 h2⟩
theorem AugI.done {m : Nat} {ps : List (Int × Int)} {t : Int} {S Sj : List Int} {L : MtL} (o : IsOrd m ps) (i : AugI m ps t S L m Sj) : AugR m ps t S L false Sj L :=
  ⟨i.sub, i.nd, i.up, fun _ => ⟨rfl, fun x hx => by
    have := o.bd _ hx
    exact i.to x (by omega) (by omega) hx, i.cl⟩, (fun z => by cases z), (fun z => by cases z), (fun z => by cases z), (fun z => by cases z), (fun z => by cases z)⟩
theorem AugI.skip {m : Nat} {ps : List (Int × Int)} {t : Int} {S Sj : List Int} {L : MtL} {j : Nat} (i : AugI m ps t S L j Sj) (h : (t, (j : Int)) ∉ ps ∨ (j : Int) ∈ Sj) : AugI m ps t S L (j + 1) Sj :=
  ⟨i.sub, i.nd, i.up, fun x h1 h2 h3 => by
    by_cases c : x = (j : Int)
    · subst c
      exact h.resolve_left fun z => z h3
    · exact i.to x h1 (by omega) h3, i.cl⟩
/-- all things below j handed in; U those that found no place -/
structure MtI (m : Nat) (ps : List (Int × Int)) (j : Nat) (L : MtL) (U : List Int) : Prop where
  kn : (L.map (·.1)).Nodup
  ku : ∀ x ∈ L.map (·.1), x ∈ upTo m
  ok : ∀ e ∈ L, (e.2, e.1) ∈ ps
  pm : (L.map (·.2) ++ U).Perm (upTo j)
  cl : ∃ C, Clo ps L C ∧ ∀ u ∈ U, ∀ x, (u, x) ∈ ps → x ∈ C
theorem MtI.start (m : Nat) (ps : List (Int × Int)) : MtI m ps 0 [] [] := ⟨.nil, (fun x h => nomatch h), (fun x h => nomatch h), .refl _, [], (fun x h => nomatch h), (fun x h => nomatch h)⟩
theorem upTo_snoc (j : Nat) : upTo (j + 1) = upTo j ++ [(j : Int)] := by
  unfold upTo
  rw [List.range_succ, List.map_append]
  rfl
theorem MtI.step {m : Nat} {ps : List (Int × Int)} {j : Nat} {L L' : MtL} {U S' : List Int} {b : Bool} (i : MtI m ps j L U) (r : AugR m ps (j : Int) [] L b S' L') : ∃ U', MtI m ps (j + 1) L' U' := by
  obtain ⟨C, hC, hU⟩ := i.cl
  cases b with
  | false =>
    obtain ⟨rfl, r2, r3⟩ := r.no rfl
    refine ⟨U ++ [(j : Int)], i.kn, i.ku, i.ok, ?_, C ++ S', fun l hl => ?_, fun u hu x hx => ?_⟩
    · rw [← List.append_assoc, upTo_snoc]
      exact i.pm.append_right _
    · rcases List.mem_append.mp hl with h | h
      · obtain ⟨t, h1, h2⟩ := hC l h
        exact ⟨t, h1, fun x hx => List.mem_append_left _ (h2 x hx)⟩
      · obtain ⟨t, h1, h2⟩ := r3 l h (by simp)
        exact ⟨t, h1, fun x hx => List.mem_append_right _ (h2 x hx)⟩
    · rcases List.mem_append.mp hu with h | h
      · exact List.mem_append_left _ (hU u h x hx)
      · rw [List.mem_singleton.mp h] at hx
        exact List.mem_append_right _ (r2 x hx)
  | true =>
    obtain ⟨l0, hl, hu, hk⟩ := r.key rfl
    obtain ⟨c1, _⟩ := r.clo rfl C hC
    refine ⟨U, ?_, ?_, r.ok rfl, ?_, C, fun l hl => ?_, hU⟩
    · rw [hk]
      exact List.nodup_append.mpr ⟨i.kn, by simp, fun a ha b hb z => hl (by rw [List.mem_singleton] at hb; rw [← hb, ← z]; exact ha)⟩
    · rw [hk]
      intro x hx
      rcases List.mem_append.mp hx with h | h
      · exact i.ku x h
      · rw [List.mem_singleton.mp h]; exact hu
    · rw [upTo_snoc]
      refine ((r.val rfl).append_right U).trans ?_
      rw [List.cons_append]
      exact (i.pm.cons _).trans (List.perm_append_comm (l₁ := [(j : Int)]))
    · obtain ⟨t, h1, h2⟩ := hC l hl
      exact ⟨t, by rw [c1 l hl]; exact h1, h2⟩
theorem filt_two (C : List Int) : ∀ A : List Int, A.length = (A.filter fun x => decide (x ∈ C)).length + (A.filter fun x => decide (x ∉ C)).length
  | [] => rfl
  | a :: A => by
    have ih := filt_two C A
    by_cases c : a ∈ C
    · rw [List.filter_cons_of_pos (by simpa using c), List.filter_cons_of_neg (by simpa using c), List.length_cons, List.length_cons]
      omega
    · rw [List.filter_cons_of_neg (by simpa using c), List.filter_cons_of_pos (by simpa using c), List.length_cons, List.length_cons]
      omega
/-- things that are apart, as many as found no place -/
theorem MtI.apart {m : Nat} {ps : List (Int × Int)} {L : MtL} {U : List Int} (i : MtI m ps m L U) : ∃ B : List Int, U.length ≤ B.length ∧ B.Nodup ∧ (∀ x ∈ B, x ∈ upTo m) ∧ ∀ x ∈ B, ∀ y ∈ B, (x, y) ∉ ps := by
  obtain ⟨C, hC, hU⟩ := i.cl
  let Lc := L.filter fun e => decide (e.1 ∈ C)
  let A := U ++ Lc.map (·.2)
  have lcs : Lc.Sublist L := List.filter_sublist
  have an : A.Nodup := by
    have h := (i.pm.nodup_iff.mpr (by unfold upTo; exact List.Pairwise.map _ (fun a b h e => h (by omega)) List.nodup_range))
    have h2 : (U ++ L.map (·.2)).Nodup := (List.perm_append_comm.nodup_iff).mp h
    exact h2.sublist ((List.Sublist.refl U).append (lcs.map _))
  have au : ∀ x ∈ A, x ∈ upTo m := fun x hx => by
    rw [← i.pm.mem_iff]
    rcases List.mem_append.mp hx with h | h
    · exact List.mem_append_right _ h
    · exact List.mem_append_left _ ((lcs.map _).subset h)
  have out : ∀ x ∈ A, ∀ y, (x, y) ∈ ps → y ∈ C := fun x hx y hy => by
    rcases List.mem_append.mp hx with h | h
    · exact hU x h y hy
    · obtain ⟨e, he, rfl⟩ := List.mem_map.mp h
      have he := List.mem_filter.mp he
      obtain ⟨t, h1, h2⟩ := hC e.1 (of_decide_eq_true he.2)
      rw [lookL_of i.kn (show (e.1, e.2) ∈ L from he.1)] at h1
      cases h1
      exact h2 y hy
  refine ⟨A.filter fun x => decide (x ∉ C), ?_, an.sublist List.filter_sublist, fun x hx => au x (List.mem_filter.mp hx).1, fun x hx y hy z => ?_⟩
  · have h1 : (A.filter fun x => decide (x ∈ C)).length ≤ Lc.length := by
      have := nodup_sub_len (A.filter fun x => decide (x ∈ C)) (Lc.map (·.1)) (an.sublist List.filter_sublist) fun x hx => by
        have hx := List.mem_filter.mp hx
        have hc := of_decide_eq_true hx.2
        obtain ⟨t, h1, _⟩ := hC x hc
        exact List.mem_map.mpr ⟨(x, t), List.mem_filter.mpr ⟨lookL_some h1, decide_eq_true hc⟩, rfl⟩
      rwa [List.length_map] at this
    have h2 : A.length = (A.filter fun x => decide (x ∈ C)).length + (A.filter fun x => decide (x ∉ C)).length := by
      exact filt_two C A
    have h3 : A.length = U.length + Lc.length := by
      show (U ++ Lc.map (·.2)).length = _
      rw [List.length_append, List.length_map]
    omega
  · exact (of_decide_eq_true (List.mem_filter.mp hy).2) (out x (List.mem_filter.mp hx).1 y z)
theorem MtI.count {m : Nat} {ps : List (Int × Int)} {L : MtL} {U : List Int} (i : MtI m ps m L U) : L.length + U.length = m := by
  have := i.pm.length_eq
  rw [List.length_append, List.length_map, upTo_len] at this
  exact this
end Dn

/-! Den70: sorted(set(xs)), xs a list of whole numbers. -/
namespace Dn
open PySem PySem.Spec L2
open PyProof.Rows hiding St
section
variable {P : Program} {w : World} {A : Around} {E : Value → Shared → Prop} {s : Shared}
end
section
variable {X : Cx}
def rSetI (K : PySem.W.Frag) (w : World) : List V → Hp → VK → Prop := fun xs H Q => ∃ (l : Addr) (ns : List Int), xs = [V.ref l] ∧ SqL K H l (ns.map V.int) ∧ ns.length < 62 ∧
  ∀ a c, H a = none → c ≤ ns.length → Q (.ref a) (upd H a (SetO w a (fun j => decide (j ∈ ns)) c))
end
def dedI : List Int → List Int
  | [] => []
  | x :: xs => if x ∈ xs then dedI xs else x :: dedI xs
/-- sorted, each once -/
def setI (ns : List Int) : List Int := sortI (dedI ns)
def pSortSetI : PyData → Option (List PyData)
  | .list ds => (numsOf ds).bind fun ns => if ns.length ≤ 60 then some (nsD (setI ns)) else none
  | _ => none
def dSSI (d : DenO) : Den := fun Φ ρ => (d Φ ρ).bind fun r => (opt (pSortSetI r.1)).bind fun ds => .ok (.own ds, r.2)
theorem rpA_ints {K : PySem.W.Frag} {F : Hp} : ∀ ns : List Int, RpAll K F (nsD ns) (ns.map V.int)
  | [] => .nil
  | n :: ns => .cons (.int n) (rpA_ints ns)
end Dn

/-! Den75: statements that change a list within a def's result: a part of a body that begins anew (a bubble). -/
namespace Dn
open PySem PySem.Spec L2
open PyProof.Rows hiding St
/-- a frame that began anew -/
structure FrB (B : Bd) : Prop where
  tup : ∀ a vs, B.F0 a ≠ some (.lst vs)
  all : B.F0 = tupH B.F0
  no : ∀ i a, ¬ B.L i a
def BuP (B : Bd) (D : Ends) : Fl × Env → Prop := fun r => match r.1 with
  | .nx => ∀ σ' F' H', Rel B F' H' r.2 σ' → D.nx σ' H'
  | .brk => ∀ σ' F' H', Rel B F' H' r.2 σ' → D.bk σ' H'
  | .cnt => ∀ σ' F' H', Rel B F' H' r.2 σ' → D.ct σ' H'
  | .ret s => ∀ σ' v F' H', Rel B F' H' r.2 σ' → Res B F' H' r.2 σ' s v → D.rt v H'
theorem BuP.st {B : Bd} {D : Ends} {F : Hp} : ∀ r, BuP B D r → StP B F D r := fun r h => by
  obtain ⟨f, ρ⟩ := r
  cases f with
  | nx => exact fun σ' F' H' R _ => h σ' F' H' R
  | brk => exact fun σ' F' H' R _ => h σ' F' H' R
  | cnt => exact fun σ' F' H' R _ => h σ' F' H' R
  | ret s => exact fun σ' v F' H' R _ => h σ' v F' H' R
def SndBu (Γ : Ctx) (st : List Stmt) (d : DenS) : Prop := ∀ (X : Cx) (Φ : Calls) (B : Bd) (F H : Hp) (ρ : Env) (σ : St) (D : Ends) (W : WX), CtxOk Γ Φ X → BodyOk X → BdOk Γ B → B.K = X.K → L2N.Takes X W → Rel B F H ρ σ → FrB B →
  (d Φ ρ).wp (BuP B D) (fun _ => False) → wSs X st D σ H
section
variable {Γ : Ctx} {st : Stmt} {sts : List Stmt} {a b : DenS}
end
/-- what a bubble sees, and what it leaves -/
def bubE (ρ : Env) : Env := ρ.map fun s => if noLS s = true then s else .un
def bacE (ns : List Int) (ρ : Env) : Env := (bubE ρ).set 0 (.scr ns)
def dBub (d : DenS) : DenS := fun Φ ρ => match (ρ[0]? : Option Slot) with
  | some (.scr ns) => (noX (d Φ (bubE ρ))).bind fun r => match r.1 with
    | .ret s => guard' (noLS s) (.ok (.ret s, bacE ns r.2))
    | f => .ok (f, bacE ns r.2)
  | _ => .stuck
/-! ### x[j].append(c), x a tuple with one list -/
def mutS (s : Slot) : Slot := match s with
  | .val d => if noL d = true then .val d else .un
  | .own es => if noLAll es = true then .own es else .un
  | _ => .un
def mutE (i : Nat) (top : Slot) (ρ : Env) : Env := ρ.mapIdx fun k s => if k = i then top else mutS s
def dMutT (i j : Nat) (c : Int) : DenS := fun _ ρ => match (ρ[i]? : Option Slot) with
  | some (.val (.tuple ds)) => match ds[j]? with
    | some (.list xs) => guard' (noLAll (ds.set j .none) && noLAll xs && decide (xs.length < 1000000)) (.ok (.nx, mutE i (.val (.tuple (ds.set j (.list (xs ++ [.int c]))))) ρ))
    | _ => .stuck
  | _ => .stuck
/-! ### x[0].append(c), x.append([]), x a list of lists that nobody looks at again -/
def dMutL (i : Nat) : DenS := fun _ ρ => match (ρ[i]? : Option Slot) with
  | some (.val (.list (.list xs :: ds))) => guard' (decide (xs.length < 1000) && decide (ds.length < 1000)) (.ok (.nx, bubE ρ))
  | _ => .stuck
section
variable {Φ : Calls} {ρ ρ' : Env} {d : DenS} {ns : List Int} {f : Fl} {s : Slot}
def kBub (ns : List Int) : Fl × Env → Out (Fl × Env) := fun r => match r.1 with
  | .ret s => guard' (noLS s) (.ok (.ret s, bacE ns r.2))
  | f => .ok (f, bacE ns r.2)
@[simp] theorem x_kBub1 : kBub ns (.nx, ρ) = .ok (.nx, bacE ns ρ) := id rfl
@[simp] theorem x_kBub2 : kBub ns (.ret s, ρ) = guard' (noLS s) (.ok (.ret s, bacE ns ρ)) := id rfl
end
end Dn

/-! Den76: texts: one within another, int of a text, join, split; tuples of whole numbers compared. -/
namespace Dn
open PySem PySem.Spec L2
open PyProof.Rows hiding St
/-- the one text within the other -/
def inStr (i j : Str) : Bool := !(Builtin.Str.occurrences j i 0 j.length 1).isEmpty
def pInS : Prim
  | [.str i, .str j] => some (.val (.bool (inStr i j)))
  | _ => none
def pNinS : Prim
  | [.str i, .str j] => some (.val (.bool (!inStr i j)))
  | _ => none
/-- int of a text -/
def pIntS : Prim
  | [.str a] => if a.length ≤ 640 then (PySem.intText? a).map fun n => Slot.val (.int n) else none
  | _ => none
/-- tuples of whole numbers -/
def lexLe (ns ms : List Int) : Bool := Ob.lexAt (fun j => decide (ns.getD j 0 = ms.getD j 0)) (fun j => decide (ns.getD j 0 ≤ ms.getD j 0)) (decide (ns.length ≤ ms.length)) 0 (min ns.length ms.length)
def pLeT : Prim
  | [.tuple ds, .tuple es] => (numsOf ds).bind fun ns => (numsOf es).map fun ms => Slot.val (.bool (lexLe ns ms))
  | _ => none
/-- the texts of a list -/
def strsOf : List PyData → Option (List Str)
  | [] => some []
  | .str i :: ds => (strsOf ds).map (i :: ·)
  | _ :: _ => none
def rJoin (K : PySem.W.Frag) : V → List V → Hp → VK → Prop := fun x xs H Q => ∃ a p, ∃ ys : List Str, x = .str a ∧ xs = [.ref p] ∧ (SqL K H p (ys.map V.str) ∨ SqT K H p (ys.map V.str)) ∧
    (ys.map (·.length)).sum + ys.length * a.length ≤ 16777216 ∧ Q (.str (Txt.join a ys)) H
/-- sep.join(a list of texts) -/
def pJoin : Prim
  | [.str a, .list ds] => (strsOf ds).bind fun ys => if (ys.map (·.length)).sum + ys.length * a.length ≤ 16777216 then some (.val (.str (Txt.join a ys))) else none
  | _ => none
def rSplit : V → List V → Hp → VK → Prop := fun x xs H Q => ∃ a b, x = .str a ∧ xs = [.str b] ∧ (b.length == 0) = false ∧ a.length + 2 ≤ sizeLine ∧ rNewStrs (Txt.split a b) H Q
/-- a text, split -/
def pSplit : Prim
  | [.str a, .str b] => if (b.length == 0) = false ∧ a.length + 2 ≤ sizeLine then some (.own ((Txt.split a b).map PyData.str)) else none
  | _ => none
section
variable {Γ : Ctx} {x : DenO} {d : DenOs} {p p' pm : Bool} {pos apos fpos : Pos} {o a b : Expr} {es : List Expr}
end
/-! ### what they give -/
@[simp] theorem x_ninS (i j : Str) : pNinS [.str i, .str j] = some (.val (.bool (!inStr i j))) := id rfl
@[simp] theorem x_inS (i j : Str) : pInS [.str i, .str j] = some (.val (.bool (inStr i j))) := id rfl
end Dn

/-! Den77: a loop that puts things into lists within a list, through another list of the same lists. -/
namespace Dn
open PySem PySem.Spec L2
open PyProof.Rows hiding St
/-- the ones that are marked -/
def pick {α : Type} : List Bool → List α → List α
  | true :: ms, x :: xs => x :: pick ms xs
  | false :: ms, _ :: xs => pick ms xs
  | _, _ => []
/-- which of them pass -/
def fitL (k : Nat) (c : Den) (Φ : Calls) : List PyData → Env → Out (List Bool × Env)
  | [], ρ => .ok ([], ρ)
  | d :: ds, ρ => (c Φ (ρ.set k (.val d))).bind fun b => match b.1 with
    | .val (.bool m) => (fitL k c Φ ds (wipeE [k] b.2)).bind fun z => .ok (m :: z.1, z.2)
    | _ => .stuck
section
variable {Γ : Ctx} {scope : Scope} {test : Expr} {c : Den} {pc : Bool} {k i : Nat} {x y : Str} {p1 p2 p3 : Pos}
end

/-! ### lists within a list that no slot shows -/
def clD (cs : List (List Int)) : List PyData := cs.map fun c => .list (nsD c)
structure Hid (B : Bd) (F H : Hp) (ρ : Env) (σ : St) (i : Nat) (f : Addr) (as : List Addr) (cs : List (List Int)) : Prop where
  at' : σ[i]? = some (some (.ref f))
  len : as.length = cs.length
  nd : as.Nodup
  nf : f ∉ as
  top : H f = some (.lst (as.map V.ref)) ∧ F f = none ∧ B.H0 f = none
  low : ∀ (q : Nat) (a : Addr) (c : List Int), as[q]? = some a → cs[q]? = some c → H a = some (.lst (c.map V.int)) ∧ F a = none ∧ B.H0 a = none
  un : ∀ (j : Nat) (s : Slot), ρ[j]? = some s → s.isOwn = true → ∀ a, σ[j]? = some (some (.ref a)) → a ≠ f ∧ a ∉ as
def iceF (F H : Hp) (f : Addr) (as : List Addr) : Hp := fun a => if a = f ∨ a ∈ as then H a else F a
section
variable {B : Bd} {F H F3 H3 H4 : Hp} {ρ ρ3 : Env} {σ σ3 : St} {i : Nat} {f : Addr} {as : List Addr} {cs : List (List Int)}
theorem Hid.lowA (h : Hid B F H ρ σ i f as cs) {a : Addr} (m : a ∈ as) : ∃ c, c ∈ cs ∧ H a = some (.lst (c.map V.int)) ∧ F a = none ∧ B.H0 a = none := by
  obtain ⟨q, hq, e⟩ := List.getElem_of_mem m
  have l : q < cs.length := by rw [← h.len]; exact hq
  exact ⟨cs[q], List.getElem_mem l, h.low q a cs[q] (by rw [List.getElem?_eq_getElem hq, e]) (List.getElem?_eq_getElem l)⟩
theorem Hid.hid (h : Hid B F H ρ σ i f as cs) {a : Addr} (m : a = f ∨ a ∈ as) : (∃ vs, H a = some (.lst vs)) ∧ F a = none ∧ B.H0 a = none := by
  rcases m with rfl | m
  · exact ⟨⟨_, h.top.1⟩, h.top.2⟩
  · obtain ⟨c, _, h1, h2⟩ := h.lowA m
    exact ⟨⟨_, h1⟩, h2⟩
theorem Hid.exF (h : Hid B F H ρ σ i f as cs) : Ex F (iceF F H f as) := fun a o e => by
  unfold iceF
  rw [if_neg fun m => by rw [(h.hid m).2.1] at e; cases e]
  exact e
theorem Hid.rp (h : Hid B F H ρ σ i f as cs) {G : Hp} (e : Ex (iceF F H f as) G) : RpAll B.K G (clD cs) (as.map V.ref) := by
  have key : ∀ (as : List Addr) (cs : List (List Int)), as.length = cs.length → (∀ (q : Nat) (a : Addr) (c : List Int), as[q]? = some a → cs[q]? = some c → G a = some (.lst (c.map V.int))) → RpAll B.K G (clD cs) (as.map V.ref) := by
    intro as
    induction as with
    | nil =>
      intro cs l _
      cases cs with
      | nil => exact .nil
      | cons c cs => cases l
    | cons a as ih =>
      intro cs l k
      cases cs with
      | nil => cases l
      | cons c cs =>
        exact .cons (.lst (k 0 a c rfl rfl) (rpA_ints c)) (ih cs (by simpa using l) fun q a c h1 h2 => k (q + 1) a c (by simpa using h1) (by simpa using h2))
  refine key as cs h.len fun q a c h1 h2 => e a _ ?_
  unfold iceF
  rw [if_pos (.inr (List.mem_of_getElem? h1))]
  exact (h.low q a c h1 h2).1
theorem Hid.topF (h : Hid B F H ρ σ i f as cs) : iceF F H f as f = some (.lst (as.map V.ref)) := by
  unfold iceF
  rw [if_pos (.inl rfl)]
  exact h.top.1
theorem Hid.ice (h : Hid B F H ρ σ i f as cs) (R : Rel B F H ρ σ) : Rel B (iceF F H f as) H (ρ.set i (.val (.list (clD cs)))) σ := by
  have e := h.exF
  refine ⟨⟨R.kept.ff.trans e, fun a o q => ?_, R.kept.keep, fun a h1 h2 h3 => ?_, R.kept.live⟩, ⟨by rw [List.length_set]; exact R.sl.len, fun j d q => ?_, fun j ns q => ?_, fun j s q qs => ?_, R.sl.par, fun j m s t a ne q qs q' qs' => ?_⟩⟩
  · unfold iceF at q
    split at q
    · exact q
    · exact R.kept.ex _ _ q
  · unfold iceF
    rw [if_neg fun m => h1 (h.hid m).2.2]
    exact R.kept.nof a h1 h2 h3
  · rcases set_get q with ⟨rfl, z, _⟩ | ⟨_, z⟩
    · cases z
      exact ⟨_, h.at', .lst h.topF (h.rp (.refl _))⟩
    · obtain ⟨v, k1, k2⟩ := R.sl.val j d z
      exact ⟨v, k1, k2.mono e⟩
  · rcases set_get q with ⟨_, z, _⟩ | ⟨_, z⟩
    · cases z
    · obtain ⟨v, k1, k2⟩ := R.sl.scr j ns z
      exact ⟨v, k1, e.sqL k2⟩
  · rcases set_get q with ⟨_, z, _⟩ | ⟨_, z⟩
    · subst z; cases qs
    · obtain ⟨a, o, k1, k2, k3, k4, k5⟩ := R.sl.own j s z qs
      refine ⟨a, o, k1, ?_, k3, k4.mono e, k5⟩
      unfold iceF
      rw [if_neg fun m => ?_]
      · exact k2
      · have := h.un j s z qs a k1
        exact m.elim this.1 this.2
  · rcases set_get q with ⟨_, z, _⟩ | ⟨_, z⟩
    · subst z; cases qs
    · rcases set_get q' with ⟨_, z', _⟩ | ⟨_, z'⟩
      · subst z'; cases qs'
      · exact R.sl.dis j m s t a ne z qs z' qs'
end

/-! ### the two statements -/
def nthT : List Bool → Nat → Option Nat
  | [], _ => none
  | true :: _, 0 => some 0
  | true :: ms, n + 1 => (nthT ms n).map (· + 1)
  | false :: ms, n => (nthT ms n).map (· + 1)
def appC (cs : List (List Int)) (q : Nat) (u : Int) : List (List Int) := cs.set q (cs.getD q [] ++ [u])
def dPB (i j k t : Nat) (c cond idx : Den) (Φ : Calls) (cs : List (List Int)) (ρ : Env) : Out (List (List Int) × Env) :=
  guard' (decide (cs.length ≤ 1000 ∧ k < ρ.length ∧ j < ρ.length) && cs.all fun c => decide (c.length ≤ 1000))
  ((noX (fitL k c Φ (clD cs) (wipeE [k] (ρ.set i (.val (.list (clD cs))))))).bind fun z =>
    (noX (cond Φ ((unwipe [k] (ρ.set i (.val (.list (clD cs)))) z.2).set j (.val (.list (pick z.1 (clD cs))))))).bind fun b => match b.1 with
      | .val (.bool true) => (noX (idx Φ b.2)).bind fun x => match x.1, x.2[t]? with
        | .val (.int n), some (.val (.int u)) => match nthT z.1 n.toNat with
          | some q => guard' (decide (0 ≤ n)) (.ok (appC cs q u, mutE i .un x.2))
          | none => .stuck
        | _, _ => .stuck
      | .val (.bool false) => match b.2[t]? with
        | some (.val (.int u)) => .ok (cs ++ [[u]], mutE i .un b.2)
        | _ => .stuck
      | _ => .stuck)
section
variable {Γ : Ctx} {scope : Scope} {test condE idxE : Expr} {c cond idx : Den} {pc p' p'' : Bool} {i j k t : Nat} {x y z w : Str}
def partL (i j k t : Nat) (c cond idx : Den) (Φ : Calls) : List PyData → List (List Int) → Env → Out (List (List Int) × Env)
  | [], cs, ρ => .ok (cs, ρ)
  | d :: ds, cs, ρ => (dPB i j k t c cond idx Φ cs (ρ.set t (.val d))).bind fun z => partL i j k t c cond idx Φ ds z.1 z.2
/-- the loop -/
def dPart (i j k t : Nat) (s : DenI) (c cond idx : Den) : DenS := fun Φ ρ => (s Φ ρ).bind fun r => match r.2[i]? with
  | some (.own []) => (noX (partL i j k t c cond idx Φ r.1 [] (r.2.set i .un))).bind fun z => .ok (.nx, z.2.set i (.own (clD z.1)))
  | _ => .stuck
theorem Hid.grow {B : Bd} {F H H' : Hp} {ρ ρ' : Env} {σ σ' : St} {f : Addr} {as : List Addr} {cs : List (List Int)} (h : Hid B F H ρ σ i f as cs) (e : Ex H H') (a' : σ'[i]? = some (some (.ref f))) (u : ∀ (j : Nat) (s : Slot), ρ'[j]? = some s → s.isOwn = true → ∀ a, σ'[j]? = some (some (.ref a)) → a ≠ f ∧ a ∉ as) : Hid B F H' ρ' σ' i f as cs :=
  ⟨a', h.len, h.nd, h.nf, ⟨e _ _ h.top.1, h.top.2⟩, fun q a c h1 h2 => ⟨e _ _ (h.low q a c h1 h2).1, (h.low q a c h1 h2).2⟩, u⟩
/-- the lists are seen again -/
theorem Hid.back {B : Bd} {F H : Hp} {ρ : Env} {σ : St} {f : Addr} {as : List Addr} {cs : List (List Int)} (h : Hid B F H ρ σ i f as cs) (R : Rel B F H ρ σ) : ∃ F', Rel B F' H (ρ.set i (.own (clD cs))) σ ∧ Ex F F' := by
  have low : ∀ a, a ∈ as → (∃ vs, H a = some (.lst vs)) ∧ F a = none ∧ B.H0 a = none := fun a m => h.hid (.inr m)
  have e : Ex F (fun a => if a ∈ as then H a else F a) := fun a o q => by
    show (if a ∈ as then H a else F a) = _
    rw [if_neg fun m => by rw [(low a m).2.1] at q; cases q]
    exact q
  have rp : RpAll B.K (fun a => if a ∈ as then H a else F a) (clD cs) (as.map V.ref) := by
    have key : ∀ (G : Hp) (as : List Addr) (cs : List (List Int)), as.length = cs.length → (∀ (q : Nat) (a : Addr) (c : List Int), as[q]? = some a → cs[q]? = some c → G a = some (.lst (c.map V.int))) → RpAll B.K G (clD cs) (as.map V.ref) := by
      intro G as
      induction as with
      | nil =>
        intro cs l _
        cases cs with
        | nil => exact .nil
        | cons c cs => cases l
      | cons a as ih =>
        intro cs l k
        cases cs with
        | nil => cases l
        | cons c cs => exact .cons (.lst (k 0 a c rfl rfl) (rpA_ints c)) (ih cs (by simpa using l) fun q a c h1 h2 => k (q + 1) a c (by simpa using h1) (by simpa using h2))
    refine key _ as cs h.len fun q a c h1 h2 => ?_
    show (if a ∈ as then H a else F a) = _
    rw [if_pos (List.mem_of_getElem? h1)]
    exact (h.low q a c h1 h2).1
  refine ⟨fun a => if a ∈ as then H a else F a, ⟨⟨R.kept.ff.trans e, fun a o q => ?_, R.kept.keep, fun a h1 h2 h3 => ?_, R.kept.live⟩, ⟨by rw [List.length_set]; exact R.sl.len, fun j d q => ?_, fun j ns q => ?_, fun j s q qs => ?_, R.sl.par, fun j m s t a ne q qs q' qs' e1 e2 => ?_⟩⟩, e⟩
  · replace q : (if a ∈ as then H a else F a) = some o := q
    split at q
    · exact q
    · exact R.kept.ex _ _ q
  · show (if a ∈ as then H a else F a) = none
    rw [if_neg fun m => h1 (low a m).2.2]
    exact R.kept.nof a h1 h2 h3
  · rcases set_get q with ⟨_, z, _⟩ | ⟨_, z⟩
    · cases z
    · obtain ⟨v, k1, k2⟩ := R.sl.val j d z
      exact ⟨v, k1, k2.mono e⟩
  · rcases set_get q with ⟨_, z, _⟩ | ⟨_, z⟩
    · cases z
    · obtain ⟨v, k1, k2⟩ := R.sl.scr j ns z
      exact ⟨v, k1, e.sqL k2⟩
  · rcases set_get q with ⟨rfl, z, _⟩ | ⟨_, z⟩
    · subst z
      refine ⟨f, _, h.at', ?_, h.top.1, ⟨_, rfl, rp⟩, .inr h.top.2.2⟩
      show (if f ∈ as then H f else F f) = none
      rw [if_neg h.nf]
      exact h.top.2.1
    · obtain ⟨a, o, k1, k2, k3, k4, k5⟩ := R.sl.own j s z qs
      refine ⟨a, o, k1, ?_, k3, k4.mono e, k5⟩
      show (if a ∈ as then H a else F a) = none
      rw [if_neg (h.un j s z qs a k1).2]
      exact k2
  · rcases set_get q with ⟨rfl, z, _⟩ | ⟨_, z⟩
    · rcases set_get q' with ⟨z', _, _⟩ | ⟨_, z'⟩
      · exact ne z'.symm
      · rw [h.at'] at e1
        cases e1
        exact (h.un m t z' qs' _ e2).1 rfl
    · rcases set_get q' with ⟨rfl, z', _⟩ | ⟨_, z'⟩
      · rw [h.at'] at e2
        cases e2
        exact (h.un j s z qs _ e1).1 rfl
      · exact R.sl.dis j m s t a ne z qs z' qs' e1 e2
end
end Dn

/-! Den78: calls where a desk is handed over first and its past stands beside; methods; the making of an instance. -/
namespace Dn
open PySem PySem.Spec L2
open PyProof.Rows hiding St
section
variable {B : Bd} {F H F' H' : Hp} {ρ ρ' : Env} {σ : St}
end
/-! ### methods, making -/
section
variable {X : Cx} {CX : CXT} {k : Nat} {f C : Addr} {fd : FuncData} {ps : List Str} {sp : Sp} {E : XK} {EE : St → XK} {x m : Str} {p pos apos : Pos} {e o : Expr} {es : List Expr} {ta : TE} {t : TA}
/-- o.m(..) -/
def tMethG (C : Addr) (m : Str) (sp : Sp) (E : St → XK) (ta : TE) (t : TA) : TE := fun σ H Q => ta σ H fun x H1 => ∃ a dx fs, x = .ref a ∧ H1 a = some (.ins C dx fs) ∧ fs.lookup m = none ∧
  t σ H1 fun vs H2 => sp (x :: vs) H2 Q (E σ)
/-- C() -/
def tMakeG (C : Addr) (sp : Sp) : TE := fun σ H Q => ∀ x dx, H x = none → H dx = none → dx ≠ x →
  sp [.ref x] (upd (upd H dx (.own x)) x (.ins C dx [])) (fun v H2 => v = .non ∧ Q (.ref x) H2) (fun _ _ _ => False)
end
end Dn

/-! Den79: a desk's attributes: read, stored; its past: read, changed. -/
namespace Dn
open PySem PySem.Spec L2
open PyProof.Rows hiding St
/-- an attribute's place -/
def atF (n : Nat) : Str := if n = 2 then "order" else "kept"
/-- self.order, self.kept -/
def fldD (s : Option Slot) (n : Nat) : Option PyData := match s with
  | some (.obj 0 [_, _, d1, d2]) => if n = 2 then some d1 else some d2
  | _ => none
def dFld (i n : Nat) : Den := fun _ ρ => (opt (fldD (ρ[i]?) n)).bind fun d => .ok (.val d, ρ)
section
variable {Γ : Ctx} {x f : Str} {i j n : Nat} {pos xpos apos : Pos} {Φ : Calls} {X : Cx} {B : Bd} {F H : Hp} {ρ : Env} {σ : St}
/-! ### stores -/
def putFld (s : Option Slot) (n : Nat) (d : PyData) : Option Slot := match s with
  | some (.obj 0 [c, p, d1, d2]) => if n = 2 then some (.obj 0 [c, p, d, d2]) else some (.obj 0 [c, p, d1, d])
  | _ => none
/-- self.order = e -/
def dFldSet (i n : Nat) (e : Den) : DenS := fun Φ ρ => (oOf e Φ ρ).bind fun r => (opt (putFld (r.2[i]?) n r.1)).bind fun s => .ok (.nx, r.2.set i s)
/-! ### the past -/
def linked (s t : Option Slot) : Bool := match s, t with
  | some (.obj 0 [_, .int p, _, _]), some (.obj 1 (.int q :: _)) => decide (p = q)
  | _, _ => false
def pastD : Option Slot → Option (List PyData)
  | some (.obj 1 (_ :: ds)) => some ds
  | _ => none
/-- self.past, looked at -/
def oPast (i j : Nat) : DenO := fun _ ρ => guard' (linked (ρ[i]?) (ρ[j]?)) ((opt (pastD (ρ[j]?))).bind fun ds => .ok (.list ds, ρ))
/-- self.past.append(e), self.past.pop() -/
def dPastM (i j : Nat) (f : MutF) (as : DenOs) : Den := fun Φ ρ => guard' (linked (ρ[i]?) (ρ[j]?)) ((as Φ ρ).bind fun r => (opt (pastD (r.2[j]?))).bind fun ds => (opt (f ds r.1)).bind fun m => .ok (.val m.1, r.2.set j (.obj 1 ((pastC (r.2[j]?)) :: m.2))))
where pastC : Option Slot → PyData
  | some (.obj 1 (c :: _)) => c
  | _ => .none
end
end Dn

/-! Den80: statements where numbers may come and refusals are told with the slots; calls with a desk; a desk made; try. -/
namespace Dn
open PySem PySem.Spec L2
open PyProof.Rows hiding St
/-! ### a desk is lent with its past -/
def isDesk : Option Slot → Bool
  | some (.obj 0 _) => true
  | _ => false
def lendD (i j : Nat) (y : List (Option Nat × Slot) × Env) : Option (List (Option Nat × Slot) × Env) := match y.2[i]?, y.2[j]? with
  | some (.obj 0 ds), some (.obj 1 es) => some (((some i, .obj 0 ds) :: y.1) ++ [(some j, .obj 1 es)], (y.2.set i .un).set j .un)
  | _, _ => none
section
variable {X : Cx} {B : Bd} {F H F' H' : Hp} {ρ ρ' : Env} {σ : St} {i j : Nat}
end
/-- f(desk, ..) -/
def dCallD (x : Str) (n i j : Nat) (as : DenA) : Den := fun Φ ρ => guard' (isDesk (ρ[i]?)) ((as Φ ρ).bind fun y => (opt (lendD i j y)).bind fun z => guard' (z.1.length == n + 1) ((calm' (Φ x (z.1.map (·.2)))).bind fun r => guard' (r.2.length == n + 1) (.ok (r.1, giveBack z.1 r.2 z.2))))
/-- what a method's end means -/
def backM (n : Nat) (k : Slot → Fl) (z : List (Option Nat × Slot) × Env) : Out (Slot × List Slot) → Out (Fl × Env)
  | .ok r => guard' (r.2.length == n + 1) (.ok (k r.1, giveBack z.1 r.2 z.2))
  | .exs x outs => guard' (outs.length == n + 1) (.exs x (giveBack z.1 outs z.2))
  | .exc x => .exc x
  | _ => .stuck
/-- return o.m(..), o.m(..) -/
def dMeth (k : Slot → Fl) (x : Str) (n i j : Nat) (as : DenA) : DenS := fun Φ ρ => guard' (isDesk (ρ[i]?)) ((calm' (as Φ ρ)).bind fun y => (opt (lendD i j y)).bind fun z => guard' (z.1.length == n + 1) (backM n k z (Φ x (z.1.map (·.2)))))
section
variable {Γ : Ctx} {es : List Expr} {r : DenA} {pos fpos xpos apos rpos : Pos} {i j n : Nat} {x y m : Str} {e : Expr} {kf : Slot → Fl}
end
/-! ### statements -/
def dLift (d : DenS) : DenS := fun Φ ρ => calm' (d Φ ρ)
def dIfX (t : Den) (a b : DenS) : DenS := fun Φ ρ => (calm' (t Φ ρ)).bind (kIfS a b Φ)
def dForX (t : Tgt) (s : DenI) (b : DenS) : DenS := fun Φ ρ => (calm' (s Φ ρ)).bind fun r => forL (fun d ρ => (opt (putT t d ρ)).bind fun ρ => b Φ ρ) r.1 r.2
def dRaiseX (x : Str) : DenS := fun _ ρ => .exs ⟨x, none⟩ ρ
section
variable {Γ : Ctx} {st : Stmt} {sts sts' : List Stmt} {a b : DenS} {d : Den} {e c : Expr} {p : Bool} {pos pos' : Pos} {i : Nat} {x : Str}
theorem StPx.mono {X : Cx} {B : Bd} {F F' : Hp} {W : WX} {D : Ends} {c : Out (Fl × Env)} (e : Ex F F') (h : c.wpx (StP B F D) (ExS X B F W) (ExsS X B F W)) : c.wpx (StP B F' D) (ExS X B F' W) (ExsS X B F' W) := wpx_mono h (StP.mono e) (ExS.mono e) (ExsS.mono e)
end
end Dn

/-! Den81: a desk made; both attributes stored at once; try; values by truth. -/
namespace Dn
open PySem PySem.Spec L2
open PyProof.Rows hiding St
/-! ### attributes as targets -/
def gFld (K : PySem.W.Frag) (to : TE) (f : Str) : TG := fun v σ H Q => to σ H fun x H1 => ∃ a C dx fs, x = .ref a ∧ H1 a = some (.ins C dx fs) ∧ Cls K C ∧ NoAttr K C f ∧ fs.length < 1000 ∧ Q σ (upd H1 a (.ins C dx (L2.putF f v fs)))
def kPop2 (i : Nat) : Slot × Env → Out (Fl × Env) := fun r => match r.1 with
  | .val (.tuple [d1, d2]) => (opt (putFld (r.2[i]?) 2 d1)).bind fun s => (opt (putFld (some s) 3 d2)).bind fun t => .ok (.nx, r.2.set i t)
  | _ => .stuck
/-- self.order, self.kept = e -/
def dSet2 (i : Nat) (d : Den) : DenS := fun Φ ρ => (d Φ ρ).bind (kPop2 i)
section
variable {Γ : Ctx} {x y : Str} {i j n : Nat} {pos xpos apos p1 p2 p3 p4 p5 : Pos} {e : Expr} {d : Den} {p : Bool}
/-! ### a desk, made -/
def ord0 : PyData := .tuple [.int 1, .tuple []]
def dNewDesk (i j : Nat) : DenS := fun _ ρ => .any fun a => .any fun q => .ok (.nx, (ρ.set i (.obj 0 [.int (a : Int), .int (q : Int), ord0, .list []])).set j (.obj 1 [.int (q : Int)]))
/-! ### __init__ -/
end
end Dn

/-! Den82: try where refusals are told with the slots; one value or another; all of it step by step. -/
namespace Dn
open PySem PySem.Spec L2
open PyProof.Rows hiding St
def kTryX2 (o : Option (Str × Str)) (ρ : Env) : Out (Fl × Env) := match o with
  | some p => .ok (.ret (.own [.int (placeOf p.1)]), ρ)
  | none => .stuck
def kTryX (exs : List (Str × Str)) : Out (Fl × Env) → Out (Fl × Env)
  | .ok r => .ok r
  | .exs ⟨c, none⟩ ρ => kTryX2 (exs.find? fun p => p.1 == c) ρ
  | _ => .stuck
/-- try: body, except RankError as e: return [place for place in range(16) if _law_only(e, place)] -/
def dTryX (exs : List (Str × Str)) (b : DenS) : DenS := fun Φ ρ => kTryX exs (b Φ ρ)
section
variable {Γ : Ctx} {x : Str} {i j : Nat} {pos xpos apos fpos : Pos} {as : DenOs} {e : Expr} {p : Bool}
end
/-! ### one value or another -/
def truD : PyData → Option Bool
  | .none => some false
  | .str s => if s.length ≤ 1000000 then some (decide (s.length ≠ 0)) else none
  | .tuple ds => some (!ds.isEmpty)
  | _ => none
def kOrV2 (o : Option Bool) (d : PyData) (b : Den) (Φ : Calls) (ρ : Env) : Out (Slot × Env) := match o with
  | some true => .ok (.val d, ρ)
  | some false => b Φ ρ
  | none => .stuck
def kOrV (b : Den) (Φ : Calls) : PyData × Env → Out (Slot × Env) := fun x => kOrV2 (truD x.1) x.1 b Φ x.2
/-- a or b -/
def dOrV (a b : Den) : Den := fun Φ ρ => (oOf a Φ ρ).bind (kOrV b Φ)
/-! ### step by step -/
section
variable {α β : Type} {Φ : Calls} {ρ ρ2 : Env} {a b t : Den} {s s' : DenS} {i j n k : Nat} {x y : PyData} {r : DenA} {q c : Str} {g : MutF} {as : DenOs} {ds es xs outs : List PyData} {ss : List Slot} {sl s2 : Slot} {la la2 : List (Option Nat × Slot)} {f : α → Out β} {u : α} {P : α → Prop} {E : Exc → Prop} {S : Exc → Env → Prop} {ex : Exc} {kf : Slot → Fl} {exs : List (Str × Str)} {p : Str × Str} {w : Fl × Env} {z : Slot × List Slot}
@[simp] theorem x_calm1 : calm' (Out.ok u) = .ok u := id rfl
@[simp] theorem x_calm2 : calm' (Out.exc ex : Out α) = .exc ex := id rfl
@[simp] theorem x_exsB : (Out.exs ex ρ : Out α).bind f = .exs ex ρ := id rfl
@[simp] theorem x_anyB {g : Nat → Out α} : (Out.any g).bind f = .any fun n => (g n).bind f := congrArg Out.any (funext fun n => Out.bindR_eq _ _)
@[simp] theorem x_wpxO : (Out.ok u).wpx P E S = P u := id rfl
@[simp] theorem x_wpxE : (Out.exc ex : Out α).wpx P E S = E ex := id rfl
@[simp] theorem x_wpxS : (Out.exs ex ρ : Out α).wpx P E S = S ex ρ := id rfl
@[simp] theorem x_wpxA {g : Nat → Out α} : (Out.any g).wpx P E S = ∀ n, (g n).wpx P E S := id rfl
@[simp] theorem x_wpxN : (Out.stuck : Out α).wpx P E S = False := id rfl
def fldG (o : Option PyData) (ρ : Env) : Out (Slot × Env) := (opt o).bind fun d => .ok (.val d, ρ)
@[simp] theorem x_dFld : dFld i n Φ ρ = fldG (fldD (ρ[i]?) n) ρ := id rfl
@[simp] theorem x_dFld1 : fldG (some x) ρ = .ok (.val x, ρ) := id rfl
@[simp] theorem x_fldD2 {a1 a2 a3 a4 : PyData} : fldD (some (.obj 0 [a1, a2, a3, a4])) 2 = some a3 := id rfl
@[simp] theorem x_fldD3 {a1 a2 a3 a4 : PyData} : fldD (some (.obj 0 [a1, a2, a3, a4])) 3 = some a4 := id rfl
def fsG (o : Option Slot) (i : Nat) (ρ : Env) : Out (Fl × Env) := (opt o).bind fun s => .ok (.nx, ρ.set i s)
def kFs (i n : Nat) : PyData × Env → Out (Fl × Env) := fun r => fsG (putFld (r.2[i]?) n r.1) i r.2
@[simp] theorem x_dFldSet : dFldSet i n a Φ ρ = (oOf a Φ ρ).bind (kFs i n) := id rfl
@[simp] theorem x_dFldSet1 : kFs i n (x, ρ) = fsG (putFld (ρ[i]?) n x) i ρ := id rfl
@[simp] theorem x_dFldSet2 : fsG (some sl) i ρ = .ok (.nx, ρ.set i sl) := id rfl
@[simp] theorem x_putFld2 {a1 a2 a3 a4 : PyData} : putFld (some (.obj 0 [a1, a2, a3, a4])) 2 x = some (.obj 0 [a1, a2, x, a4]) := id rfl
@[simp] theorem x_putFld3 {a1 a2 a3 a4 : PyData} : putFld (some (.obj 0 [a1, a2, a3, a4])) 3 x = some (.obj 0 [a1, a2, a3, x]) := id rfl
@[simp] theorem x_linked {a1 a3 a4 : PyData} {m m' : Int} : linked (some (.obj 0 [a1, .int m, a3, a4])) (some (.obj 1 (.int m' :: ds))) = decide (m = m') := id rfl
@[simp] theorem x_pastD {a1 : PyData} : pastD (some (.obj 1 (a1 :: ds))) = some ds := id rfl
@[simp] theorem x_pastC {a1 : PyData} : dPastM.pastC (some (.obj 1 (a1 :: ds))) = a1 := id rfl
def oPastG (o : Option (List PyData)) (ρ : Env) : Out (PyData × Env) := (opt o).bind fun ds => .ok (.list ds, ρ)
@[simp] theorem x_oPast : oPast i j Φ ρ = guard' (linked (ρ[i]?) (ρ[j]?)) (oPastG (pastD (ρ[j]?)) ρ) := id rfl
@[simp] theorem x_oPast1 : oPastG (some ds) ρ = .ok (.list ds, ρ) := id rfl
def pmG2 (o : Option (PyData × List PyData)) (j : Nat) (c : PyData) (ρ : Env) : Out (Slot × Env) := (opt o).bind fun m => .ok (.val m.1, ρ.set j (.obj 1 (c :: m.2)))
def pmG (o : Option (List PyData)) (g : MutF) (xs : List PyData) (j : Nat) (c : PyData) (ρ : Env) : Out (Slot × Env) := (opt o).bind fun ds => pmG2 (g ds xs) j c ρ
def kPm (j : Nat) (g : MutF) : List PyData × Env → Out (Slot × Env) := fun r => pmG (pastD (r.2[j]?)) g r.1 j (dPastM.pastC (r.2[j]?)) r.2
@[simp] theorem x_dPastM : dPastM i j g as Φ ρ = guard' (linked (ρ[i]?) (ρ[j]?)) ((as Φ ρ).bind (kPm j g)) := id rfl
@[simp] theorem x_dPastM1 : kPm j g (xs, ρ) = pmG (pastD (ρ[j]?)) g xs j (dPastM.pastC (ρ[j]?)) ρ := id rfl
@[simp] theorem x_dPastM2 : pmG (some ds) g xs j x ρ = pmG2 (g ds xs) j x ρ := id rfl
@[simp] theorem x_dPastM3 : pmG2 (some (x, ds)) j y ρ = .ok (.val x, ρ.set j (.obj 1 (y :: ds))) := id rfl
def kP23 (o : Option Slot) (i : Nat) (ρ : Env) : Out (Fl × Env) := (opt o).bind fun t => .ok (.nx, ρ.set i t)
def kP22 (o : Option Slot) (i : Nat) (y : PyData) (ρ : Env) : Out (Fl × Env) := (opt o).bind fun s => kP23 (putFld (some s) 3 y) i ρ
@[simp] theorem x_dSet2 : dSet2 i a Φ ρ = (a Φ ρ).bind (kPop2 i) := id rfl
@[simp] theorem x_dSet21 : kPop2 i (.val (.tuple [x, y]), ρ) = kP22 (putFld (ρ[i]?) 2 x) i y ρ := id rfl
@[simp] theorem x_dSet22 : kP22 (some sl) i y ρ = kP23 (putFld (some sl) 3 y) i ρ := id rfl
@[simp] theorem x_dSet23 : kP23 (some sl) i ρ = .ok (.nx, ρ.set i sl) := id rfl
def ldG (o o' : Option Slot) (i j : Nat) (la : List (Option Nat × Slot)) (ρ : Env) : Option (List (Option Nat × Slot) × Env) := match o, o' with
  | some (.obj 0 ds), some (.obj 1 es) => some (((some i, .obj 0 ds) :: la) ++ [(some j, .obj 1 es)], (ρ.set i .un).set j .un)
  | _, _ => none
@[simp] theorem x_lendD : lendD i j (la, ρ) = ldG (ρ[i]?) (ρ[j]?) i j la ρ := id rfl
@[simp] theorem x_lendD1 : ldG (some (.obj 0 ds)) (some (.obj 1 es)) i j la ρ = some (((some i, .obj 0 ds) :: la) ++ [(some j, .obj 1 es)], (ρ.set i .un).set j .un) := id rfl
@[simp] theorem x_isDesk : isDesk (some (.obj 0 ds)) = true := id rfl
def kCd3 (n : Nat) (la : List (Option Nat × Slot)) (ρ : Env) : Slot × List Slot → Out (Slot × Env) := fun r => guard' (r.2.length == n + 1) (.ok (r.1, giveBack la r.2 ρ))
def kCd2 (q : Str) (n : Nat) (Φ : Calls) (o : Option (List (Option Nat × Slot) × Env)) : Out (Slot × Env) := (opt o).bind fun z => guard' (z.1.length == n + 1) ((calm' (Φ q (z.1.map (·.2)))).bind (kCd3 n z.1 z.2))
def kCd (q : Str) (n i j : Nat) (Φ : Calls) : List (Option Nat × Slot) × Env → Out (Slot × Env) := fun y => kCd2 q n Φ (lendD i j y)
@[simp] theorem x_dCallD : dCallD q n i j r Φ ρ = guard' (isDesk (ρ[i]?)) ((r Φ ρ).bind (kCd q n i j Φ)) := id rfl
@[simp] theorem x_dCallD1 : kCd q n i j Φ (la, ρ) = kCd2 q n Φ (lendD i j (la, ρ)) := id rfl
@[simp] theorem x_dCallD2 : kCd2 q n Φ (some (la, ρ)) = guard' (la.length == n + 1) ((calm' (Φ q (la.map (·.2)))).bind (kCd3 n la ρ)) := id rfl
@[simp] theorem x_dCallD3 : kCd3 n la ρ (sl, ss) = guard' (ss.length == n + 1) (.ok (sl, giveBack la ss ρ)) := id rfl
def kMe2 (kf : Slot → Fl) (q : Str) (n : Nat) (Φ : Calls) (o : Option (List (Option Nat × Slot) × Env)) : Out (Fl × Env) := (opt o).bind fun z => guard' (z.1.length == n + 1) (backM n kf z (Φ q (z.1.map (·.2))))
def kMe (kf : Slot → Fl) (q : Str) (n i j : Nat) (Φ : Calls) : List (Option Nat × Slot) × Env → Out (Fl × Env) := fun y => kMe2 kf q n Φ (lendD i j y)
@[simp] theorem x_dMeth : dMeth kf q n i j r Φ ρ = guard' (isDesk (ρ[i]?)) ((calm' (r Φ ρ)).bind (kMe kf q n i j Φ)) := id rfl
@[simp] theorem x_dMeth1 : kMe kf q n i j Φ (la, ρ) = kMe2 kf q n Φ (lendD i j (la, ρ)) := id rfl
@[simp] theorem x_dMeth2 : kMe2 kf q n Φ (some (la, ρ)) = guard' (la.length == n + 1) (backM n kf (la, ρ) (Φ q (la.map (·.2)))) := id rfl
@[simp] theorem x_backM1 : backM n kf (la, ρ) (.ok (sl, ss)) = guard' (ss.length == n + 1) (.ok (kf sl, giveBack la ss ρ)) := id rfl
@[simp] theorem x_backM2 : backM n kf (la, ρ) (.exs ex ss) = guard' (ss.length == n + 1) (.exs ex (giveBack la ss ρ)) := id rfl
@[simp] theorem x_dLift : dLift s Φ ρ = calm' (s Φ ρ) := id rfl
@[simp] theorem x_dIfX : dIfX t s s' Φ ρ = (calm' (t Φ ρ)).bind (kIfS s s' Φ) := id rfl
@[simp] theorem x_dRaiseX : dRaiseX c Φ ρ = .exs ⟨c, none⟩ ρ := id rfl
@[simp] theorem x_dNewDesk : dNewDesk i j Φ ρ = .any fun a => .any fun q => .ok (.nx, (ρ.set i (.obj 0 [.int (a : Int), .int (q : Int), ord0, .list []])).set j (.obj 1 [.int (q : Int)])) := id rfl
@[simp] theorem x_dTryX : dTryX exs s Φ ρ = kTryX exs (s Φ ρ) := id rfl
@[simp] theorem x_kTryX1 : kTryX exs (.ok w) = .ok w := id rfl
@[simp] theorem x_kTryX2 : kTryX exs (.exs ⟨c, none⟩ ρ) = kTryX2 (exs.find? fun p => p.1 == c) ρ := id rfl
@[simp] theorem x_kTryX3 : kTryX2 (some p) ρ = .ok (.ret (.own [.int (placeOf p.1)]), ρ) := id rfl
@[simp] theorem x_dOrV : dOrV a b Φ ρ = (oOf a Φ ρ).bind (kOrV b Φ) := id rfl
@[simp] theorem x_dOrV1 : kOrV b Φ (x, ρ) = kOrV2 (truD x) x b Φ ρ := id rfl
@[simp] theorem x_dOrV2 : kOrV2 (some true) x b Φ ρ = .ok (.val x, ρ) := id rfl
@[simp] theorem x_dOrV3 : kOrV2 (some false) x b Φ ρ = b Φ ρ := id rfl
@[simp] theorem x_truD1 : truD .none = some false := id rfl
@[simp] theorem x_truD2 : truD (.tuple ds) = some (!ds.isEmpty) := id rfl
@[simp] theorem x_dBodyX {np : Nat} {ss : List Slot} : dBodyX np n s Φ ss = (cutX ss np (s Φ (ss ++ List.replicate (n - np) .un))).bind (kBodyX ss np) := id rfl
@[simp] theorem x_cutX1 {np : Nat} {ss : List Slot} : cutX ss np (.ok u) = .ok u := id rfl
@[simp] theorem x_cutX2 {np : Nat} {ss : List Slot} : (cutX ss np (.exs ex ρ) : Out α) = if outsOk ss (ρ.take np) = true then .exs ex (ρ.take np) else .stuck := id rfl
@[simp] theorem x_cutX3 {np : Nat} {ss : List Slot} {g : Nat → Out α} : cutX ss np (.any g) = .any fun n => cutX ss np (g n) := id rfl
@[simp] theorem x_kBodyX1 {np : Nat} {ss : List Slot} : kBodyX ss np (.ret sl, ρ) = fin ss np sl ρ := id rfl
@[simp] theorem x_kBodyX2 {np : Nat} {ss : List Slot} : kBodyX ss np (.nx, ρ) = fin ss np (.val .none) ρ := id rfl
@[simp] theorem x_asVarO : aVar (some (.obj k ds)) i r Φ ρ = (r Φ (ρ.set i .un)).bind (kAs (some i, .obj k ds)) := id rfl
@[simp] theorem x_dForX {tg : Tgt} {so : DenI} : dForX tg so s Φ ρ = (calm' (so Φ ρ)).bind (kFor tg s Φ) := id rfl
def kFL {f : PyData → Env → Out (Fl × Env)} (ds : List PyData) : Fl × Env → Out (Fl × Env) := fun r => match r.1 with
  | .nx => forL f ds r.2
  | .cnt => forL f ds r.2
  | .brk => .ok (.nx, r.2)
  | .ret s => .ok (.ret s, r.2)
@[simp] theorem x_kFL1 {f : PyData → Env → Out (Fl × Env)} : kFL (f := f) ds (.nx, ρ) = forL f ds ρ := id rfl
@[simp] theorem x_outsO {ss : List Slot} {k k' : Nat} : outsOk (.obj k ds :: ss) (.obj k' es :: ρ) = outsOk ss ρ := id rfl
@[simp] theorem x_finX {np : Nat} {ss : List Slot} : fin ss np sl ρ = guard' (outsOk ss (ρ.take np)) (.ok (sl, ρ.take np)) := id rfl
end
end Dn

/-! Den83: plain reasoning where numbers may come. -/
namespace Dn
open PySem PySem.Spec L2
open PyProof.Rows hiding St
end Dn

/-! Den84: {"a": f(x), ..}: a dict display with text keys and any values. -/
namespace Dn
open PySem PySem.Spec L2
open PyProof.Rows hiding St
inductive KeysOf : List (Option Expr) → List Str → Prop
  | nil : KeysOf [] []
  | cons {k : Str} {ck : Nat} {cp : Pos} {ks : List (Option Expr)} {ss : List Str} : KeysOf ks ss → KeysOf (some (.Constant (.str k) ck cp) :: ks) (k :: ss)
theorem KeysOf.len : ∀ {ks : List (Option Expr)} {ss : List Str}, KeysOf ks ss → ks.length = ss.length ∧ ks.all (·.isSome) = true
  | _, _, .nil => ⟨rfl, rfl⟩
  | _, _, .cons h => ⟨congrArg Nat.succ h.len.1, by rw [List.all_cons, h.len.2]; rfl⟩
def trsS (X : Cx) : List Str → List Expr → List (TE × TE)
  | s :: ss, e :: es => (tC (.str s), wE X e) :: trsS X ss es
  | _, _ => []
def dDispS (ks : List Str) (a : DenOs) : Den := fun Φ ρ => (a Φ ρ).bind fun x => .ok (.odc false ((ks.zip x.1).map fun p => (.str p.1, p.2)), x.2)
@[simp] theorem x_dDispS {ks : List Str} {a : DenOs} {Φ : Calls} {ρ : Env} : dDispS ks a Φ ρ = (a Φ ρ).bind fun x => .ok (.odc false ((ks.zip x.1).map fun p => (.str p.1, p.2)), x.2) := id rfl
end Dn

/-! Den85: {a: x, b: y}.get(e, f) with keys whole numbers or texts: read at once. -/
namespace Dn
open PySem PySem.Spec L2
open PyProof.Rows hiding St
def kDg2 (k1 v1 k2 v2 : PyData) : List PyData × Env → Out (Slot × Env) := fun y => match y.1 with
  | [e, d] => guard' (keyK e).isSome (.ok (.val ((lookD [(k1, v1), (k2, v2)] e).getD d), y.2))
  | _ => .stuck
def kDg (b : DenOs) (Φ : Calls) : List PyData × Env → Out (Slot × Env) := fun x => match x.1 with
  | [k1, v1, k2, v2] => guard' ((keyK k1).isSome && ((keyK k2).isSome && !kEq k1 k2)) ((b Φ x.2).bind (kDg2 k1 v1 k2 v2))
  | _ => .stuck
def dDispGet (a b : DenOs) : Den := fun Φ ρ => (a Φ ρ).bind (kDg b Φ)
@[simp] theorem x_dDispGet {a b : DenOs} {Φ : Calls} {ρ : Env} : dDispGet a b Φ ρ = (a Φ ρ).bind (kDg b Φ) := id rfl
@[simp] theorem x_dDispGet1 {b : DenOs} {Φ : Calls} {ρ : Env} {k1 v1 k2 v2 : PyData} : kDg b Φ ([k1, v1, k2, v2], ρ) = guard' ((keyK k1).isSome && ((keyK k2).isSome && !kEq k1 k2)) ((b Φ ρ).bind (kDg2 k1 v1 k2 v2)) := id rfl
@[simp] theorem x_dDispGet2 {ρ : Env} {k1 v1 k2 v2 e d : PyData} : kDg2 k1 v1 k2 v2 ([e, d], ρ) = guard' (keyK e).isSome (.ok (.val ((lookD [(k1, v1), (k2, v2)] e).getD d), ρ)) := id rfl
end Dn

/-! Den86: parts that may be refused while a desk stands aside: the refusal is told with the desk's slots. -/
namespace Dn
open PySem PySem.Spec L2
open PyProof.Rows hiding St
def bareS (s : Slot) : Slot := if s.isOwn then .un else s
def bareE (ρ : Env) : Env := ρ.map bareS
def unD (i j : Nat) (ρ : Env) : Env := (ρ.set i .un).set j .un
def reD (i j : Nat) (ρ ρ1 : Env) : Env := match ρ[i]?, ρ[j]? with
  | some s, some t => (ρ1.set i s).set j t
  | _, _ => ρ1
def isUn : Option Slot → Bool
  | some .un => true
  | _ => false
def isPast : Option Slot → Bool
  | some (.obj 1 _) => true
  | _ => false
section
variable {B : Bd} {F H F' H' : Hp} {ρ ρ1 : Env} {σ : St} {i j : Nat}
/-- what stood aside stands there again -/
theorem Rel.again (R : Rel B F H ρ σ) {s t : Slot} (ne : i ≠ j) (hi : ρ[i]? = some s) (hj : ρ[j]? = some t) (ss : s.isOwn = true) (st : t.isOwn = true)
    (R' : Rel (B.re F H (unD i j ρ) σ) F' H' ρ1 σ) (e : Ex F F') (u1 : ρ1[i]? = some .un) (u2 : ρ1[j]? = some .un) : Rel B F' H' ((ρ1.set i s).set j t) σ ∧ ∀ v r, Res (B.re F H (unD i j ρ) σ) F' H' ρ1 σ r v → Res B F' H' ((ρ1.set i s).set j t) σ r v := by
  obtain ⟨a, oa, a1, a2, a3, a4, a5⟩ := R.sl.own i s hi ss
  obtain ⟨b, ob, b1, b2, b3, b4, b5⟩ := R.sl.own j t hj st
  have nab : a ≠ b := fun z => by
    subst z
    exact R.sl.dis i j s t a ne hi ss hj st a1 b1
  have off : ∀ (k : Nat) (c : Slot), (unD i j ρ)[k]? = some c → c.isOwn = true → k ≠ i ∧ k ≠ j ∧ ρ[k]? = some c := fun k c h hc => by
    unfold unD at h
    rcases set_get h with ⟨_, z, _⟩ | ⟨z1, z2⟩
    · rw [z] at hc; cases hc
    · rcases set_get z2 with ⟨_, z, _⟩ | ⟨z3, z4⟩
      · rw [z] at hc; cases hc
      · exact ⟨z3, z1, z4⟩
  have na : ¬ owned (unD i j ρ) σ a := fun ⟨k, c, h, hc, hk⟩ => by
    obtain ⟨k1, _, h'⟩ := off k c h hc
    exact R.sl.dis k i c s a k1 h' hc hi ss hk a1
  have nb : ¬ owned (unD i j ρ) σ b := fun ⟨k, c, h, hc, hk⟩ => by
    obtain ⟨_, k1, h'⟩ := off k c h hc
    exact R.sl.dis k j c t b k1 h' hc hj st hk b1
  obtain ⟨fa, ha⟩ := R'.stays a3 a2 na
  obtain ⟨fb, hb⟩ := R'.stays b3 b2 nb
  have R0 : Rel B F H (unD i j ρ) σ := (R.unset i).unset j
  have R1 : Rel B F' H' ρ1 σ := R0.un R'
  have far : ∀ (k : Nat) (c : Slot), ρ1[k]? = some c → c.isOwn = true → σ[k]? ≠ some (some (.ref a)) ∧ σ[k]? ≠ some (some (.ref b)) := fun k c h hc => by
    obtain ⟨d, o, d1, d2, d3, d4, d5⟩ := R'.sl.own k c h hc
    refine ⟨fun z => ?_, fun z => ?_⟩
    · rw [z] at d1
      cases d1
      rcases d5 with y | y
      · exact na ⟨k, y⟩
      · have y : H a = none := y
        rw [a3] at y; cases y
    · rw [z] at d1
      cases d1
      rcases d5 with y | y
      · exact nb ⟨k, y⟩
      · have y : H b = none := y
        rw [b3] at y; cases y
  have get : ∀ (k : Nat) (c : Slot), ((ρ1.set i s).set j t)[k]? = some c → (k = j ∧ c = t) ∨ (k = i ∧ c = s) ∨ (k ≠ i ∧ k ≠ j ∧ ρ1[k]? = some c) := fun k c h => by
    rcases set_get h with ⟨z, y, _⟩ | ⟨z, h2⟩
    · exact .inl ⟨z, y⟩
    · rcases set_get h2 with ⟨z2, y, _⟩ | ⟨z2, h3⟩
      · exact .inr (.inl ⟨z2, y⟩)
      · exact .inr (.inr ⟨z2, z, h3⟩)
  refine ⟨⟨R1.kept, ⟨by rw [List.length_set, List.length_set]; exact R1.sl.len, fun k d h => ?_, fun k ns h => ?_, fun k c h hc => ?_, R1.sl.par, fun k l c d x kl h hc h' hd hk hl => ?_⟩⟩, fun v r hr => ?_⟩
  · rcases get k _ h with ⟨_, y⟩ | ⟨_, y⟩ | ⟨_, _, y⟩
    · subst y; cases st
    · subst y; cases ss
    · exact R1.sl.val k d y
  · rcases get k _ h with ⟨_, y⟩ | ⟨_, y⟩ | ⟨_, _, y⟩
    · subst y; cases st
    · subst y; cases ss
    · exact R1.sl.scr k ns y
  · rcases get k c h with ⟨z, y⟩ | ⟨z, y⟩ | ⟨_, _, y⟩
    · subst z y
      exact ⟨b, ob, b1, fb, hb, b4.mono e, b5⟩
    · subst z y
      exact ⟨a, oa, a1, fa, ha, a4.mono e, a5⟩
    · exact R1.sl.own k c y hc
  · rcases get k c h with ⟨z, y⟩ | ⟨z, y⟩ | ⟨z1, z2, y⟩ <;> rcases get l d h' with ⟨z', y'⟩ | ⟨z', y'⟩ | ⟨z1', z2', y'⟩
    · exact kl (z.trans z'.symm)
    · subst z y z' y'
      rw [b1] at hk
      cases hk
      rw [a1] at hl
      exact nab (V.ref.inj (Option.some.inj (Option.some.inj hl)))
    · subst z y
      rw [b1] at hk
      cases hk
      exact (far l d y' hd).2 hl
    · subst z y z' y'
      rw [a1] at hk
      cases hk
      rw [b1] at hl
      exact nab (V.ref.inj (Option.some.inj (Option.some.inj hl))).symm
    · exact kl (z.trans z'.symm)
    · subst z y
      rw [a1] at hk
      cases hk
      exact (far l d y' hd).1 hl
    · subst z' y'
      rw [b1] at hl
      cases hl
      exact (far k c y hc).2 hk
    · subst z' y'
      rw [a1] at hl
      cases hl
      exact (far k c y hc).1 hk
    · exact R1.sl.dis k l c d x kl y hc y' hd hk hl
  · cases hr0 : r.isOwn with
    | false =>
      cases r with
      | val d => exact hr
      | un => exact hr
      | scr ns => exact hr
      | own ds => cases hr0
      | odc t es => cases hr0
      | obj k ds => cases hr0
    | true =>
      obtain ⟨c, o, c1, c2, c3, c4, c5, c6⟩ := (Res.of_own hr0).mp hr
      have hc : H c = none := c5
      refine (Res.of_own hr0).mpr ⟨c, o, c1, c2, c3, c4, R.kept.old hc, fun k d h hd z => ?_⟩
      rcases get k d h with ⟨z1, y⟩ | ⟨z1, y⟩ | ⟨_, _, y⟩
      · subst z1 y
        rw [b1] at z
        cases z
        rw [b3] at hc; cases hc
      · subst z1 y
        rw [a1] at z
        cases z
        rw [a3] at hc; cases hc
      · exact c6 k d y hd z
/-- of what is not lent and not known, nothing is told -/
theorem Rel.bare (R : Rel B F H ρ σ) (k : Kept B F' H') (e : Ex F F') : Rel B F' H' (bareE ρ) σ := by
  have get : ∀ (k : Nat) (c : Slot), (bareE ρ)[k]? = some c → c.isOwn = false ∧ (c = .un ∨ ρ[k]? = some c) := fun k c h => by
    unfold bareE at h
    rw [List.getElem?_map] at h
    obtain ⟨d, h1, h2⟩ := Option.map_eq_some_iff.mp h
    unfold bareS at h2
    cases q : d.isOwn with
    | true =>
      rw [q, if_pos rfl] at h2
      subst h2
      exact ⟨rfl, .inl rfl⟩
    | false =>
      rw [q, if_neg Bool.false_ne_true] at h2
      subst h2
      exact ⟨q, .inr h1⟩
  refine ⟨k, ⟨by unfold bareE; rw [List.length_map]; exact R.sl.len, fun k d h => ?_, fun k ns h => ?_, fun k c h hc => ?_, R.sl.par, fun k l c d x kl h hc h' hd hk hl => ?_⟩⟩
  · obtain ⟨v, h1, h2⟩ := R.sl.val k d ((get k _ h).2.resolve_left (fun z => by cases z))
    exact ⟨v, h1, h2.mono e⟩
  · obtain ⟨v, h1, h2⟩ := R.sl.scr k ns ((get k _ h).2.resolve_left (fun z => by cases z))
    exact ⟨v, h1, e.sqL h2⟩
  · rw [(get k c h).1] at hc; cases hc
  · rw [(get k c h).1] at hc; cases hc
end
/-- with the desk aside -/
def asideK {α : Type} (i j : Nat) (ρ : Env) : Out (α × Env) → Out (α × Env)
  | .ok r => guard' (isUn r.2[i]? && isUn r.2[j]?) (.ok (r.1, reD i j ρ r.2))
  | .exc x => .exs x (reD i j ρ (bareE (unD i j ρ)))
  | _ => .stuck
def asideD {α : Type} (i j : Nat) (d : Calls → Env → Out (α × Env)) : Calls → Env → Out (α × Env) := fun Φ ρ => guard' (isDesk ρ[i]? && isPast ρ[j]?) (asideK i j ρ (d Φ (unD i j ρ)))
section
variable {X : Cx} {B : Bd} {F H : Hp} {ρ : Env} {σ : St} {i j : Nat} {W : WX} {α : Type} {c : Out (α × Env)} {P : α × Env → Prop}
end
/-- x = e -/
def dSetA (k i j : Nat) (d : Den) : DenS := fun Φ ρ => (asideD i j d Φ ρ).bind fun r => .ok (.nx, r.2.set k r.1)
/-- return o.m(..) -/
def allV (as : List (Option Nat × Slot)) : Bool := as.all fun a => match a with
  | (none, .val _) => true
  | _ => false
def dMethA (k : Slot → Fl) (x : Str) (n i j : Nat) (as : DenA) : DenS := fun Φ ρ => (asideD i j as Φ ρ).bind fun y => guard' (allV y.1) ((opt (lendD i j y)).bind fun z => guard' (z.1.length == n + 1) (backM n k z (Φ x (z.1.map (·.2)))))
section
variable {Γ : Ctx} {es : List Expr} {r : DenA} {pos pos' fpos xpos apos rpos : Pos} {i j k n : Nat} {x y m : Str} {e : Expr} {d : Den} {p : Bool} {kf : Slot → Fl}
end
/-! ### upper -/
def kUp : Slot × Env → Out (Slot × Env) := fun r => match r.1 with
  | .val (.str z) => guard' (decide (z.length ≤ 1000)) (.ok (.val (.str (Txt.upper z)), r.2))
  | _ => .stuck
def dUpper (a : Den) : Den := fun Φ ρ => (a Φ ρ).bind kUp
@[simp] theorem x_dUpper {a : Den} {Φ : Calls} {ρ : Env} : dUpper a Φ ρ = (a Φ ρ).bind kUp := id rfl
@[simp] theorem x_dUpper1 {z : Str} {ρ : Env} : kUp (.val (.str z), ρ) = guard' (decide (z.length ≤ 1000)) (.ok (.val (.str (Txt.upper z)), ρ)) := id rfl
/-! ### steps -/
@[simp] theorem x_aside {α : Type} {i j : Nat} {d : Calls → Env → Out (α × Env)} {Φ : Calls} {ρ : Env} : asideD i j d Φ ρ = guard' (isDesk ρ[i]? && isPast ρ[j]?) (asideK i j ρ (d Φ (unD i j ρ))) := id rfl
@[simp] theorem x_asideO {α : Type} {i j : Nat} {ρ ρ1 : Env} {a : α} : asideK i j ρ (.ok (a, ρ1)) = guard' (isUn ρ1[i]? && isUn ρ1[j]?) (.ok (a, reD i j ρ ρ1)) := id rfl
@[simp] theorem x_asideX {α : Type} {i j : Nat} {ρ : Env} {x : Exc} : asideK (α := α) i j ρ (.exc x) = .exs x (reD i j ρ (bareE (unD i j ρ))) := id rfl
def kSetA (k : Nat) : Slot × Env → Out (Fl × Env) := fun r => .ok (.nx, r.2.set k r.1)
@[simp] theorem x_dSetA {k i j : Nat} {d : Den} {Φ : Calls} {ρ : Env} : dSetA k i j d Φ ρ = (asideD i j d Φ ρ).bind (kSetA k) := id rfl
@[simp] theorem x_dSetA1 {k : Nat} {s : Slot} {ρ : Env} : kSetA k (s, ρ) = .ok (.nx, ρ.set k s) := id rfl
@[simp] theorem x_unD {i j : Nat} {ρ : Env} : unD i j ρ = (ρ.set i .un).set j .un := id rfl
def reG (o o' : Option Slot) (i j : Nat) (ρ1 : Env) : Env := match o, o' with
  | some s, some t => (ρ1.set i s).set j t
  | _, _ => ρ1
@[simp] theorem x_reD {i j : Nat} {ρ ρ1 : Env} : reD i j ρ ρ1 = reG ρ[i]? ρ[j]? i j ρ1 := id rfl
@[simp] theorem x_reG {i j : Nat} {s t : Slot} {ρ1 : Env} : reG (some s) (some t) i j ρ1 = (ρ1.set i s).set j t := id rfl
@[simp] theorem x_isUn : isUn (some .un) = true := id rfl
@[simp] theorem x_isPast {ds : List PyData} : isPast (some (.obj 1 ds)) = true := id rfl
@[simp] theorem x_bareN : bareE [] = [] := id rfl
@[simp] theorem x_bareC {s : Slot} {ρ : Env} : bareE (s :: ρ) = bareS s :: bareE ρ := id rfl
@[simp] theorem x_bareV {d : PyData} : bareS (.val d) = .val d := id rfl
@[simp] theorem x_bareO {ds : List PyData} : bareS (.own ds) = .un := id rfl
@[simp] theorem x_bareU : bareS .un = .un := id rfl
@[simp] theorem x_bareJ {k : Nat} {ds : List PyData} : bareS (.obj k ds) = .un := id rfl
@[simp] theorem x_allN : allV [] = true := id rfl
@[simp] theorem x_allC {d : PyData} {as : List (Option Nat × Slot)} : allV ((none, .val d) :: as) = allV as := by
  show (true && _) = _
  rw [Bool.true_and]
  rfl
def kMethA (kf : Slot → Fl) (x : Str) (n i j : Nat) (Φ : Calls) : List (Option Nat × Slot) × Env → Out (Fl × Env) := fun y => guard' (allV y.1) (kMe2 kf x n Φ (lendD i j y))
@[simp] theorem x_dMethA {kf : Slot → Fl} {x : Str} {n i j : Nat} {as : DenA} {Φ : Calls} {ρ : Env} : dMethA kf x n i j as Φ ρ = (asideD i j as Φ ρ).bind (kMethA kf x n i j Φ) := id rfl
@[simp] theorem x_dMethA1 {kf : Slot → Fl} {x : Str} {n i j : Nat} {Φ : Calls} {la : List (Option Nat × Slot)} {ρ : Env} : kMethA kf x n i j Φ (la, ρ) = guard' (allV la) (kMe2 kf x n Φ (lendD i j (la, ρ))) := id rfl
end Dn

/-! Den95: own dicts keyed by nested tuples: walked while they are read, get with another thing, {k: n}. -/
namespace Dn
open PySem PySem.Spec L2
open PyProof.Rows hiding St
/-! ### d.get(k, x) -/
section
variable {X : Cx} {pins : List (Addr × Obj)} {σ : St} {H : Hp} {s : Shared} {a b : Addr} {y v d : V} {u w : Value} {r : Option V} {A : Around} {E : Value → Shared → Prop}
theorem t_get2 {Q : Value → Shared → Prop} (hu : A.units + 9 < cLine) (I : Inv X pins σ H s) (g : TGet X.K H a y r) (ry : RelV y u) (rd : RelV d w) (h : ∀ z s', Inv X pins σ H s' → RelV (r.getD d) z → Q z s') : wpAny (model X.prog X.w) A (call (.builtin "dict.get") [.ref a, u, w]) Q E s := by
  rcases g with g | ⟨b, kvs, k, c, es, e, rfl, r1, rk, r2, l⟩
  · exact d_get2 (by omega) I g ry rd h
  · cases (show u = Value.ref c from ry)
    obtain ⟨_, hd, xs, q, dd⟩ := tab_dict I e r1
    refine call_meetsIn PySem.F.slot_dict_get dd.typeIs PySem.F.entry_dict_get (PySem.F.args_dict_get_3 _ _ _) (meetsH_dict_get_default (numKind X.prog X.w) a c hd w) ⟨numKind_room hu, k, xs, keyI I rk r2, dd, h _ _ (I.tok _) ?_⟩
    rw [l]
    exact (q.look k).getD rd
/-- it is a dict of such keys -/
def IsTb (K : PySem.W.Frag) (H : Hp) (a : Addr) : Prop := ∃ b kvs es, Rd H a (tabO b kvs) ∧ RpI K H es kvs
def tTGet2 (K : PySem.W.Frag) (td ty tx : TE) : TE := fun σ H Q => td σ H fun x H1 => ∃ a, x = .ref a ∧ IsTb K H1 a ∧ ty σ H1 fun y H2 => tx σ H2 fun z H3 => ∃ o, TGet K H3 a y o ∧ Q (o.getD z) H3
theorem isTb_at (I : Inv X pins σ H s) (h : IsTb X.K H a) : s.TypeIs (.ref a) "dict" ∧ ∀ b, Value.ref a = .ref b → ∃ ob, s.heap.get? b = some ob ∧ ob.dict = none := by
  obtain ⟨b, kvs, es, h1, h2⟩ := h
  obtain ⟨_, _, xs, _, dd⟩ := tab_dict I h1 h2
  refine ⟨dd.typeIs, fun c e => ?_⟩
  cases e
  obtain ⟨o, en, ep, g1, g2, _⟩ := dd
  exact ⟨o, g1, g2.2.1⟩
theorem pe_tget2 {o e f : Expr} {td ty tx : TE} {apos cpos : Pos} (hu : X.A.units + 9 < cLine) (ho : PE X o td) (he : PE X e ty) (hf : PE X f tx) (m : M2 X o "get" apos e f cpos) : PE X (.Call (.Attribute o "get" apos) [e, f] [] cpos) (tTGet2 X.K td ty tx) := by
  refine ⟨fun pins s σ H Q I h => ?_⟩
  refine wpAny_Call_method m.base m.few m.line PySem.F.plainAttrs_dict PySem.F.slot_dict_get PySem.F.type_dict_get (thn (ho.run pins s σ H _ I h) fun u s1 ⟨x, H1, I1, rx, a, ex, d, q1⟩ => ?_)
  subst ex
  obtain rfl : u = Value.ref a := rx
  obtain ⟨t1, t2⟩ := isTb_at I1 d
  refine ⟨t1, t2, ?_⟩
  rw [m.trees]
  refine Calls.callWith_builtin rfl (Calls.evalArgs_plain (Calls.spliced_cons (thn (he.run pins s1 σ H1 _ I1 q1) fun iv s2 ⟨y, H2, I2, ry, q2⟩ =>
    Calls.spliced_cons (thn (hf.run pins s2 σ H2 _ I2 q2) fun fv s3 ⟨z, H3, I3, rz, ov, g, q3⟩ => Calls.spliced_nil ?_))))
  exact t_get2 hu I3 g ry rz fun w' s4 I4 rw' => ⟨_, H3, I4, rw', q3⟩
end
/-- d.get(k, x), d's keys tuples -/
def isTabN (ρ : Env) (i : Nat) : Bool := match ρ[i]? with
  | some (.odc true _) => true
  | _ => false
theorem isTabN_of {ρ : Env} {i : Nat} (h : isTabN ρ i = true) : ∃ es, ρ[i]? = some (.odc true es) := by
  unfold isTabN at h
  split at h
  · exact ⟨_, by assumption⟩
  · cases h
def dTGetN (i : Nat) (a : DenOs) : Den := fun Φ ρ => guard' (isTabN ρ i) ((a Φ ρ).bind fun x => match x.2[i]?, x.1 with
  | some (.odc true es), [k, d] => guard' (keyT k).isSome (.ok (.val ((lookD es k).getD d), x.2))
  | _, _ => .stuck)
section
variable {B : Bd} {F H : Hp} {ρ : Env} {σ : St}
theorem tabN_at (R : Rel B F H ρ σ) {i : Nat} {es : List (PyData × PyData)} (hs : ρ[i]? = some (.odc true es)) : ∃ a b kvs, σ[i]? = some (some (.ref a)) ∧ F a = none ∧ H a = some (tabO b kvs) ∧ RpI B.K F es kvs ∧ (B.L i a ∨ B.H0 a = none) := by
  obtain ⟨a, o, g1, g2, g3, ⟨b, kvs, rfl, r⟩, g5⟩ := R.sl.own i _ hs rfl
  exact ⟨a, b, kvs, g1, g2, g3, r, g5⟩
/-- a key's data, with what stands for it -/
theorem key_at {K : PySem.W.Frag} {F : Hp} {d : PyData} {v : V} {k : NestedKey} (h : keyT d = some k) (r : Rp K F d v) : d = k.data ∧ okN k = true ∧ (∃ ks, k = .tup ks) ∧ ∃ c, v = .ref c ∧ Rp K F k.data (.ref c) := by
  obtain ⟨e, ok⟩ := keyT_of h
  have tk := keyT_tup h
  subst e
  refine ⟨rfl, ok, tk, ?_⟩
  obtain ⟨ks, rfl⟩ := tk
  have r' := r
  rw [NestedKey.data] at r'
  cases r'
  exact ⟨_, rfl, r⟩
end
section
variable {Γ : Ctx} {x : Str} {i : Nat} {a b : Expr} {as : DenOs} {p : Bool} {xpos pos apos : Pos}
theorem snd_tgetN (hN : Γ.N[i]? = some x) (hv : visB Γ.sc x = true) (hx : okName x = true) (h : SndFs Γ [a, b] as p) (he : [a, b].all plainE = true) (hline : (apos.endLine == pos.line) = true) :
    SndE Γ (.Call (.Attribute (.Name x xpos) "get" apos) [a, b] [] pos) (dTGetN i as) p := by
  intro X Φ B F H ρ σ Q W C hK T R hq
  have P : PE X (.Name x xpos) (tVar i) := pe_var (by rw [C.nm]; exact hN) (by rw [C.sc]; exact vis_of hv) (okName_d hx) (okName_c hx)
  have he' := he
  rw [List.all_cons, Bool.and_eq_true, List.all_cons, Bool.and_eq_true] at he'
  obtain ⟨h1, hq⟩ := wp_guard hq
  obtain ⟨es, h1⟩ := isTabN_of h1
  obtain ⟨l, b0, kvs, g1, g2, g3, g4, _⟩ := tabN_at R h1
  refine PE.w (pe_tget2 (by have := room_u C.room; omega) P pe_w pe_w ⟨base_of rfl, few_of he (show 2 < 20 by decide), hline, by rw [star_of he'.1, star_of he'.2.1]; rfl⟩) ⟨_, g1, l, rfl, ⟨b0, kvs, es, .inl g3, hK ▸ g4.mono R.kept.ex⟩, ?_⟩
  refine (show wEs X [a, b] σ H (fun vs H3 => match vs with
    | [y, z] => ∃ o, TGet X.K H3 l y o ∧ Q (o.getD z) H3
    | _ => False) from ?_)
  refine h X Φ B F H ρ σ _ W C hK T R (wp_mono (wp_bind (c := as Φ ρ) hq) (fun r q vs F1 H1 R1 e1 e2 hvs => ?_) fun _ z => z)
  obtain ⟨ds, ρ1⟩ := r
  have R1 : Rel B F1 H1 ρ1 σ := R1
  cases z : ρ1[i]? with
  | none => simp only [z] at q; exact q.elim
  | some s1 =>
    cases s1 with
    | odc t es1 =>
      cases t with
      | false => simp only [z] at q; exact q.elim
      | true =>
        simp only [z] at q
        obtain ⟨l', b1, kvs1, k3, k4, k5, k6, _⟩ := tabN_at R1 z
        rw [g1] at k3
        cases k3
        match ds, vs, hvs, q with
        | [k, dd], [w, v], .cons w1 (.cons w2 .nil), q =>
          obtain ⟨q1, q⟩ := wp_guard q
          obtain ⟨kk, e⟩ := Option.isSome_iff_exists.mp q1
          obtain ⟨ek, ok, tk, c, rfl, rc⟩ := key_at e w1
          subst ek
          have lk := look_T kk ok tk k6
          refine ⟨valI kvs1 kk, .inr ⟨b1, kvs1, kk, c, es1, .inl k5, rfl, hK ▸ k6.mono R1.kept.ex, ok, hK ▸ rc.mono R1.kept.ex, rfl⟩, q _ F1 H1 R1 e1 e2 ?_⟩
          show Rp B.K F1 ((lookD es1 kk.data).getD dd) ((valI kvs1 kk).getD v)
          cases l1 : lookD es1 kk.data with
          | none =>
            cases l2 : valI kvs1 kk with
            | none => exact w2
            | some u => rw [l1, l2] at lk; exact lk.elim
          | some u1 =>
            cases l2 : valI kvs1 kk with
            | none => rw [l1, l2] at lk; exact lk.elim
            | some u => rw [l1, l2] at lk; exact lk
        | [], _, _, q => exact q.elim
        | [_], _, _, q => exact q.elim
        | _ :: _ :: _ :: _, _, _, q => exact q.elim
    | _ => simp only [z] at q; exact q.elim
end
/-! ### {k: n} -/
def tDispT (n : Int) (ty : TE) : TE := fun σ H Q => ∀ p, H p = none → ty σ (upd H p (tabO p [])) fun y H2 => H2 p = some (tabO p []) ∧ ∃ k c, y = .ref c ∧ okN k = true ∧ (∃ K : PySem.W.Frag, Rp K H2 k.data (.ref c)) ∧ Q (.ref p) (upd H2 p (tabO p [(k, c, .int n)]))
theorem pe_dispT {X : Cx} {k : Expr} {ty : TE} {pos cp : Pos} {ck : Nat} {n : Int} (hu : X.A.units + 9 < cLine) (hk : PE X k ty) : PE X (.Dict [some k] [.Constant (.int n) ck cp] pos) (tDispT n ty) := by
  refine ⟨fun pins s σ H Q I q => ?_⟩
  have hn := I.hok.fresh (Nat.le_refl s.heap.objs.size)
  have I1 := I.laid (a := s.heap.objs.size) (o := tabO s.heap.objs.size []) (h' := s.heap.push { cls := .type "dict", data := .dict #[] }) (t' := s.toks) (fun _ _ q => Heap.get?_push_of_some _ q) (Nat.le_refl _) (tab_empty s.heap I.big)
  rw [arm_eval_Dict, zip_pairTrees [some k] [.Constant (.int n) ck cp] X.env pos rfl rfl, dictDisplay_pairs _ (by simp [pairTrees]) (by simp [pairTrees])]
  refine wpAny_bind (wpAny_standAt (wpAny_bind ?_))
  refine wpAny_subDictH (knd := numKind X.prog X.w) (show X.A.units + 8 < cLine by omega) (by simp [pairTrees]) ?_
  refine pairTrees_cons_walk (thn (hk.run pins _ σ _ _ I1 (q _ hn)) fun kv s1 ⟨y, H2, I2, ry, e, kk, c, ey, ok, ⟨K, rk⟩, q2⟩ => ?_)
  subst ey
  cases (show kv = Value.ref c from ry)
  refine thn (pe_int.run pins s1 σ H2 (fun v H3 => v = .int n ∧ H3 = H2) I2 ⟨rfl, rfl⟩) fun vv s2 ⟨z, H3, I3, rz, ez, eh⟩ => ?_
  subst ez eh
  obtain ⟨tn, rz'⟩ := (show ∃ t, vv = Value.int n t from rz)
  subst rz'
  refine pairTrees_nil_walk ?_
  obtain ⟨_, hd, xs, pt, dd⟩ := tab_dict (K := K) (es := []) I3 (.inl e) .nil
  cases pt
  refine ⟨[(kk, c, .int n tn)], ⟨rfl, rfl, keyI I3 ok rk, trivial⟩, dd, fun h' tk hm hs => wpAny_pure ?_⟩
  have hm : h'.DictOfH (numKind X.prog X.w) s.heap.objs.size [(kk, c, .int n tn)] := hm
  have he : ∃ q, h'.get? s.heap.objs.size = some q := let ⟨q, _, _, hq, _⟩ := hm; ⟨q, hq⟩
  refine ⟨.ref s.heap.objs.size, _, ?_, rfl, q2⟩
  exact d_write I3 (by rw [e]; exact trivial) hs he (tab_new (by show 1 ≤ _; exact le_line (by decide)) hd (show PtI [(kk, c, .int n)] [(kk, c, .int n tn)] from .cons ⟨rfl, rfl, ⟨tn, rfl⟩⟩ .nil) hm)
/-- {k: n} -/
def dDispT (n : Int) (k : DenO) : Den := fun Φ ρ => (k Φ ρ).bind fun x => guard' (keyT x.1).isSome (.ok (.odc true [(x.1, .int n)], x.2))
section
variable {B : Bd} {F H : Hp} {ρ : Env} {σ : St} {p : Addr} {o : HO}
/-- a new object that no slot owns is written -/
theorem Rel.poke (R : Rel B F H ρ σ) (hF : F p = none) (h0 : B.H0 p = none) (no : ¬ owned ρ σ p) : Rel B F (upd H p o) ρ σ := by
  refine ⟨⟨R.kept.ff, fun c u q => ?_, fun c u q n => ?_, R.kept.nof, fun c q => ?_⟩, ⟨R.sl.len, R.sl.val, R.sl.scr, fun i s q qs => ?_, R.sl.par, R.sl.dis⟩⟩
  · rw [upd_ne (fun z => by subst z; rw [hF] at q; cases q)]
    exact R.kept.ex _ _ q
  · rw [upd_ne (fun z => by subst z; rw [h0] at q; cases q)]
    exact R.kept.keep _ _ q n
  · by_cases z : c = p
    · subst z; rw [upd_same]; exact fun y => nomatch y
    · rw [upd_ne z]; exact R.kept.live c q
  · obtain ⟨c, u, k1, k2, k3, k4, k5⟩ := R.sl.own i s q qs
    exact ⟨c, u, k1, k2, by rw [upd_ne (fun z => by subst z; exact no ⟨i, s, q, qs, k1⟩)]; exact k3, k4, k5⟩
end
section
variable {Γ : Ctx} {e : Expr} {k : DenO} {p : Bool} {pos cp : Pos} {ck : Nat} {n : Int}
theorem snd_dispT (hk : SndO Γ e k p false) : SndE Γ (.Dict [some e] [.Constant (.int n) ck cp] pos) (dDispT n k) false := by
  intro X Φ B F H ρ σ Q W C hK T R hq
  refine PE.w (pe_dispT (by have := room_u C.room; omega) pe_w) fun a ha => ?_
  have fa : F a = none := by
    cases q : F a with
    | none => rfl
    | some o => have := R.kept.ex _ _ q; rw [ha] at this; cases this
  have R0 : Rel B F (upd H a (tabO a [])) ρ σ := R.grow (.new ha)
  have R0' := R0.re
  have no0 : ¬ owned ρ σ a := fun ⟨i, t, h1, h2, h3⟩ => by
    obtain ⟨c, o, g1, _, g3, _⟩ := R.sl.own i t h1 h2
    rw [h3] at g1
    cases g1
    rw [ha] at g3
    cases g3
  refine hk X Φ (B.re F (upd H a (tabO a [])) ρ σ) F _ ρ σ _ W C hK T R0' (wp_mono (wp_bind (c := k Φ ρ) hq) (fun r q v F1 H1 R1 e1 e2 hv => ?_) (ExP.re R0 (.refl F)))
  obtain ⟨d, ρ1⟩ := r
  have hv : Rp B.K F1 d v := hv
  obtain ⟨q1, q⟩ := wp_guard q
  obtain ⟨kk, ek⟩ := Option.isSome_iff_exists.mp q1
  obtain ⟨rfl, ok, tk, c, rfl, rc⟩ := key_at ek hv
  have hp : H1 a = some (tabO a []) := R1.kept.keep a _ (by show upd H a (tabO a []) a = _; exact upd_same) no0
  have F1a : F1 a = none := R1.kept.nof a (by show upd H a (tabO a []) a ≠ none; rw [upd_same]; exact fun z => nomatch z) fa no0
  have h0 : B.H0 a = none := R.kept.old ha
  have R2 : Rel B F1 H1 ρ1 σ := R0.un R1
  have no1 : ¬ owned ρ1 σ a := fun ⟨i, t, h1, h2, h3⟩ => by
    obtain ⟨c', o, g1, _, g3, _, g5⟩ := R1.sl.own i t h1 h2
    rw [h3] at g1
    cases g1
    rcases g5 with z | z
    · exact no0 ⟨i, z⟩
    · have z : upd H a (tabO a []) a = none := z
      rw [upd_same] at z
      cases z
  refine ⟨hp, kk, c, rfl, ok, ⟨_, rc.mono R2.kept.ex⟩, ?_⟩
  refine q _ F1 _ (R2.poke (o := tabO a [(kk, c, .int n)]) F1a h0 no1) e1 (fun z => nomatch z) ?_
  exact ⟨a, _, rfl, F1a, upd_same, ⟨a, _, rfl, .cons ok rc (.int n) .nil⟩, h0, fun i t h1 h2 h3 => no1 ⟨i, t, h1, h2, h3⟩⟩
end
end Dn

/-! Den96: a walk through an own dict of nested tuple keys that is read meanwhile. -/
namespace Dn
open PySem PySem.Spec L2
open PyProof.Rows hiding St
/-! ### the keys of the locked dict -/
def Itn (d : Addr) (o : Obj) (b : Addr) (kvs : List (NestedKey × Addr × V)) : It :=
  ⟨fun i H => H d = some (.frz o (tabO b kvs)) ∧ i < kvs.length, fun i H x H' => H' = H ∧ ∃ (k : NestedKey) (q : Addr) (v : V), kvs[i]? = some (k, q, v) ∧ x = .ref q, fun i H => H d = some (.frz o (tabO b kvs)) ∧ kvs.length ≤ i⟩
section
variable {X : Cx} {pins : List (Addr × Obj)} {σ : St} {H : Hp} {s : Shared} {d b : Addr} {o : Obj} {kvs : List (NestedKey × Addr × V)}
theorem pt_at {kvs : List (NestedKey × Addr × V)} {xs : List (NestedKey × Addr × Value)} (r : PtI kvs xs) : ∀ {i : Nat} {k : NestedKey} {q : Addr} {v : V}, kvs[i]? = some (k, q, v) → ∃ u, xs[i]? = some (k, q, u) := by
  induction r with
  | nil => intro i k q v h; simp at h
  | @cons p q' ps qs h t ih =>
    intro i k q v e
    cases i with
    | zero =>
      simp only [List.getElem?_cons_zero, Option.some.injEq] at e
      subst e
      obtain ⟨h1, h2, _⟩ := h
      exact ⟨q'.2.2, by rw [List.getElem?_cons_zero]; exact congrArg some (Prod.ext h1.symm (Prod.ext h2.symm rfl))⟩
    | succ i =>
      rw [List.getElem?_cons_succ] at e
      obtain ⟨u, hu⟩ := ih e
      exact ⟨u, by rw [List.getElem?_cons_succ]; exact hu⟩
theorem frzN (I : Inv X pins σ H s) (h : H d = some (.frz o (tabO b kvs))) :
    (d == sysModules) = false ∧ s.heap.get? d = some o ∧ o.ExactDict ∧ ∃ (es : Array DictEntry) (ep : Nat), o.data = .dict es ep ∧ es.size = kvs.length ∧
      ∀ (i : Nat) (k : NestedKey) (q : Addr) (v : V), kvs[i]? = some (k, q, v) → ∃ en : DictEntry, es[i]? = some en ∧ en.key = .ref q := by
  obtain ⟨hd, ok⟩ := I.hok d _ h
  obtain ⟨_, z, y, xs, pr, o', es, ep, ho, hx, hdt, he, _⟩ := tabO_of ok
  rw [hd] at ho
  cases ho
  have l1 : es.size = xs.length := by
    have := congrArg List.length he
    rwa [Array.length_toList, List.length_map] at this
  have l2 : kvs.length = xs.length := Paired.length pr
  refine ⟨y, hd, hx, es, ep, hdt, by omega, fun i k q v e => ?_⟩
  obtain ⟨u, hu⟩ := pt_at pr e
  refine ⟨entI (k, q, u), ?_, rfl⟩
  rw [← Array.getElem?_toList, he, List.getElem?_map, hu]
  rfl
end
theorem turn_keysN {P : Program} {w : World} {K : PySem.W.Frag} {tg : Expr} {d b : Addr} {o : Obj} {es : Array DictEntry} {ep : Nat} {kvs : List (NestedKey × Addr × V)} (it : Addr) (hod : o.data = .dict es ep) : Turn P w K tg (Itn d o b kvs) [it] it (fun i h => h.IsKeyIter it d i kvs.length ep) where
  mem := by simp
  obj := fun i h st b hb => by
    have e : b = it := by simpa using hb
    subst e
    obtain ⟨oi, e, c, dd⟩ := st
    exact ⟨oi, e, fun v z => by rw [dd] at z; cases z⟩
  keep := fun i h h' st k => st.at fun oi e => k it (by simp) oi e
  item := by
    intro X hP hw hK hc i pins s σ H E I hf st hg
    subst hP hw hK
    obtain ⟨hd, hi⟩ := hg
    obtain ⟨f0, f1, f2, f3, f4, f5⟩ := hf it (by simp)
    obtain ⟨hs, hgd, hx, es', ep', hdt, hsz, ent⟩ := frzN I hd
    obtain ⟨rfl, rfl⟩ := dict_ep hod hdt
    obtain ⟨⟨k, q, v⟩, hkv⟩ : ∃ p, kvs[i]? = some p := ⟨kvs[i], List.getElem?_eq_getElem hi⟩
    obtain ⟨en, hen, hkey⟩ := ent i k q v hkv
    refine next_key_item st hgd hdt hsz hen fun h' st' sb => ?_
    have I1 : Inv X pins σ H { s with heap := h' } := I.turned (t' := s.toks) (fun b ob hb e => (sb.2 b hb).trans e) f0 f1 f3 f4 f5
    obtain ⟨oi, e, c, dd⟩ := id st'
    exact ⟨en.key, rfl, go_of (s := { s with heap := h' }) e c dd (by decide) ⟨.ref q, H, I1, hkey, ⟨rfl, k, q, v, hkv, rfl⟩, st', fun b hb => (hf b hb).1⟩⟩
  done := by
    intro X hP hw hK hc i pins s σ H E I hf st hg
    subst hP hw hK
    obtain ⟨hd, hi⟩ := hg
    obtain ⟨f0, f1, f2, f3, f4, f5⟩ := hf it (by simp)
    obtain ⟨hs, hgd, hx, es', ep', hdt, hsz, ent⟩ := frzN I hd
    obtain ⟨rfl, rfl⟩ := dict_ep hod hdt
    exact next_key_end (I.ok.hd hc) st hgd hdt hsz hi fun h' eb => ⟨rfl, I.turned (t' := s.toks) (fun b ob hb e => eb b ob hb e) f0 f1 f3 f4 f5⟩
  self := fun A i s Q E st h => wpAny_pyIter_keyiter st h
def iKeysN (td : TE) : TI := fun σ H R => td σ H fun x H1 => ∃ d o b kvs, x = .ref d ∧ H1 d = some (.frz o (tabO b kvs)) ∧ R (Itn d o b kvs) H1
theorem pi_keysN {X : Cx} {tg e : Expr} {td : TE} (he : PE X e td) : L2.PI X tg e (iKeysN td) := by
  refine ⟨fun pins s σ H R I h => ?_⟩
  refine thn (he.run pins s σ H _ I h) fun u s1 ⟨x, H1, I1, rx, d, o, b, kvs, ex, hd, q⟩ => ?_
  subst ex
  obtain rfl : u = Value.ref d := rx
  obtain ⟨hs, hgd, hx, es, ep, hdt, hsz, ent⟩ := frzN I1 hd
  refine iter_keys hs hgd hx hdt (pi_one (tk := s1.toks) I1 _ (turn_keysN _ hdt) ⟨_, Heap.get?_push_size _ rfl, rfl, ?_⟩ q)
  rw [hsz] <;> rfl
theorem rpI_at {K : PySem.W.Frag} {F : Hp} : ∀ {es : List (PyData × PyData)} {kvs : List (NestedKey × Addr × V)}, RpI K F es kvs → ∀ {i : Nat} {k : NestedKey} {q : Addr} {v : V}, kvs[i]? = some (k, q, v) → ∃ d, es[i]? = some (k.data, d) ∧ Rp K F k.data (.ref q)
  | _, _, .nil, _, _, _, _, h => by simp at h
  | _, _, .cons hk h0 h1 h2, i, k, q, v, h => by
    cases i with
    | zero =>
      simp only [List.getElem?_cons_zero, Option.some.injEq, Prod.mk.injEq] at h
      obtain ⟨rfl, rfl, rfl⟩ := h
      exact ⟨_, rfl, h0⟩
    | succ i =>
      rw [List.getElem?_cons_succ] at h
      rw [List.getElem?_cons_succ]
      exact rpI_at h2 h
theorem src_keysN {K : PySem.W.Frag} {F : Hp} {a b : Addr} {o : Obj} {kvs : List (NestedKey × Addr × V)} {es : List (PyData × PyData)} (h : F a = some (.frz o (tabO b kvs))) (r : RpI K F es kvs) : Src false K F (Itn a o b kvs) (es.map (·.1)) := by
  have len := rpI_len r
  refine ⟨fun i H d e q => ?_, fun i H e q => ⟨e _ _ h, by rw [← len]; simpa using q⟩⟩
  have hi : i < kvs.length := by
    have := (List.getElem?_eq_some_iff.mp q).1
    rw [List.length_map] at this
    omega
  refine ⟨⟨e _ _ h, hi⟩, fun x H' y F2 e2 e3 => ?_⟩
  obtain ⟨z, k, q', v, y1, y2⟩ := y
  subst z
  subst y2
  obtain ⟨d', g1, g2⟩ := rpI_at r y1
  rw [List.getElem?_map, g1] at q
  cases q
  exact ⟨fun _ z => z, .refl e3, taken_of e3 (g2.mono e2)⟩
end Dn

/-! Den97: for left in ways: for row in rows: rest = ..; later[rest] = later.get(rest, 0) + ways[left]. -/
namespace Dn
open PySem PySem.Spec L2
open PyProof.Rows hiding St
/-! ### judgements that lean on the ground -/
def SndST (T : Bd → Prop) (Γ : Ctx) (st : Stmt) (d : DenS) : Prop := ∀ (X : Cx) (Φ : Calls) (B : Bd) (F H : Hp) (ρ : Env) (σ : St) (D : Ends) (W : WX), T B → CtxOk Γ Φ X → BodyOk X → BdOk Γ B → B.K = X.K → L2N.Takes X W → Rel B F H ρ σ →
  (d Φ ρ).wp (StP B F D) (ExS X B F W) → wS X st D σ H
def SndSsT (T : Bd → Prop) (Γ : Ctx) (st : List Stmt) (d : DenS) : Prop := ∀ (X : Cx) (Φ : Calls) (B : Bd) (F H : Hp) (ρ : Env) (σ : St) (D : Ends) (W : WX), T B → CtxOk Γ Φ X → BodyOk X → BdOk Γ B → B.K = X.K → L2N.Takes X W → Rel B F H ρ σ →
  (d Φ ρ).wp (StP B F D) (ExS X B F W) → wSs X st D σ H
section
variable {T : Bd → Prop} {Γ : Ctx} {st : Stmt} {sts : List Stmt} {a b : DenS}
theorem snd_consT (h1 : SndS Γ st a) (h2 : SndSsT T Γ sts b) : SndSsT T Γ (st :: sts) (dSeq a b) := by
  intro X Φ B F H ρ σ D W tb C BO bo hK T R h
  refine PSs.w (pss_cons ps_w pss_w) ?_
  refine h1 X Φ B F H ρ σ { D with nx := wSs X sts D } W C BO bo hK T R (wp_mono (wp_bind (c := a Φ ρ) h) (fun r q => ?_) fun _ q => q)
  obtain ⟨f, ρ1⟩ := r
  cases f with
  | nx => exact fun σ1 F1 H1 R1 e1 => h2 X Φ B F1 H1 ρ1 σ1 D W tb C BO bo hK T R1 (wp_mono q (StP.mono e1) (ExS.mono e1))
  | brk => exact q
  | cnt => exact q
  | ret s => exact q
theorem snd_lastT (h1 : SndST T Γ st a) : SndSsT T Γ [st] a := by
  intro X Φ B F H ρ σ D W tb C BO bo hK T R h
  exact PSs.w (pss_one ps_w) (h1 X Φ B F H ρ σ D W tb C BO bo hK T R h)
theorem snd_forT {tg iter : Expr} {s : DenI} {t : Tgt} {body : List Stmt} {p : Bool} {pos : Pos} (hs : SndI Γ tg iter s p t.isTp) (ht : TgtOk Γ.N (locB Γ.sc) tg t) (hi : t.ix.all (fun i => decide (Γ.np ≤ i)) = true) (hb : SndSsT T Γ body b) (hn : notSet iter = true) : SndST T Γ (.For tg iter body [] pos) (dFor t s b) := by
  intro X Φ B F H ρ σ D W tb C BO bo hK T R hq
  refine PS.w (ps_for BO.hp C.calm pi_w (ht.pg C (mayPut_body C BO)) pss_w (folded_of hn)) ?_
  refine hs X Φ B F H ρ σ _ W C hK T R (wp_mono (wp_bind (c := s Φ ρ) hq) (fun r q J F1 H1 R1 e1 _ hJ => ?_) ExS.ex)
  obtain ⟨ds, ρ1⟩ := r
  have hvs : ∀ i ∈ t.ix, B.vs.length ≤ i := fun i hi' => Nat.le_trans bo.vs (of_decide_eq_true (List.all_eq_true.mp hi i hi'))
  refine ⟨fun i m σ H => m = ds.length - i ∧ i ≤ ds.length ∧ ∃ F' ρ', Rel B F' H ρ' σ ∧ Ex F1 F' ∧ (forL (fun d ρ => (opt (putT t d ρ)).bind fun ρ => b Φ ρ) (ds.drop i) ρ').wp (StP B F' D) (ExS X B F' W), ⟨_, rfl, Nat.zero_le _, F1, ρ1, R1, .refl F1, wp_mono (by rw [List.drop_zero]; exact q) (StP.mono e1) (ExS.mono e1)⟩, fun i m σ H hW => ?_⟩
  obtain ⟨rfl, hi, F', ρ', R', e', q'⟩ := hW
  by_cases hlt : i < ds.length
  · right
    obtain ⟨d, hd⟩ : ∃ d, ds[i]? = some d := ⟨_, List.getElem?_eq_getElem hlt⟩
    obtain ⟨go, yl⟩ := hJ.go i H d (e'.trans R'.kept.ex) hd
    refine ⟨go, fun σ H => ∃ F' ρ', Rel B F' H ρ' σ ∧ Ex F1 F' ∧ (forL (fun d ρ => (opt (putT t d ρ)).bind fun ρ => b Φ ρ) (ds.drop (i + 1)) ρ').wp (StP B F' D) (ExS X B F' W), fun σ' H' n => ⟨ds.length - (i + 1), by omega, rfl, hlt, n⟩, fun x H' y => ?_⟩
    obtain ⟨_, gr, tk⟩ := yl x H' y F' e' R'.kept.ex
    have ed : ds.drop i = d :: ds.drop (i + 1) := by
      have := List.drop_eq_getElem_cons hlt
      rw [this]
      rw [List.getElem?_eq_getElem hlt] at hd
      rw [Option.some.inj hd]
    rw [ed] at q'
    have q' := wp_bind (c := (opt (putT t d ρ')).bind fun ρ => b Φ ρ) q'
    have R2 := R'.add gr
    cases g : putT t d ρ' with
    | none => rw [g] at q'; exact q'.elim
    | some ρ2 =>
      rw [g] at q'
      replace q' : (b Φ ρ2).wp _ _ := q'
      rw [← hK]
      refine put_ok g tk R2 hvs fun σ2 R3 => ?_
      refine hb X Φ B F' H' ρ2 σ2 _ W tb C BO bo hK T R3 (wp_mono q' (fun r q2 => ?_) fun _ z => z)
      obtain ⟨f, ρ3⟩ := r
      cases f with
      | nx => exact fun σ3 F3 H3 R4 e4 => ⟨F3, ρ3, R4, e'.trans e4, wp_mono q2 (StP.mono e4) (ExS.mono e4)⟩
      | cnt => exact fun σ3 F3 H3 R4 e4 => ⟨F3, ρ3, R4, e'.trans e4, wp_mono q2 (StP.mono e4) (ExS.mono e4)⟩
      | brk => exact q2
      | ret s => exact q2
  · left
    have ei : i = ds.length := by omega
    subst ei
    refine ⟨hJ.stop _ H (e'.trans R'.kept.ex) (Nat.le_refl _), ?_⟩
    rw [List.drop_length] at q'
    exact q' σ F' H R' (.refl F')
end
/-! ### the dict that is walked -/
/-- its address stands at slot i, its content is frozen -/
def TW (i : Nat) (es : List (PyData × PyData)) (B : Bd) : Prop := ∃ a od b kvs, B.vs[i]? = some (.ref a) ∧ B.F0 a = some (.frz od (tabO b kvs)) ∧ RpI B.K B.F0 es kvs
/-- what stands at a key, nought where nothing does -/
def lookI (ls : List (PyData × PyData)) (k : PyData) : Option Int := match lookD ls k with
  | none => some 0
  | some (.int x) => some x
  | _ => none
def dAddW (es : List (PyData × PyData)) (L r t : Nat) : DenS := fun _ ρ => match ρ[L]?, ρ[r]?, ρ[t]? with
  | some (.odc true ls), some (.val k), some (.val u) => guard' ((keyT k).isSome && ((keyT u).isSome && decide (ls.length < 1000000))) (match lookI ls k, lookD es u with
    | some x, some (.int y) => .ok (.nx, ρ.set L (.odc true (putD ls k (.int (x + y)))))
    | _, _ => .stuck)
  | _, _, _ => .stuck
theorem addW_inv {es : List (PyData × PyData)} {L r t : Nat} {Φ : Calls} {ρ : Env} {P : Fl × Env → Prop} {E : Exc → Prop} (h : (dAddW es L r t Φ ρ).wp P E) : ∃ ls k u x y, ρ[L]? = some (.odc true ls) ∧ ρ[r]? = some (.val k) ∧ ρ[t]? = some (.val u) ∧ (keyT k).isSome = true ∧ (keyT u).isSome = true ∧ ls.length < 1000000 ∧ lookI ls k = some x ∧ lookD es u = some (.int y) ∧ P (.nx, ρ.set L (.odc true (putD ls k (.int (x + y))))) := by
  unfold dAddW at h
  split at h
  · rename_i ls k u h1 h2 h3
    obtain ⟨g, h⟩ := wp_guard h
    rw [Bool.and_eq_true, Bool.and_eq_true, decide_eq_true_eq] at g
    split at h
    · rename_i x y e1 e2
      exact ⟨ls, k, u, x, y, h1, h2, h3, g.1, g.2.1, g.2.2, e1, e2, h⟩
    · exact h.elim
  · exact h.elim
section
variable {Γ : Ctx} {xl xr xt xi : Str} {es : List (PyData × PyData)} {L r t i ck : Nat} {p1 p2 p3 p4 p5 p6 p7 p8 p9 p10 p11 p12 p13 : Pos}
theorem snd_addW (hN1 : Γ.N[L]? = some xl) (hv1 : visB Γ.sc xl = true) (hx1 : okName xl = true) (hN2 : Γ.N[r]? = some xr) (hv2 : visB Γ.sc xr = true) (hx2 : okName xr = true)
    (hN3 : Γ.N[t]? = some xt) (hv3 : visB Γ.sc xt = true) (hx3 : okName xt = true) (hN4 : Γ.N[i]? = some xi) (hv4 : visB Γ.sc xi = true) (hx4 : okName xi = true) (hline : (p5.endLine == p8.line) = true) :
    SndST (TW i es) Γ (.Assign [.Subscript (.Name xl p1) (.Name xr p2) p3] (.BinOp (.Call (.Attribute (.Name xl p4) "get" p5) [.Name xr p6, .Constant (.int 0) ck p7] [] p8) .Add (.Subscript (.Name xi p9) (.Name xt p10) p11) p12) p13) (dAddW es L r t) := by
  intro X Φ B F H ρ σ D W tb C BO bo hK T R hq
  have hu : X.A.units + 9 < cLine := by have := room_u C.room; omega
  have P1 : ∀ {p : Pos}, PE X (.Name xl p) (tVar L) := pe_var (by rw [C.nm]; exact hN1) (by rw [C.sc]; exact vis_of hv1) (okName_d hx1) (okName_c hx1)
  have P2 : ∀ {p : Pos}, PE X (.Name xr p) (tVar r) := pe_var (by rw [C.nm]; exact hN2) (by rw [C.sc]; exact vis_of hv2) (okName_d hx2) (okName_c hx2)
  have P3 : ∀ {p : Pos}, PE X (.Name xt p) (tVar t) := pe_var (by rw [C.nm]; exact hN3) (by rw [C.sc]; exact vis_of hv3) (okName_d hx3) (okName_c hx3)
  have P4 : ∀ {p : Pos}, PE X (.Name xi p) (tVar i) := pe_var (by rw [C.nm]; exact hN4) (by rw [C.sc]; exact vis_of hv4) (okName_d hx4) (okName_c hx4)
  have G : PE X (.Call (.Attribute (.Name xl p4) "get" p5) [.Name xr p6, .Constant (.int 0) ck p7] [] p8) (tTGet2 X.K (tVar L) (tVar r) (tC (.int 0))) :=
    pe_tget2 hu P1 P2 pe_int ⟨base_of rfl, few_of (by rfl) (show 2 < 20 by decide), hline, by rfl⟩
  have S : PE X (.Subscript (.Name xi p9) (.Name xt p10) p11) (tOp (rTGet X.K) (tVar i) (tVar t)) := pe_tget hu P4 P3 (noSl_of rfl)
  refine PS.w (ps_asg (pe_op op_add G S) (pg_sub P1 P2 (set_tab hu) (by intro v; rfl)) (sole_of rfl) (by unfold swappedStores; rfl) rfl) ?_
  obtain ⟨ls, k, u, x, y, z1, z2, z3, k1, k2, ll, lx, ly, q⟩ := addW_inv hq
  obtain ⟨kk, ek⟩ := Option.isSome_iff_exists.mp k1
  obtain ⟨kt, et⟩ := Option.isSome_iff_exists.mp k2
  obtain ⟨l, b0, kvs, g1, g2, g3, g4, g5⟩ := tabN_at R z1
  obtain ⟨v2, m1, m2⟩ := R.sl.val r k z2
  obtain ⟨v3, n1, n2⟩ := R.sl.val t u z3
  obtain ⟨rfl, ok2, tk2, c2, rfl, rc2⟩ := key_at ek m2
  obtain ⟨rfl, ok3, tk3, c3, rfl, rc3⟩ := key_at et n2
  obtain ⟨a, od, b1, kw, w1, w2, w3⟩ := tb
  have ha : σ[i]? = some (some (.ref a)) := R.sl.par i _ w1
  have hA : H a = some (.frz od (tabO b1 kw)) := R.kept.ex _ _ (R.kept.ff _ _ w2)
  have rw3 : RpI B.K F es kw := w3.mono R.kept.ff
  have lk2 := look_T kk ok2 tk2 g4
  have lk3 := look_T kt ok3 tk3 rw3
  have e3 : valI kw kt = some (.int y) := by
    rw [ly] at lk3
    cases h : valI kw kt with
    | none => rw [h] at lk3; exact lk3.elim
    | some v => rw [h] at lk3; cases (show Rp B.K F (.int y) v from lk3); rfl
  have e2 : (valI kvs kk).getD (.int 0) = .int x := by
    unfold lookI at lx
    cases h : lookD ls kk.data with
    | none =>
      rw [h] at lx lk2
      cases h' : valI kvs kk with
      | none => cases lx; rfl
      | some v => rw [h'] at lk2; exact lk2.elim
    | some d =>
      rw [h] at lx lk2
      cases h' : valI kvs kk with
      | none => rw [h'] at lk2; exact lk2.elim
      | some v =>
        rw [h'] at lk2
        have lk2 : Rp B.K F d v := lk2
        cases d with
        | int x' => cases lx; cases lk2; rfl
        | _ => cases lx
  have lt : kvs.length < sizeLine := by rw [← rpI_len g4]; exact lt_line (by omega)
  have ex := R.kept.ex
  refine ⟨_, g1, l, rfl, ⟨b0, kvs, ls, .inl g3, hK ▸ g4.mono ex⟩, _, m1, ⟨valI kvs kk, .inr ⟨b0, kvs, kk, c2, ls, .inl g3, rfl, hK ▸ g4.mono ex, ok2, hK ▸ rc2.mono ex, rfl⟩, ?_⟩⟩
  refine ⟨_, ha, _, n1, a, .int y, rfl, .inr ⟨b1, kw, kt, c3, es, .inr ⟨od, hA⟩, rfl, hK ▸ rw3.mono ex, ok3, hK ▸ rc3.mono ex, e3.symm⟩, x, y, e2, rfl, ?_⟩
  refine ⟨_, g1, _, m1, l, _, rfl, .inr ⟨b0, kvs, kk, c2, ls, g3, rfl, hK ▸ g4.mono ex, ok2, hK ▸ rc2.mono ex, lt, rfl⟩, ?_⟩
  exact q σ F _ (R.alter (s' := .odc true (putD ls kk.data (.int (x + y)))) z1 rfl g1 ⟨_, _, rfl, put_T ok2 rc2 (.int _) g4⟩) (.refl F)
end
/-! ### the walk -/
def knownAt (ρ : Env) (j : Nat) : Bool := match ρ[j]? with
  | some .un => false
  | some _ => true
  | none => false
def dForW (v i : Nat) (b : List (PyData × PyData) → DenS) : DenS := fun Φ ρ => match ρ[i]? with
  | some (.odc true es) => guard' ((List.range i).all (knownAt ρ)) (forL (fun d ρ => b es Φ (ρ.set v (.val d))) (es.map (·.1)) (ρ.set i .un))
  | _ => .stuck
section
variable {B : Bd} {F H : Hp} {ρ : Env} {σ : St} {a : Addr} {o o' : HO} {i : Nat} {s : Slot}
/-- an own object is frozen in another form, its slot forgotten -/
theorem Rel.lockU (k : Rel B F H ρ σ) (h : ρ[i]? = some s) (hs : s.isOwn = true) (h1 : σ[i]? = some (some (.ref a))) : Rel B (upd F a o') (upd H a o') (ρ.set i .un) σ := by
  obtain ⟨b, o, g1, h2, h3, h4, h5⟩ := k.sl.own i s h hs
  rw [h1] at g1
  cases g1
  have e : Ex F (upd F a o') := .new h2
  have dis : ∀ (j : Nat) (t : Slot), (ρ.set i .un)[j]? = some t → t ≠ .un → ρ[j]? = some t ∧ j ≠ i := fun j t q qs => by
    rcases set_get q with ⟨_, z, _⟩ | ⟨z1, z2⟩
    · exact absurd z qs
    · exact ⟨z2, z1⟩
  have own : ∀ {t : Slot}, t.isOwn = true → t ≠ .un := fun q z => by rw [z] at q; cases q
  have hn : B.La a ∨ B.H0 a = none := h5.imp (fun z => ⟨i, z⟩) id
  refine ⟨⟨k.kept.ff.trans e, fun b u q => ?_, fun b u q n => ?_, fun b q1 q2 q3 => ?_, fun b q => ?_⟩, ⟨by rw [List.length_set]; exact k.sl.len, fun j d' q => ?_, fun j ns q => ?_, fun j t q qs => ?_, k.sl.par, fun j m t u b ne q qs q' qs' e3 => ?_⟩⟩
  · by_cases z : b = a
    · subst z; rw [upd_same] at q ⊢; exact q
    · rw [upd_ne z] at q ⊢; exact k.kept.ex _ _ q
  · have z : b ≠ a := fun z => by
      subst z
      rcases hn with w | w
      · exact n w
      · rw [w] at q; cases q
    rw [upd_ne z]
    exact k.kept.keep b u q n
  · have z : b ≠ a := fun z => by
      subst z
      rcases hn with w | w
      · exact q3 w
      · exact q1 w
    rw [upd_ne z]
    exact k.kept.nof b q1 q2 q3
  · by_cases z : b = a
    · subst z; rw [upd_same]; exact fun z => nomatch z
    · rw [upd_ne z]; exact k.kept.live b q
  · obtain ⟨v, q1, q2⟩ := k.sl.val j d' (dis j _ q (fun z => nomatch z)).1
    exact ⟨v, q1, q2.mono e⟩
  · obtain ⟨v, q1, q2⟩ := k.sl.scr j ns (dis j _ q (fun z => nomatch z)).1
    exact ⟨v, q1, e.sqL q2⟩
  · obtain ⟨q', ne⟩ := dis j t q (own qs)
    obtain ⟨b, u, g1, g2, g3, g4, g5⟩ := k.sl.own j t q' qs
    have nb : b ≠ a := fun z => by subst z; exact k.sl.dis j i t s b ne q' qs h hs g1 h1
    exact ⟨b, u, g1, by rw [upd_ne nb]; exact g2, by rw [upd_ne nb]; exact g3, g4.mono e, g5⟩
  · exact k.sl.dis j m t u b ne (dis j t q (own qs)).1 qs (dis m u q' (own qs')).1 qs' e3
theorem known_at (R : Rel B F H ρ σ) {j : Nat} (h : knownAt ρ j = true) : ∃ v, σ[j]? = some (some v) := by
  unfold knownAt at h
  cases z : ρ[j]? with
  | none => rw [z] at h; cases h
  | some s =>
    cases s with
    | un => rw [z] at h; cases h
    | val d => obtain ⟨v, q, _⟩ := R.sl.val j d z; exact ⟨v, q⟩
    | scr ns => obtain ⟨a, q, _⟩ := R.sl.scr j ns z; exact ⟨_, q⟩
    | own ds => obtain ⟨a, o, q, _⟩ := R.sl.own j _ z rfl; exact ⟨_, q⟩
    | odc t es => obtain ⟨a, o, q, _⟩ := R.sl.own j _ z rfl; exact ⟨_, q⟩
    | obj k ds => obtain ⟨a, o, q, _⟩ := R.sl.own j _ z rfl; exact ⟨_, q⟩
/-- the first names' values -/
def firstV (σ : St) (n : Nat) : List V := (List.range n).map fun j => match σ[j]? with
  | some (some v) => v
  | _ => .non
theorem firstV_get {n j : Nat} {v : V} (h : (firstV σ n)[j]? = some v) : j < n ∧ v = (match σ[j]? with
    | some (some v) => v
    | _ => .non) := by
  unfold firstV at h
  rw [List.getElem?_map] at h
  obtain ⟨k, h1, h2⟩ := Option.map_eq_some_iff.mp h
  have hj : j < n := by
    have := (List.getElem?_eq_some_iff.mp h1).1
    rwa [List.length_range] at this
  rw [List.getElem?_range hj] at h1
  cases h1
  exact ⟨hj, h2.symm⟩
theorem firstV_at {n j : Nat} {v : V} (hj : j < n) (h : σ[j]? = some (some v)) : (firstV σ n)[j]? = some v := by
  unfold firstV
  rw [List.getElem?_map, List.getElem?_range hj]
  show some (match σ[j]? with
    | some (some v) => v
    | _ => V.non) = _
  rw [h]
end
section
variable {Γ : Ctx} {x w : Str} {v i : Nat} {b : List (PyData × PyData) → DenS} {body : List Stmt} {vpos xpos pos : Pos}
theorem snd_forW (hw : Γ.N[v]? = some w) (hl : locB Γ.sc w = true) (hi : i + 1 ≤ v) (hN : Γ.N[i]? = some x) (hv : visB Γ.sc x = true) (hx : okName x = true) (hnp : Γ.np ≤ i)
    (hb : ∀ es, SndSsT (TW i es) { Γ with np := i + 1 } body (b es)) : SndS Γ (.For (.Name w vpos) (.Name x xpos) body [] pos) (dForW v i b) := by
  intro X Φ B F H ρ σ D W C BO bo hK T R hq
  have P : PE X (.Name x xpos) (tVar i) := pe_var (by rw [C.nm]; exact hN) (by rw [C.sc]; exact vis_of hv) (okName_d hx) (okName_c hx)
  have ht : TgtOk Γ.N (locB Γ.sc) (.Name w vpos) (.nm v) := .nm hw hl
  obtain ⟨es, z, hg, hq⟩ : ∃ es, ρ[i]? = some (.odc true es) ∧ (List.range i).all (knownAt ρ) = true ∧ (forL (fun d ρ => b es Φ (ρ.set v (.val d))) (es.map (·.1)) (ρ.set i .un)).wp (StP B F D) (ExS X B F W) := by
    unfold dForW at hq
    split at hq
    · rename_i es z
      obtain ⟨g, hq⟩ := wp_guard hq
      exact ⟨es, z, g, hq⟩
    · exact hq.elim
  obtain ⟨a, b0, kvs, g1, g2, g3, rk, g5⟩ := tabN_at R z
  have hn : B.La a ∨ B.H0 a = none := g5.imp (fun z => ⟨i, z⟩) id
  refine PS.w (ps_for BO.hp C.calm pi_w (ht.pg C (mayPut_body C BO)) pss_w (folded_of rfl)) ?_
  intro pins s I
  obtain ⟨od, I1⟩ := I.lock g3 trivial
  have R0 : Rel B (upd F a (.frz od (tabO b0 kvs))) (upd H a (.frz od (tabO b0 kvs))) (ρ.set i .un) σ := R.lockU z rfl g1
  have eF : Ex F (upd F a (.frz od (tabO b0 kvs))) := .new g2
  have fa : upd F a (.frz od (tabO b0 kvs)) a = some (.frz od (tabO b0 kvs)) := upd_same
  have ha : upd H a (.frz od (tabO b0 kvs)) a = some (.frz od (tabO b0 kvs)) := upd_same
  have rk1 := rk.mono eF
  have nofa : ∀ c, B.H0 c ≠ none → B.F0 c = none → ¬ B.La c → upd F a (.frz od (tabO b0 kvs)) c = none := fun c q1 q2 q3 => R0.kept.nof c q1 q2 q3
  generalize upd F a (.frz od (tabO b0 kvs)) = F1 at *
  generalize upd H a (.frz od (tabO b0 kvs)) = H1 at *
  -- the ground within
  let B' : Bd := { B with F0 := F1, vs := firstV σ (i + 1) }
  have known : ∀ j, j < i + 1 → ∃ v, σ[j]? = some (some v) := fun j hj => by
    by_cases e : j = i
    · subst e; exact ⟨_, g1⟩
    · exact known_at R (List.all_eq_true.mp hg j (List.mem_range.mpr (by omega)))
  have par' : ∀ (j : Nat) (v : V), (firstV σ (i + 1))[j]? = some v → σ[j]? = some (some v) := fun j v h => by
    obtain ⟨hj, e⟩ := firstV_get h
    obtain ⟨v', e'⟩ := known j hj
    rw [e'] at e
    rw [e', e]
  have R1 : Rel B' F1 H1 (ρ.set i .un) σ := ⟨⟨.refl F1, R0.kept.ex, R0.kept.keep, fun c _ q _ => q, R0.kept.live⟩, ⟨R0.sl.len, R0.sl.val, R0.sl.scr, R0.sl.own, par', R0.sl.dis⟩⟩
  have backK : ∀ {F' H' : Hp}, Kept B' F' H' → Kept B F' H' := fun {F' H'} k => ⟨R0.kept.ff.trans k.ff, k.ex, k.keep, fun c q1 q2 q3 => k.nof c q1 (nofa c q1 q2 q3) q3, k.live⟩
  have back : ∀ {F' H' : Hp} {ρ' : Env} {σ' : St}, Rel B' F' H' ρ' σ' → Rel B F' H' ρ' σ' := fun {F' H' ρ' σ'} R' => ⟨backK R'.kept, ⟨R'.sl.len, R'.sl.val, R'.sl.scr, R'.sl.own, fun j v h => by
    have hs := R.sl.par j v h
    have hj : j < B.vs.length := (List.getElem?_eq_some_iff.mp h).1
    have := bo.vs
    exact R'.sl.par j v (firstV_at (by omega) hs), R'.sl.dis⟩⟩
  have tw : TW i es B' := ⟨a, od, b0, kvs, firstV_at (Nat.lt_succ_self i) g1, fa, rk1⟩
  have C' : CtxOk { Γ with np := i + 1 } Φ X := ⟨C.nm, C.sc, C.nd, C.calm, C.room, C.grd, C.fns, C.gints, C.gstrs, C.blt, C.exs, C.hot, C.dk, C.ini⟩
  have bo' : BdOk { Γ with np := i + 1 } B' := ⟨by show (firstV σ (i + 1)).length ≤ i + 1; unfold firstV; rw [List.length_map, List.length_range]; exact Nat.le_refl _, fun j c h => by
    have h1 : j < Γ.np := bo.L j c h
    show j < i + 1
    omega⟩
  have qS : ∀ r, StP B F D r → StP B' F1 D r := fun r q => by
    obtain ⟨f, ρ1⟩ := r
    cases f with
    | nx => exact fun σ' F' H' R' e' => q σ' F' H' (back R') (eF.trans e')
    | brk => exact fun σ' F' H' R' e' => q σ' F' H' (back R') (eF.trans e')
    | cnt => exact fun σ' F' H' R' e' => q σ' F' H' (back R') (eF.trans e')
    | ret s => exact fun σ' v F' H' R' e' rs => q σ' v F' H' (back R') (eF.trans e') rs
  have qE : ∀ x, ExS X B F W x → ExS X B' F1 W x := fun x q σ' F' H' cls d k e' xc => q σ' F' H' cls d (backK k) (eF.trans e') xc
  have hq := wp_mono hq qS qE
  have hK' : B'.K = X.K := hK
  have hJ : Src false B'.K F1 (Itn a od b0 kvs) (es.map (·.1)) := src_keysN fa rk1
  generalize hds : es.map (·.1) = ds at hq hJ
  have hvs : ∀ j ∈ (Tgt.nm v).ix, B'.vs.length ≤ j := fun j hj => by
    rw [List.mem_singleton.mp hj]
    show (firstV σ (i + 1)).length ≤ v
    unfold firstV
    rw [List.length_map, List.length_range]
    exact hi
  let f : PyData → Env → Out (Fl × Env) := fun d ρ => b es Φ (ρ.set v (.val d))
  refine L2.PI.w (pi_keysN P) ⟨_, g1, a, od, b0, kvs, rfl, ha, ?_⟩ pins s I1
  refine ⟨fun k m σ H => m = ds.length - k ∧ k ≤ ds.length ∧ ∃ F' ρ', Rel B' F' H ρ' σ ∧ Ex F1 F' ∧ (forL f (ds.drop k) ρ').wp (StP B' F' D) (ExS X B' F' W), ⟨_, rfl, Nat.zero_le _, F1, _, R1, .refl F1, by rw [List.drop_zero]; exact hq⟩, fun k m σ H hW => ?_⟩
  obtain ⟨rfl, hk, F', ρ', R', e', q'⟩ := hW
  by_cases hlt : k < ds.length
  · right
    obtain ⟨d, hd⟩ : ∃ d, ds[k]? = some d := ⟨_, List.getElem?_eq_getElem hlt⟩
    obtain ⟨go, yl⟩ := hJ.go k H d (e'.trans R'.kept.ex) hd
    refine ⟨go, fun σ H => ∃ F' ρ', Rel B' F' H ρ' σ ∧ Ex F1 F' ∧ (forL f (ds.drop (k + 1)) ρ').wp (StP B' F' D) (ExS X B' F' W), fun σ' H' n => ⟨ds.length - (k + 1), by omega, rfl, hlt, n⟩, fun x H' y => ?_⟩
    obtain ⟨_, gr, tk⟩ := yl x H' y F' e' R'.kept.ex
    have ed : ds.drop k = d :: ds.drop (k + 1) := by
      have := List.drop_eq_getElem_cons hlt
      rw [this]
      rw [List.getElem?_eq_getElem hlt] at hd
      rw [Option.some.inj hd]
    rw [ed] at q'
    have q' := wp_bind (c := f d ρ') q'
    have R2 := R'.add gr
    rw [← hK']
    refine put_ok (t := .nm v) (ρ' := ρ'.set v (.val d)) rfl tk R2 hvs fun σ2 R3 => ?_
    refine hb es X Φ B' F' H' _ σ2 _ W tw C' BO bo' hK' T R3 (wp_mono q' (fun r q2 => ?_) fun _ z => z)
    obtain ⟨fl, ρ3⟩ := r
    cases fl with
    | nx => exact fun σ3 F3 H3 R4 e4 => ⟨F3, ρ3, R4, e'.trans e4, wp_mono q2 (StP.mono e4) (ExS.mono e4)⟩
    | cnt => exact fun σ3 F3 H3 R4 e4 => ⟨F3, ρ3, R4, e'.trans e4, wp_mono q2 (StP.mono e4) (ExS.mono e4)⟩
    | brk => exact q2
    | ret s => exact q2
  · left
    have ei : k = ds.length := by omega
    subst ei
    refine ⟨hJ.stop _ H (e'.trans R'.kept.ex) (Nat.le_refl _), ?_⟩
    rw [List.drop_length] at q'
    exact q' σ F' H R' (.refl F')
end
end Dn

/-! Den98: steps of Den95 and Den97. -/
namespace Dn
open PySem PySem.Spec L2
open PyProof.Rows hiding St
section
variable {Φ : Calls} {ρ : Env} {i v n L r t : Nat} {es ls : List (PyData × PyData)} {k d u : PyData} {a : DenOs} {o : DenO} {b : List (PyData × PyData) → DenS} {x y : Int}
def kTgN2 (s : Option Slot) (ds : List PyData) (ρ : Env) : Out (Slot × Env) := match s, ds with
  | some (.odc true es), [k, d] => guard' (keyT k).isSome (.ok (.val ((lookD es k).getD d), ρ))
  | _, _ => .stuck
def kTgN (i : Nat) : List PyData × Env → Out (Slot × Env) := fun x => kTgN2 (x.2[i]?) x.1 x.2
@[simp] theorem x_dTGetN : dTGetN i a Φ ρ = guard' (isTabN ρ i) ((a Φ ρ).bind (kTgN i)) := id rfl
@[simp] theorem x_dTGetN1 {ds : List PyData} : kTgN i (ds, ρ) = kTgN2 (ρ[i]?) ds ρ := id rfl
@[simp] theorem x_dTGetN2 : kTgN2 (some (.odc true es)) [k, d] ρ = guard' (keyT k).isSome (.ok (.val ((lookD es k).getD d), ρ)) := id rfl
def isTbS : Option Slot → Bool
  | some (.odc true _) => true
  | _ => false
@[simp] theorem x_isTabN : isTabN ρ i = isTbS (ρ[i]?) := id rfl
@[simp] theorem x_isTbS : isTbS (some (.odc true es)) = true := id rfl
def kDpT (n : Int) : PyData × Env → Out (Slot × Env) := fun x => guard' (keyT x.1).isSome (.ok (.odc true [(x.1, .int n)], x.2))
@[simp] theorem x_dDispT {n : Int} : dDispT n o Φ ρ = (o Φ ρ).bind (kDpT n) := id rfl
@[simp] theorem x_dDispT1 {n : Int} : kDpT n (k, ρ) = guard' (keyT k).isSome (.ok (.odc true [(k, .int n)], ρ)) := id rfl
end
theorem forW_wp {Φ : Calls} {ρ : Env} {i v : Nat} {es : List (PyData × PyData)} {b : List (PyData × PyData) → DenS} {P : Fl × Env → Prop} {E : Exc → Prop} (h : ρ[i]? = some (.odc true es)) (hk : (List.range i).all (knownAt ρ) = true) (q : (forL (fun d ρ => b es Φ (ρ.set v (.val d))) (es.map (·.1)) (ρ.set i .un)).wp P E) : (dForW v i b Φ ρ).wp P E := by
  unfold dForW
  rw [h]
  show (guard' _ _).wp P E
  rw [hk]
  exact q
theorem addW_ok {Φ : Calls} {ρ : Env} {L r t : Nat} {es ls : List (PyData × PyData)} {k u : PyData} {x y : Int} (h1 : ρ[L]? = some (.odc true ls)) (h2 : ρ[r]? = some (.val k)) (h3 : ρ[t]? = some (.val u)) (k1 : (keyT k).isSome = true) (k2 : (keyT u).isSome = true) (hl : ls.length < 1000000) (lx : lookI ls k = some x) (ly : lookD es u = some (.int y)) :
    dAddW es L r t Φ ρ = .ok (.nx, ρ.set L (.odc true (putD ls k (.int (x + y))))) := by
  unfold dAddW
  simp only [h1, h2, h3, k1, k2, lx, ly, decide_eq_true hl, Bool.and_self]
  rfl
end Dn

set_option maxHeartbeats 0
/-! the text of k73, printed by gen.py -/
namespace Dn.M73
open PySem PySem.Spec L2
open PyProof.Rows hiding St
def topS (i : Nat) : Stmt := PySem.Challenge.pw_rowsorder_k73_lists_counted.main.body.getD i (.Pass ⟨0, 0, 0, 0⟩)
def fns : List (Str × Nat) := [("is_whole", 1), ("is_many", 1), ("is_pair", 2), ("follows", 1), ("is_order", 1), ("need_order", 1), ("are_apart", 3), ("next_things", 2), ("all_turns", 1), ("rows_from", 2), ("mark_of", 2), ("need_few", 1), ("lists_many", 2), ("_law_box", 2), ("_law_take", 2), ("_law_whole", 1), ("_law_shuffled", 2), ("_law_told", 2), ("_law_apart", 3), ("_law_turns", 1), ("_law_rows_all", 1), ("_law_ways", 3), ("_law_two", 2), ("law", 1)]
def gis : List (Str × Int) := [("MOST_THINGS", 8), ("MOST_GONE", 4)]
def gss : List (Str × Str) := []
def bls : List Str := ["all", "bool", "divmod", "int", "isinstance", "len", "list", "max", "min", "range", "set", "sorted", "tuple"]
def dks : List (Str × Nat × Option Str) := []
def inis : List Str := []
def exs : List (Str × Str) := []
def c_is_whole : Ctx := ⟨["thing"], defScope (topS 7), 1, fns, gis, gss, bls, exs, dks, inis⟩
def b_is_whole : DenS := dRet (dAnd (dP (pIs "int") (osCons (oVar 0) (osNil))) (dNot (dP (pIs "bool") (osCons (oVar 0) (osNil)))))
def c_is_many : Ctx := ⟨["thing"], defScope (topS 8), 1, fns, gis, gss, bls, exs, dks, inis⟩
def b_is_many : DenS := dRet (dAnd (dCall "is_whole" 1 (asVar 0 (asNil))) (dCh (fun i j => decide (i ≤ j)) (fun i j => decide (i ≤ j)) (oOf (dLit (.int 1))) (oVar 0) (oOf (dLit (.int 8)))))
def c_is_pair : Ctx := ⟨["many", "thing", "one"], defScope (topS 9), 2, fns, gis, gss, bls, exs, dks, inis⟩
def b_is_pair : DenS := dSeq (dIfS (dOr (dNot (dP (pIs "tuple") (osCons (oVar 1) (osNil)))) (dP pNe (osCons (oOf (dP pLen (osCons (oVar 1) (osNil)))) (osCons (oOf (dLit (.int 2))) (osNil)))))
  (dRet (dLit (.bool false)))
  (dSkip))
  (dRet (dP pAll (osCons (oOf (dLc (.nm 2) (iSeq (oOf (dVar 1))) (dYes) (dAnd (dCall "is_whole" 1 (asVar 2 (asNil))) (dCh (fun i j => decide (i ≤ j)) (fun i j => decide (i < j)) (oOf (dLit (.int 0))) (oVar 2) (oVar 0))) [2])) (osNil))))
def c_follows : Ctx := ⟨["pairs", "a", "b", "c", "d"], defScope (topS 10), 1, fns, gis, gss, bls, exs, dks, inis⟩
def b_follows : DenS := dSeq (dFor (.tp [1, 2]) (iSeq (oOf (dVar 0)))
  (dSeq (dIfS (dP pEq (osCons (oVar 1) (osCons (oVar 2) (osNil))))
  (dRet (dLit (.bool false)))
  (dSkip))
  (dFor (.tp [3, 4]) (iSeq (oOf (dVar 0)))
  (dIfS (dAnd (dP pEq (osCons (oVar 2) (osCons (oVar 3) (osNil)))) (dP pNin (osCons (oOf (dTup (fsCons (dVar 1) (fsCons (dVar 4) (fsNil))))) (osCons (oVar 0) (osNil)))))
  (dRet (dLit (.bool false)))
  (dSkip)))))
  (dRet (dLit (.bool true)))
def c_is_order : Ctx := ⟨["thing", "many", "pairs", "pair"], defScope (topS 11), 1, fns, gis, gss, bls, exs, dks, inis⟩
def b_is_order : DenS := dSeq (dIfS (dOr (dNot (dP (pIs "tuple") (osCons (oVar 0) (osNil)))) (dOr (dP pNe (osCons (oOf (dP pLen (osCons (oVar 0) (osNil)))) (osCons (oOf (dLit (.int 2))) (osNil)))) (dOr (dNot (dCall "is_many" 1 (asExp (dP pIx (osCons (oVar 0) (osCons (oOf (dLit (.int 0))) (osNil)))) (asNil)))) (dNot (dP (pIs "tuple") (osCons (oOf (dP pIx (osCons (oVar 0) (osCons (oOf (dLit (.int 1))) (osNil))))) (osNil)))))))
  (dRet (dLit (.bool false)))
  (dSkip))
  (dSeq (dUnp [1, 2] (dVar 0))
  (dSeq (dIfS (dNot (dP pAll (osCons (oOf (dLc (.nm 3) (iSeq (oOf (dVar 2))) (dYes) (dCall "is_pair" 2 (asVar 1 (asVar 3 (asNil)))) [3])) (osNil))))
  (dRet (dLit (.bool false)))
  (dSkip))
  (dRet (dAnd (dP pEq (osCons (oOf (dP pListOf (osCons (oVar 2) (osNil)))) (osCons (oOf (dSS (oVar 2))) (osNil)))) (dCall "follows" 1 (asVar 2 (asNil)))))))
def c_need_order : Ctx := ⟨["order"], defScope (topS 12), 1, fns, gis, gss, bls, exs, dks, inis⟩
def b_need_order : DenS := dIfS (dNot (dCall "is_order" 1 (asVar 0 (asNil))))
  (dStop)
  (dSkip)
def c_are_apart : Ctx := ⟨["order", "a", "b"], defScope (topS 13), 3, fns, gis, gss, bls, exs, dks, inis⟩
def b_are_apart : DenS := dRet (dAnd (dP pNe (osCons (oVar 1) (osCons (oVar 2) (osNil)))) (dAnd (dP pNin (osCons (oOf (dTup (fsCons (dVar 1) (fsCons (dVar 2) (fsNil))))) (osCons (oOf (dP pIx (osCons (oVar 0) (osCons (oOf (dLit (.int 1))) (osNil))))) (osNil)))) (dP pNin (osCons (oOf (dTup (fsCons (dVar 2) (fsCons (dVar 1) (fsNil))))) (osCons (oOf (dP pIx (osCons (oVar 0) (osCons (oOf (dLit (.int 1))) (osNil))))) (osNil))))))
def c_next_things : Ctx := ⟨["order", "gone", "free", "thing", "a", "b"], defScope (topS 15), 2, fns, gis, gss, bls, exs, dks, inis⟩
def b_next_things : DenS := dSeq (dSet 2 (dLst (fsNil)))
  (dSeq (dFor (.nm 3) (iR1 (oOf (dP pIx (osCons (oVar 0) (osCons (oOf (dLit (.int 0))) (osNil))))))
  (dIfS (dAnd (dP pNin (osCons (oVar 3) (osCons (oVar 1) (osNil)))) (dP pAll (osCons (oOf (dLc (.tp [4, 5]) (iSeq (oOf (dP pIx (osCons (oVar 0) (osCons (oOf (dLit (.int 1))) (osNil)))))) (dP pEq (osCons (oVar 5) (osCons (oVar 3) (osNil)))) (dP pIn (osCons (oVar 4) (osCons (oVar 1) (osNil)))) [4, 5])) (osNil))))
  (dDo (dMut 2 mAppend (fsCons (dVar 3) (fsNil))))
  (dSkip)))
  (dRetV 2))
def c_all_turns : Ctx := ⟨["order", "found", "a", "b"], defScope (topS 17), 1, fns, gis, gss, bls, exs, dks, inis⟩
def b_all_turns : DenS := dSeq (dSet 1 (dLst (fsNil)))
  (dSeq (dFor (.nm 2) (iR1 (oOf (dP pIx (osCons (oVar 0) (osCons (oOf (dLit (.int 0))) (osNil))))))
  (dDo (dMut 1 mExtend (fsCons (dLc (.nm 3) (iR1 (oOf (dP pIx (osCons (oVar 0) (osCons (oOf (dLit (.int 0))) (osNil)))))) (dCall "are_apart" 3 (asVar 0 (asVar 2 (asVar 3 (asNil))))) (dTup (fsCons (dVar 2) (fsCons (dVar 3) (fsNil)))) [3]) (fsNil)))))
  (dRetV 1))
def c_rows_from : Ctx := ⟨["order", "row", "found", "thing"], defScope (topS 20), 2, fns, gis, gss, bls, exs, dks, inis⟩
def b_rows_from : DenS := dSeq (dIfS (dP pEq (osCons (oOf (dP pLen (osCons (oVar 1) (osNil)))) (osCons (oOf (dP pIx (osCons (oVar 0) (osCons (oOf (dLit (.int 0))) (osNil))))) (osNil))))
  (dRet (dLst (fsCons (dP pTupOf (osCons (oVar 1) (osNil))) (fsNil))))
  (dSkip))
  (dSeq (dSet 2 (dLst (fsNil)))
  (dSeq (dFor (.nm 3) (iSeq (oOf (dCall "next_things" 2 (asVar 0 (asVar 1 (asNil))))))
  (dDo (dMut 2 mExtend (fsCons (dCall "rows_from" 2 (asVar 0 (asExp (dP pAdd (osCons (oVar 1) (osCons (oOf (dLst (fsCons (dVar 3) (fsNil)))) (osNil)))) (asNil)))) (fsNil)))))
  (dRetV 2)))
def c_mark_of : Ctx := ⟨["row", "some", "found", "a", "b"], defScope (topS 21), 2, fns, gis, gss, bls, exs, dks, inis⟩
def b_mark_of : DenS := dSeq (dSet 2 (dLit (.int 0)))
  (dSeq (dFor (.tp [3, 4]) (iSeq (oOf (dVar 1)))
  (dSet 2 (dP pAdd (osCons (oOf (dP pMul (osCons (oOf (dLit (.int 2))) (osCons (oVar 2) (osNil))))) (osCons (oOf (dP pInt (osCons (oOf (dP pLt (osCons (oOf (dM "tuple" pTIndex (oVar 0) (osCons (oVar 4) (osNil)))) (osCons (oOf (dM "tuple" pTIndex (oVar 0) (osCons (oVar 3) (osNil)))) (osNil))))) (osNil)))) (osNil))))))
  (dRetV 2))
def c_need_few : Ctx := ⟨["order"], defScope (topS 22), 1, fns, gis, gss, bls, exs, dks, inis⟩
def b_need_few : DenS := dSeq (dDo (dCall "need_order" 1 (asVar 0 (asNil))))
  (dIfS (dP pGt (osCons (oOf (dP pIx (osCons (oVar 0) (osCons (oOf (dLit (.int 0))) (osNil))))) (osCons (oOf (dLit (.int 4))) (osNil))))
  (dStop)
  (dSkip))
def c_lists_many : Ctx := ⟨["order", "count", "some", "marks", "ways", "turn", "later", "done", "mark", "row"], defScope (topS 23), 2, fns, gis, gss, bls, exs, dks, inis⟩
def b_lists_many : DenS := dSeq (dDo (dCall "need_few" 1 (asVar 0 (asNil))))
  (dSeq (dIfS (dOr (dNot (dCall "is_whole" 1 (asVar 1 (asNil)))) (dNot (dCh (fun i j => decide (i ≤ j)) (fun i j => decide (i ≤ j)) (oOf (dLit (.int 1))) (oVar 1) (oOf (dLit (.int 4))))))
  (dStop)
  (dSkip))
  (dSeq (dSet 2 (dCall "all_turns" 1 (asVar 0 (asNil))))
  (dSeq (dSet 3 (dLc (.nm 9) (iSeq (oOf (dCall "rows_from" 2 (asVar 0 (asExp (dLst (fsNil)) (asNil)))))) (dYes) (dCall "mark_of" 2 (asVar 9 (asVar 2 (asNil)))) [9]))
  (dSeq (dSet 4 (dDispI 0 1))
  (dSeq (dFor (.nm 5) (iR1 (oVar 1))
  (dSeq (dSet 6 (dNewD false))
  (dSeq (dFor (.nm 7) (iDictK 4)
  (dFor (.nm 8) (iSeq (oOf (dVar 3)))
  (dTPut 6 (oOf (dP pOrI (osCons (oVar 7) (osCons (oVar 8) (osNil))))) (dP pAdd (osCons (oOf (dTGetD 6 (fsCons (dP pOrI (osCons (oVar 7) (osCons (oVar 8) (osNil)))) (fsCons (dLit (.int 0)) (fsNil))))) (osCons (oOf (dTGet 4 (oVar 7))) (osNil)))))))
  (dMvS 4 6))))
  (dRet (dTGetD 4 (fsCons (dP pSub (osCons (oOf (dP pShl (osCons (oOf (dLit (.int 1))) (osCons (oOf (dP pLen (osCons (oVar 2) (osNil)))) (osNil))))) (osCons (oOf (dLit (.int 1))) (osNil)))) (fsCons (dLit (.int 0)) (fsNil))))))))))
def c__law_box : Ctx := ⟨["script", "k", "here", "number", "j", "part"], defScope (topS 25), 2, fns, gis, gss, bls, exs, dks, inis⟩
def b__law_box : DenS := dSeq (dSet 2 (dP pAdd (osCons (oOf (dP pMul (osCons (oOf (dLit (.int 7919))) (osCons (oVar 1) (osNil))))) (osCons (oOf (dLit (.int 13))) (osNil)))))
  (dSeq (dIfS (dP pLt (osCons (oVar 1) (osCons (oOf (dScrLen 0)) (osNil))))
  (dSet 2 (dScrAt 0 (oVar 1)))
  (dSkip))
  (dSeq (dIfS (dP pEq (osCons (oOf (dP pMod (osCons (oVar 2) (osCons (oOf (dLit (.int 2))) (osNil))))) (osCons (oOf (dLit (.int 0))) (osNil))))
  (dRet (dLst (fsCons (dP pDiv (osCons (oVar 2) (osCons (oOf (dLit (.int 2))) (osNil)))) (fsNil))))
  (dSkip))
  (dSeq (dSet 3 (dLit (.int 0)))
  (dSeq (dFor (.nm 4) (iR1 (oOf (dLit (.int 16))))
  (dSeq (dSet 5 (dP pMod (osCons (oOf (dP pAdd (osCons (oOf (dP pAdd (osCons (oOf (dP pMul (osCons (oOf (dP pMod (osCons (oVar 2) (osCons (oOf (dLit (.int 2147483647))) (osNil))))) (osCons (oOf (dLit (.int 48271))) (osNil))))) (osCons (oOf (dP pMul (osCons (oOf (dLit (.int 7919))) (osCons (oVar 4) (osNil))))) (osNil))))) (osCons (oOf (dLit (.int 1))) (osNil))))) (osCons (oOf (dLit (.int 2147483647))) (osNil)))))
  (dSeq (dSet 5 (dP pMod (osCons (oOf (dP pMul (osCons (oVar 5) (osCons (oVar 5) (osNil))))) (osCons (oOf (dLit (.int 2147483629))) (osNil)))))
  (dSet 3 (dP pAdd (osCons (oOf (dP pMul (osCons (oVar 3) (osCons (oOf (dLit (.int 2147483647))) (osNil))))) (osCons (oOf (dP pMod (osCons (oOf (dP pMul (osCons (oVar 5) (osCons (oOf (dP pAdd (osCons (oVar 5) (osCons (oOf (dLit (.int 13))) (osNil))))) (osNil))))) (osCons (oOf (dLit (.int 2147483647))) (osNil))))) (osNil))))))))
  (dRet (dLst (fsCons (dVar 3) (fsNil))))))))
def c__law_take : Ctx := ⟨["box", "many", "left", "digit"], defScope (topS 26), 2, fns, gis, gss, bls, exs, dks, inis⟩
def b__law_take : DenS := dSeq (dUnp [2, 3] (dP pDvm (osCons (oOf (dP pIx (osCons (oVar 0) (osCons (oOf (dLit (.int 0))) (osNil))))) (osCons (oVar 1) (osNil)))))
  (dSeq (dSetIx 0 (oOf (dLit (.int 0))) (dVar 2))
  (dRetV 3))
def c__law_whole : Ctx := ⟨["thing"], defScope (topS 27), 1, fns, gis, gss, bls, exs, dks, inis⟩
def b__law_whole : DenS := dRet (dAnd (dP (pIs "int") (osCons (oVar 0) (osNil))) (dNot (dP (pIs "bool") (osCons (oVar 0) (osNil)))))
def c__law_shuffled : Ctx := ⟨["box", "some", "left", "found"], defScope (topS 28), 2, fns, gis, gss, bls, exs, dks, inis⟩
def b__law_shuffled : DenS := dSeq (dSet 2 (dP pListOf (osCons (oVar 1) (osNil))))
  (dSeq (dSet 3 (dLst (fsNil)))
  (dSeq (dWhile (dP pNe (osCons (oVar 2) (osCons (oOf (dLst (fsNil))) (osNil))))
  (dDo (dMut 3 mAppend (fsCons (dMut 2 mPopAt (fsCons (dCall "_law_take" 2 (asVar 0 (asExp (dP pLen (osCons (oVar 2) (osNil))) (asNil)))) (fsNil))) (fsNil)))))
  (dRet (dP pTupOf (osCons (oVar 3) (osNil))))))
def c__law_told : Ctx := ⟨["many", "rows", "found", "a", "b", "row"], defScope (topS 29), 2, fns, gis, gss, bls, exs, dks, inis⟩
def b__law_told : DenS := dSeq (dSet 2 (dLst (fsNil)))
  (dSeq (dFor (.nm 3) (iR1 (oVar 0))
  (dFor (.nm 4) (iR1 (oVar 0))
  (dIfS (dAnd (dP pNe (osCons (oVar 3) (osCons (oVar 4) (osNil)))) (dP pAll (osCons (oOf (dLc (.nm 5) (iSeq (oOf (dVar 1))) (dYes) (dP pLt (osCons (oOf (dM "tuple" pTIndex (oVar 5) (osCons (oVar 3) (osNil)))) (osCons (oOf (dM "tuple" pTIndex (oVar 5) (osCons (oVar 4) (osNil)))) (osNil)))) [5])) (osNil))))
  (dDo (dMut 2 mAppend (fsCons (dTup (fsCons (dVar 3) (fsCons (dVar 4) (fsNil)))) (fsNil))))
  (dSkip))))
  (dRet (dP pTupOf (osCons (oVar 2) (osNil)))))
def c__law_apart : Ctx := ⟨["order", "a", "b"], defScope (topS 30), 3, fns, gis, gss, bls, exs, dks, inis⟩
def b__law_apart : DenS := dRet (dAnd (dP pNe (osCons (oVar 1) (osCons (oVar 2) (osNil)))) (dAnd (dP pNin (osCons (oOf (dTup (fsCons (dVar 1) (fsCons (dVar 2) (fsNil))))) (osCons (oOf (dP pIx (osCons (oVar 0) (osCons (oOf (dLit (.int 1))) (osNil))))) (osNil)))) (dP pNin (osCons (oOf (dTup (fsCons (dVar 2) (fsCons (dVar 1) (fsNil))))) (osCons (oOf (dP pIx (osCons (oVar 0) (osCons (oOf (dLit (.int 1))) (osNil))))) (osNil))))))
def c__law_turns : Ctx := ⟨["order", "found", "a", "b"], defScope (topS 31), 1, fns, gis, gss, bls, exs, dks, inis⟩
def b__law_turns : DenS := dSeq (dSet 1 (dLst (fsNil)))
  (dSeq (dFor (.nm 2) (iR1 (oOf (dP pIx (osCons (oVar 0) (osCons (oOf (dLit (.int 0))) (osNil))))))
  (dSet 1 (dP pAdd (osCons (oOf (dVar 1)) (osCons (oOf (dLc (.nm 3) (iR1 (oOf (dP pIx (osCons (oVar 0) (osCons (oOf (dLit (.int 0))) (osNil)))))) (dCall "_law_apart" 3 (asVar 0 (asVar 2 (asVar 3 (asNil))))) (dTup (fsCons (dVar 2) (fsCons (dVar 3) (fsNil)))) [3])) (osNil))))))
  (dRetV 1))
def c__law_rows_all : Ctx := ⟨["order", "found", "turn", "more", "row", "thing", "a", "b"], defScope (topS 32), 1, fns, gis, gss, bls, exs, dks, inis⟩
def b__law_rows_all : DenS := dSeq (dSet 1 (dLst (fsCons (dTup (fsNil)) (fsNil))))
  (dSeq (dFor (.nm 2) (iR1 (oOf (dP pIx (osCons (oVar 0) (osCons (oOf (dLit (.int 0))) (osNil))))))
  (dSeq (dSet 3 (dLst (fsNil)))
  (dSeq (dFor (.nm 4) (iSeq (oOf (dVar 1)))
  (dFor (.nm 5) (iR1 (oOf (dP pIx (osCons (oVar 0) (osCons (oOf (dLit (.int 0))) (osNil))))))
  (dIfS (dAnd (dP pNin (osCons (oVar 5) (osCons (oVar 4) (osNil)))) (dP pAll (osCons (oOf (dLc (.tp [6, 7]) (iSeq (oOf (dP pIx (osCons (oVar 0) (osCons (oOf (dLit (.int 1))) (osNil)))))) (dP pEq (osCons (oVar 7) (osCons (oVar 5) (osNil)))) (dP pIn (osCons (oVar 6) (osCons (oVar 4) (osNil)))) [6, 7])) (osNil))))
  (dDo (dMut 3 mAppend (fsCons (dP pAdd (osCons (oVar 4) (osCons (oOf (dTup (fsCons (dVar 5) (fsNil)))) (osNil)))) (fsNil))))
  (dSkip))))
  (dSet 1 (dVar 3)))))
  (dRetV 1))
def c__law_ways : Ctx := ⟨["order", "rows", "count", "ways", "turn", "later", "left", "row", "rest", "one"], defScope (topS 33), 3, fns, gis, gss, bls, exs, dks, inis⟩
def b__law_ways : DenS := dSeq (dSet 3 (dDispT 1 (oOf (dP pTupOf (osCons (oOf (dCall "_law_turns" 1 (asVar 0 (asNil)))) (osNil))))))
  (dSeq (dFor (.nm 4) (iR1 (oVar 2))
  (dSeq (dSet 5 (dNewD true))
  (dSeq (dForW 6 3 (fun es => dFor (.nm 7) (iSeq (oOf (dVar 1)))
  (dSeq (dSet 8 (dP pTupOf (osCons (oOf (dLc (.nm 9) (iSeq (oOf (dVar 6))) (dP pLt (osCons (oOf (dM "tuple" pTIndex (oVar 7) (osCons (oOf (dP pIx (osCons (oVar 9) (osCons (oOf (dLit (.int 0))) (osNil))))) (osNil)))) (osCons (oOf (dM "tuple" pTIndex (oVar 7) (osCons (oOf (dP pIx (osCons (oVar 9) (osCons (oOf (dLit (.int 1))) (osNil))))) (osNil)))) (osNil)))) (dVar 9) [9])) (osNil)))) (dAddW es 5 8 6))))
  (dMvS 3 5))))
  (dRet (dTGetN 3 (fsCons (dTup (fsNil)) (fsCons (dLit (.int 0)) (fsNil))))))
def c__law_two : Ctx := ⟨["order", "rows", "found", "one", "other"], defScope (topS 34), 2, fns, gis, gss, bls, exs, dks, inis⟩
def b__law_two : DenS := dSeq (dSet 2 (dLit (.int 0)))
  (dSeq (dFor (.nm 3) (iSeq (oOf (dVar 1)))
  (dSet 2 (dP pAdd (osCons (oOf (dVar 2)) (osCons (oOf (dP pLen (osCons (oOf (dLc (.nm 4) (iSeq (oOf (dVar 1))) (dP pEq (osCons (oOf (dCall "_law_told" 2 (asExp (dP pIx (osCons (oVar 0) (osCons (oOf (dLit (.int 0))) (osNil)))) (asExp (dLst (fsCons (dVar 3) (fsCons (dVar 4) (fsNil)))) (asNil))))) (osCons (oOf (dP pIx (osCons (oVar 0) (osCons (oOf (dLit (.int 1))) (osNil))))) (osNil)))) (dVar 4) [4])) (osNil)))) (osNil))))))
  (dRetV 2))
def c_law : Ctx := ⟨["script", "k", "box", "many", "order", "rows", "due", "count", "found", "turn", "row"], defScope (topS 35), 1, fns, gis, gss, bls, exs, dks, inis⟩
def b_law : DenS := dSeq (dFor (.nm 1) (iR1 (oOf (dP pMax (osCons (oOf (dLit (.int 1))) (osCons (oOf (dP pMin (osCons (oOf (dScrLen 0)) (osCons (oOf (dLit (.int 2))) (osNil))))) (osNil))))))
  (dSeq (dSet 2 (dCall "_law_box" 2 (asVar 0 (asVar 1 (asNil)))))
  (dSeq (dSet 3 (dP pAdd (osCons (oOf (dLit (.int 1))) (osCons (oOf (dCall "_law_take" 2 (asVar 2 (asExp (dLit (.int 4)) (asNil))))) (osNil)))))
  (dSeq (dSet 4 (dTup (fsCons (dVar 3) (fsCons (dCall "_law_told" 2 (asVar 3 (asExp (dLc (.nm 9) (iR1 (oOf (dLit (.int 2)))) (dYes) (dCall "_law_shuffled" 2 (asVar 2 (asExp (dListR (iR1 (oVar 3))) (asNil)))) [9]) (asNil)))) (fsNil)))))
  (dSeq (dSet 5 (dCall "_law_rows_all" 1 (asVar 4 (asNil))))
  (dSeq (dSet 6 (dLst (fsCons (dP pLen (osCons (oOf (dLc (.nm 10) (iSeq (oOf (dVar 5))) (dP pEq (osCons (oOf (dCall "_law_told" 2 (asVar 3 (asExp (dLst (fsCons (dVar 10) (fsNil))) (asNil))))) (osCons (oOf (dP pIx (osCons (oVar 4) (osCons (oOf (dLit (.int 1))) (osNil))))) (osNil)))) (dVar 10) [10])) (osNil))) (fsCons (dCall "_law_two" 2 (asVar 4 (asVar 5 (asNil)))) (fsNil)))))
  (dSeq (dIfS (dP pNe (osCons (oOf (dP pIx (osCons (oVar 6) (osCons (oOf (dLit (.int 1))) (osNil))))) (osCons (oOf (dCall "_law_ways" 3 (asVar 4 (asVar 5 (asExp (dLit (.int 2)) (asNil)))))) (osNil))))
  (dRet (dLit (.bool false)))
  (dSkip))
  (dSeq (dDo (dMut 6 mAppend (fsCons (dCall "_law_ways" 3 (asVar 4 (asVar 5 (asExp (dLit (.int 3)) (asNil))))) (fsNil))))
  (dSeq (dIfS (dP pLt (osCons (oOf (dP pLen (osCons (oVar 5) (osNil)))) (osCons (oOf (dLit (.int 7))) (osNil))))
  (dDo (dMut 6 mAppend (fsCons (dCall "_law_ways" 3 (asVar 4 (asVar 5 (asExp (dLit (.int 4)) (asNil))))) (fsNil))))
  (dSkip))
  (dFor (.nm 7) (iR2 (oOf (dLit (.int 1))) (oOf (dP pAdd (osCons (oOf (dP pLen (osCons (oVar 6) (osNil)))) (osCons (oOf (dLit (.int 1))) (osNil))))))
  (dSeq (dSet 8 (dCall "lists_many" 2 (asVar 4 (asVar 7 (asNil)))))
  (dIfS (dOr (dNot (dCall "_law_whole" 1 (asVar 8 (asNil)))) (dP pNe (osCons (oVar 8) (osCons (oOf (dP pIx (osCons (oVar 6) (osCons (oOf (dP pSub (osCons (oVar 7) (osCons (oOf (dLit (.int 1))) (osNil))))) (osNil))))) (osNil)))))
  (dRet (dLit (.bool false)))
  (dSkip)))))))))))))
  (dRet (dLit (.bool true)))
abbrev SXs (Γ : Ctx) (st : List Stmt) (d : DenS) : Prop := SndXs Γ st d
theorem s_is_whole : SndSs c_is_whole (defBody (topS 7)) b_is_whole := @snd_one' _ _ _ (@snd_ret _ _ _ _ _ (@snd_and _ _ _ _ _ _ _ _ _ (@snd_isi _ _ _ _ _ _ _ _ _ (by decide +kernel) boot_int' (@snd_osCons _ _ _ _ _ _ _ _ (@snd_oVar _ _ _ _ rfl (by decide +kernel) (by decide +kernel)) (@snd_osNil _) rfl) rfl (by decide +kernel) (by decide +kernel) (by decide +kernel) (by decide +kernel) (by decide +kernel)) (@snd_one _ _ _ _ _ _ (@snd_not _ _ _ _ _ (@snd_isi _ _ _ _ _ _ _ _ _ (by decide +kernel) boot_bool' (@snd_osCons _ _ _ _ _ _ _ _ (@snd_oVar _ _ _ _ rfl (by decide +kernel) (by decide +kernel)) (@snd_osNil _) rfl) rfl (by decide +kernel) (by decide +kernel) (by decide +kernel) (by decide +kernel) (by decide +kernel))))))
theorem s_is_many : SndSs c_is_many (defBody (topS 8)) b_is_many := @snd_one' _ _ _ (@snd_ret _ _ _ _ _ (@snd_and _ _ _ _ _ _ _ _ _ (@snd_call _ _ _ _ _ _ _ _ (by decide +kernel) (@snd_asVar _ _ _ _ _ _ rfl (by decide +kernel) (by decide +kernel) (@snd_asNil _)) rfl (by decide +kernel) (by decide +kernel)) (@snd_one _ _ _ _ _ _ (@snd_chain _ _ _ _ _ _ _ _ _ _ _ _ _ _ _ _ _ _ ic_le ic_le (@snd_oOf _ _ _ _ (@snd_lit _ _ _ _ _ rfl)) (@snd_oVar _ _ _ _ rfl (by decide +kernel) (by decide +kernel)) (@snd_oOf _ _ _ _ (@snd_gint _ _ _ _ (by decide +kernel) (by decide +kernel) (by decide +kernel))) rfl))))
theorem s_is_pair : SndSs c_is_pair (defBody (topS 9)) b_is_pair := @snd_cons _ _ _ _ _ (@snd_if _ _ _ _ _ _ _ _ _ (@snd_orT _ _ _ _ _ _ _ _ _ (@snd_notT _ _ _ _ _ (@snd_plainT _ _ _ _ (@snd_isi _ _ _ _ _ _ _ _ _ (by decide +kernel) boot_tuple' (@snd_osCons _ _ _ _ _ _ _ _ (@snd_oVar _ _ _ _ rfl (by decide +kernel) (by decide +kernel)) (@snd_osNil _) rfl) rfl (by decide +kernel) (by decide +kernel) (by decide +kernel) (by decide +kernel) (by decide +kernel)) rfl)) (@snd_oneT _ _ _ _ _ _ (@t_ne _ _ _ _ _ _ (@snd_osCons _ _ _ _ _ _ _ _ (@snd_oOf _ _ _ _ (@e_len _ _ _ _ _ _ _ (@snd_osCons _ _ _ _ _ _ _ _ (@snd_oVar _ _ _ _ rfl (by decide +kernel) (by decide +kernel)) (@snd_osNil _) rfl) rfl (by decide +kernel) (by decide +kernel))) (@snd_osCons _ _ _ _ _ _ _ _ (@snd_oOf _ _ _ _ (@snd_lit _ _ _ _ _ rfl)) (@snd_osNil _) rfl) rfl) rfl)))
  (@snd_one' _ _ _ (@snd_ret _ _ _ _ _ (@snd_lit _ _ _ _ _ rfl)))
  (@snd_nil _))
  (@snd_one' _ _ _ (@snd_ret _ _ _ _ _ (@e_all _ _ _ _ _ _ _ (@snd_osCons _ _ _ _ _ _ _ _ (@snd_oOf _ _ _ _ (@snd_lc _ _ _ _ _ _ [("one", 2)] _ _ _ _ _ _ _ _ (@snd_iSeq _ _ _ _ _ _ (@snd_oOf _ _ _ _ (@snd_var _ _ _ _ rfl (by decide +kernel) (by decide +kernel)))) (.nm rfl (by decide +kernel)) rfl (by decide +kernel) (.no) (@snd_and _ _ _ _ _ _ _ _ _ (@snd_call _ _ _ _ _ _ _ _ (by decide +kernel) (@snd_asVar _ _ _ _ _ _ rfl (by decide +kernel) (by decide +kernel) (@snd_asNil _)) rfl (by decide +kernel) (by decide +kernel)) (@snd_one _ _ _ _ _ _ (@snd_chain _ _ _ _ _ _ _ _ _ _ _ _ _ _ _ _ _ _ ic_le ic_lt (@snd_oOf _ _ _ _ (@snd_lit _ _ _ _ _ rfl)) (@snd_oVar _ _ _ _ rfl (by decide +kernel) (by decide +kernel)) (@snd_oVar _ _ _ _ rfl (by decide +kernel) (by decide +kernel)) rfl))) rfl)) (@snd_osNil _) rfl) rfl (by decide +kernel) (by decide +kernel))))
theorem s_follows : SndSs c_follows (defBody (topS 10)) b_follows := @snd_cons _ _ _ _ _ (@snd_for _ _ _ _ _ _ _ _ _ (@snd_iSeq _ _ _ _ _ _ (@snd_oOf _ _ _ _ (@snd_var _ _ _ _ rfl (by decide +kernel) (by decide +kernel)))) (.tp (.cons rfl (by decide +kernel) (.cons rfl (by decide +kernel) (.nil)))) (by decide +kernel)
  (@snd_cons _ _ _ _ _ (@snd_if _ _ _ _ _ _ _ _ _ (@t_eq _ _ _ _ _ _ (@snd_osCons _ _ _ _ _ _ _ _ (@snd_oVar _ _ _ _ rfl (by decide +kernel) (by decide +kernel)) (@snd_osCons _ _ _ _ _ _ _ _ (@snd_oVar _ _ _ _ rfl (by decide +kernel) (by decide +kernel)) (@snd_osNil _) rfl) rfl) rfl)
  (@snd_one' _ _ _ (@snd_ret _ _ _ _ _ (@snd_lit _ _ _ _ _ rfl)))
  (@snd_nil _))
  (@snd_one' _ _ _ (@snd_for _ _ _ _ _ _ _ _ _ (@snd_iSeq _ _ _ _ _ _ (@snd_oOf _ _ _ _ (@snd_var _ _ _ _ rfl (by decide +kernel) (by decide +kernel)))) (.tp (.cons rfl (by decide +kernel) (.cons rfl (by decide +kernel) (.nil)))) (by decide +kernel)
  (@snd_one' _ _ _ (@snd_if _ _ _ _ _ _ _ _ _ (@snd_andT _ _ _ _ _ _ _ _ _ (@t_eq _ _ _ _ _ _ (@snd_osCons _ _ _ _ _ _ _ _ (@snd_oVar _ _ _ _ rfl (by decide +kernel) (by decide +kernel)) (@snd_osCons _ _ _ _ _ _ _ _ (@snd_oVar _ _ _ _ rfl (by decide +kernel) (by decide +kernel)) (@snd_osNil _) rfl) rfl) rfl) (@snd_oneT _ _ _ _ _ _ (@t_nin _ _ _ _ _ _ (@snd_osCons _ _ _ _ _ _ _ _ (@snd_oOf _ _ _ _ (@snd_tup _ _ _ _ _ _ (@snd_fsCons _ _ _ _ _ _ _ (@snd_var _ _ _ _ rfl (by decide +kernel) (by decide +kernel)) (@snd_fsCons _ _ _ _ _ _ _ (@snd_var _ _ _ _ rfl (by decide +kernel) (by decide +kernel)) (@snd_fsNil _))) rfl)) (@snd_osCons _ _ _ _ _ _ _ _ (@snd_oVar _ _ _ _ rfl (by decide +kernel) (by decide +kernel)) (@snd_osNil _) rfl) rfl) rfl)))
  (@snd_one' _ _ _ (@snd_ret _ _ _ _ _ (@snd_lit _ _ _ _ _ rfl)))
  (@snd_nil _))) rfl))) rfl)
  (@snd_one' _ _ _ (@snd_ret _ _ _ _ _ (@snd_lit _ _ _ _ _ rfl)))
theorem s_is_order : SndSs c_is_order (defBody (topS 11)) b_is_order := @snd_cons _ _ _ _ _ (@snd_if _ _ _ _ _ _ _ _ _ (@snd_orT _ _ _ _ _ _ _ _ _ (@snd_notT _ _ _ _ _ (@snd_plainT _ _ _ _ (@snd_isi _ _ _ _ _ _ _ _ _ (by decide +kernel) boot_tuple' (@snd_osCons _ _ _ _ _ _ _ _ (@snd_oVar _ _ _ _ rfl (by decide +kernel) (by decide +kernel)) (@snd_osNil _) rfl) rfl (by decide +kernel) (by decide +kernel) (by decide +kernel) (by decide +kernel) (by decide +kernel)) rfl)) (@snd_orT _ _ _ _ _ _ _ _ _ (@t_ne _ _ _ _ _ _ (@snd_osCons _ _ _ _ _ _ _ _ (@snd_oOf _ _ _ _ (@e_len _ _ _ _ _ _ _ (@snd_osCons _ _ _ _ _ _ _ _ (@snd_oVar _ _ _ _ rfl (by decide +kernel) (by decide +kernel)) (@snd_osNil _) rfl) rfl (by decide +kernel) (by decide +kernel))) (@snd_osCons _ _ _ _ _ _ _ _ (@snd_oOf _ _ _ _ (@snd_lit _ _ _ _ _ rfl)) (@snd_osNil _) rfl) rfl) rfl) (@snd_orT _ _ _ _ _ _ _ _ _ (@snd_notT _ _ _ _ _ (@snd_plainT _ _ _ _ (@snd_call _ _ _ _ _ _ _ _ (by decide +kernel) (@snd_asExp _ _ _ _ _ _ (@e_ix _ _ _ _ _ _ (@snd_osCons _ _ _ _ _ _ _ _ (@snd_oVar _ _ _ _ rfl (by decide +kernel) (by decide +kernel)) (@snd_osCons _ _ _ _ _ _ _ _ (@snd_oOf _ _ _ _ (@snd_lit _ _ _ _ _ rfl)) (@snd_osNil _) rfl) rfl) rfl) (@snd_asNil _)) rfl (by decide +kernel) (by decide +kernel)) rfl)) (@snd_oneT _ _ _ _ _ _ (@snd_notT _ _ _ _ _ (@snd_plainT _ _ _ _ (@snd_isi _ _ _ _ _ _ _ _ _ (by decide +kernel) boot_tuple' (@snd_osCons _ _ _ _ _ _ _ _ (@snd_oOf _ _ _ _ (@e_ix _ _ _ _ _ _ (@snd_osCons _ _ _ _ _ _ _ _ (@snd_oVar _ _ _ _ rfl (by decide +kernel) (by decide +kernel)) (@snd_osCons _ _ _ _ _ _ _ _ (@snd_oOf _ _ _ _ (@snd_lit _ _ _ _ _ rfl)) (@snd_osNil _) rfl) rfl) rfl)) (@snd_osNil _) rfl) rfl (by decide +kernel) (by decide +kernel) (by decide +kernel) (by decide +kernel) (by decide +kernel)) rfl))))))
  (@snd_one' _ _ _ (@snd_ret _ _ _ _ _ (@snd_lit _ _ _ _ _ rfl)))
  (@snd_nil _))
  (@snd_cons _ _ _ _ _ (@snd_unp _ _ _ _ _ _ _ _ _ (.cons rfl (by decide +kernel) (.cons rfl (by decide +kernel) (.nil))) (by decide +kernel) (@snd_var _ _ _ _ rfl (by decide +kernel) (by decide +kernel)) rfl rfl)
  (@snd_cons _ _ _ _ _ (@snd_if _ _ _ _ _ _ _ _ _ (@snd_notT _ _ _ _ _ (@snd_plainT _ _ _ _ (@e_all _ _ _ _ _ _ _ (@snd_osCons _ _ _ _ _ _ _ _ (@snd_oOf _ _ _ _ (@snd_lc _ _ _ _ _ _ [("pair", 3)] _ _ _ _ _ _ _ _ (@snd_iSeq _ _ _ _ _ _ (@snd_oOf _ _ _ _ (@snd_var _ _ _ _ rfl (by decide +kernel) (by decide +kernel)))) (.nm rfl (by decide +kernel)) rfl (by decide +kernel) (.no) (@snd_call _ _ _ _ _ _ _ _ (by decide +kernel) (@snd_asVar _ _ _ _ _ _ rfl (by decide +kernel) (by decide +kernel) (@snd_asVar _ _ _ _ _ _ rfl (by decide +kernel) (by decide +kernel) (@snd_asNil _))) rfl (by decide +kernel) (by decide +kernel)) rfl)) (@snd_osNil _) rfl) rfl (by decide +kernel) (by decide +kernel)) rfl))
  (@snd_one' _ _ _ (@snd_ret _ _ _ _ _ (@snd_lit _ _ _ _ _ rfl)))
  (@snd_nil _))
  (@snd_one' _ _ _ (@snd_ret _ _ _ _ _ (@snd_and _ _ _ _ _ _ _ _ _ (@e_eq _ _ _ _ _ _ (@snd_osCons _ _ _ _ _ _ _ _ (@snd_oOf _ _ _ _ (@e_listOf _ _ _ _ _ _ _ (@snd_osCons _ _ _ _ _ _ _ _ (@snd_oVar _ _ _ _ rfl (by decide +kernel) (by decide +kernel)) (@snd_osNil _) rfl) rfl (by decide +kernel) (by decide +kernel))) (@snd_osCons _ _ _ _ _ _ _ _ (@snd_oOf _ _ _ _ (@snd_sortSet _ _ _ _ _ _ _ _ _ (@snd_oVar _ _ _ _ rfl (by decide +kernel) (by decide +kernel)) rfl (by decide +kernel) (by decide +kernel) (by decide +kernel) (by decide +kernel))) (@snd_osNil _) rfl) rfl) rfl) (@snd_one _ _ _ _ _ _ (@snd_call _ _ _ _ _ _ _ _ (by decide +kernel) (@snd_asVar _ _ _ _ _ _ rfl (by decide +kernel) (by decide +kernel) (@snd_asNil _)) rfl (by decide +kernel) (by decide +kernel))))))))
theorem s_need_order : SndSs c_need_order (defBody (topS 12)) b_need_order := @snd_one' _ _ _ (@snd_if _ _ _ _ _ _ _ _ _ (@snd_notT _ _ _ _ _ (@snd_plainT _ _ _ _ (@snd_call _ _ _ _ _ _ _ _ (by decide +kernel) (@snd_asVar _ _ _ _ _ _ rfl (by decide +kernel) (by decide +kernel) (@snd_asNil _)) rfl (by decide +kernel) (by decide +kernel)) rfl))
  (@snd_one' _ _ _ (@snd_stop _ _))
  (@snd_nil _))
theorem s_are_apart : SndSs c_are_apart (defBody (topS 13)) b_are_apart := @snd_one' _ _ _ (@snd_ret _ _ _ _ _ (@snd_and _ _ _ _ _ _ _ _ _ (@e_ne _ _ _ _ _ _ (@snd_osCons _ _ _ _ _ _ _ _ (@snd_oVar _ _ _ _ rfl (by decide +kernel) (by decide +kernel)) (@snd_osCons _ _ _ _ _ _ _ _ (@snd_oVar _ _ _ _ rfl (by decide +kernel) (by decide +kernel)) (@snd_osNil _) rfl) rfl) rfl) (@snd_and _ _ _ _ _ _ _ _ _ (@e_nin _ _ _ _ _ _ (@snd_osCons _ _ _ _ _ _ _ _ (@snd_oOf _ _ _ _ (@snd_tup _ _ _ _ _ _ (@snd_fsCons _ _ _ _ _ _ _ (@snd_var _ _ _ _ rfl (by decide +kernel) (by decide +kernel)) (@snd_fsCons _ _ _ _ _ _ _ (@snd_var _ _ _ _ rfl (by decide +kernel) (by decide +kernel)) (@snd_fsNil _))) rfl)) (@snd_osCons _ _ _ _ _ _ _ _ (@snd_oOf _ _ _ _ (@e_ix _ _ _ _ _ _ (@snd_osCons _ _ _ _ _ _ _ _ (@snd_oVar _ _ _ _ rfl (by decide +kernel) (by decide +kernel)) (@snd_osCons _ _ _ _ _ _ _ _ (@snd_oOf _ _ _ _ (@snd_lit _ _ _ _ _ rfl)) (@snd_osNil _) rfl) rfl) rfl)) (@snd_osNil _) rfl) rfl) rfl) (@snd_one _ _ _ _ _ _ (@e_nin _ _ _ _ _ _ (@snd_osCons _ _ _ _ _ _ _ _ (@snd_oOf _ _ _ _ (@snd_tup _ _ _ _ _ _ (@snd_fsCons _ _ _ _ _ _ _ (@snd_var _ _ _ _ rfl (by decide +kernel) (by decide +kernel)) (@snd_fsCons _ _ _ _ _ _ _ (@snd_var _ _ _ _ rfl (by decide +kernel) (by decide +kernel)) (@snd_fsNil _))) rfl)) (@snd_osCons _ _ _ _ _ _ _ _ (@snd_oOf _ _ _ _ (@e_ix _ _ _ _ _ _ (@snd_osCons _ _ _ _ _ _ _ _ (@snd_oVar _ _ _ _ rfl (by decide +kernel) (by decide +kernel)) (@snd_osCons _ _ _ _ _ _ _ _ (@snd_oOf _ _ _ _ (@snd_lit _ _ _ _ _ rfl)) (@snd_osNil _) rfl) rfl) rfl)) (@snd_osNil _) rfl) rfl) rfl)))))
theorem s_next_things : SndSs c_next_things (defBody (topS 15)) b_next_things := @snd_cons _ _ _ _ _ (@snd_set _ _ _ _ _ _ _ _ rfl (by decide +kernel) (by decide +kernel) (@snd_lst _ _ _ _ _ (@snd_fsNil _) rfl) rfl)
  (@snd_cons _ _ _ _ _ (@snd_for _ _ _ _ _ _ _ _ _ (@snd_iR1 _ _ _ _ _ _ _ _ (@snd_oOf _ _ _ _ (@e_ix _ _ _ _ _ _ (@snd_osCons _ _ _ _ _ _ _ _ (@snd_oVar _ _ _ _ rfl (by decide +kernel) (by decide +kernel)) (@snd_osCons _ _ _ _ _ _ _ _ (@snd_oOf _ _ _ _ (@snd_lit _ _ _ _ _ rfl)) (@snd_osNil _) rfl) rfl) rfl)) rfl (by decide +kernel) (by decide +kernel)) (.nm rfl (by decide +kernel)) (by decide +kernel)
  (@snd_one' _ _ _ (@snd_if _ _ _ _ _ _ _ _ _ (@snd_andT _ _ _ _ _ _ _ _ _ (@t_nin _ _ _ _ _ _ (@snd_osCons _ _ _ _ _ _ _ _ (@snd_oVar _ _ _ _ rfl (by decide +kernel) (by decide +kernel)) (@snd_osCons _ _ _ _ _ _ _ _ (@snd_oVar _ _ _ _ rfl (by decide +kernel) (by decide +kernel)) (@snd_osNil _) rfl) rfl) rfl) (@snd_oneT _ _ _ _ _ _ (@snd_plainT _ _ _ _ (@e_all _ _ _ _ _ _ _ (@snd_osCons _ _ _ _ _ _ _ _ (@snd_oOf _ _ _ _ (@snd_lc _ _ _ _ _ _ [("a", 4), ("b", 5)] _ _ _ _ _ _ _ _ (@snd_iSeq _ _ _ _ _ _ (@snd_oOf _ _ _ _ (@e_ix _ _ _ _ _ _ (@snd_osCons _ _ _ _ _ _ _ _ (@snd_oVar _ _ _ _ rfl (by decide +kernel) (by decide +kernel)) (@snd_osCons _ _ _ _ _ _ _ _ (@snd_oOf _ _ _ _ (@snd_lit _ _ _ _ _ rfl)) (@snd_osNil _) rfl) rfl) rfl))) (.tp (.cons rfl (by decide +kernel) (.cons rfl (by decide +kernel) (.nil)))) rfl (by decide +kernel) (.one (@t_eq _ _ _ _ _ _ (@snd_osCons _ _ _ _ _ _ _ _ (@snd_oVar _ _ _ _ rfl (by decide +kernel) (by decide +kernel)) (@snd_osCons _ _ _ _ _ _ _ _ (@snd_oVar _ _ _ _ rfl (by decide +kernel) (by decide +kernel)) (@snd_osNil _) rfl) rfl) rfl)) (@e_in _ _ _ _ _ _ (@snd_osCons _ _ _ _ _ _ _ _ (@snd_oVar _ _ _ _ rfl (by decide +kernel) (by decide +kernel)) (@snd_osCons _ _ _ _ _ _ _ _ (@snd_oVar _ _ _ _ rfl (by decide +kernel) (by decide +kernel)) (@snd_osNil _) rfl) rfl) rfl) rfl)) (@snd_osNil _) rfl) rfl (by decide +kernel) (by decide +kernel)) rfl)))
  (@snd_one' _ _ _ (@snd_do _ _ _ _ _ (@u_append _ _ _ _ _ _ _ _ _ rfl (by decide +kernel) (by decide +kernel) (@snd_fsCons _ _ _ _ _ _ _ (@snd_var _ _ _ _ rfl (by decide +kernel) (by decide +kernel)) (@snd_fsNil _)) rfl rfl) rfl))
  (@snd_nil _))) rfl)
  (@snd_one' _ _ _ (@snd_retV _ _ _ _ _ rfl (by decide +kernel) (by decide +kernel) (by decide +kernel))))
theorem s_all_turns : SndSs c_all_turns (defBody (topS 17)) b_all_turns := @snd_cons _ _ _ _ _ (@snd_set _ _ _ _ _ _ _ _ rfl (by decide +kernel) (by decide +kernel) (@snd_lst _ _ _ _ _ (@snd_fsNil _) rfl) rfl)
  (@snd_cons _ _ _ _ _ (@snd_for _ _ _ _ _ _ _ _ _ (@snd_iR1 _ _ _ _ _ _ _ _ (@snd_oOf _ _ _ _ (@e_ix _ _ _ _ _ _ (@snd_osCons _ _ _ _ _ _ _ _ (@snd_oVar _ _ _ _ rfl (by decide +kernel) (by decide +kernel)) (@snd_osCons _ _ _ _ _ _ _ _ (@snd_oOf _ _ _ _ (@snd_lit _ _ _ _ _ rfl)) (@snd_osNil _) rfl) rfl) rfl)) rfl (by decide +kernel) (by decide +kernel)) (.nm rfl (by decide +kernel)) (by decide +kernel)
  (@snd_one' _ _ _ (@snd_do _ _ _ _ _ (@u_extend _ _ _ _ _ _ _ _ _ rfl (by decide +kernel) (by decide +kernel) (@snd_fsCons _ _ _ _ _ _ _ (@snd_lc _ _ _ _ _ _ [("b", 3)] _ _ _ _ _ _ _ _ (@snd_iR1 _ _ _ _ _ _ _ _ (@snd_oOf _ _ _ _ (@e_ix _ _ _ _ _ _ (@snd_osCons _ _ _ _ _ _ _ _ (@snd_oVar _ _ _ _ rfl (by decide +kernel) (by decide +kernel)) (@snd_osCons _ _ _ _ _ _ _ _ (@snd_oOf _ _ _ _ (@snd_lit _ _ _ _ _ rfl)) (@snd_osNil _) rfl) rfl) rfl)) rfl (by decide +kernel) (by decide +kernel)) (.nm rfl (by decide +kernel)) rfl (by decide +kernel) (.one (@snd_plainT _ _ _ _ (@snd_call _ _ _ _ _ _ _ _ (by decide +kernel) (@snd_asVar _ _ _ _ _ _ rfl (by decide +kernel) (by decide +kernel) (@snd_asVar _ _ _ _ _ _ rfl (by decide +kernel) (by decide +kernel) (@snd_asVar _ _ _ _ _ _ rfl (by decide +kernel) (by decide +kernel) (@snd_asNil _)))) rfl (by decide +kernel) (by decide +kernel)) rfl)) (@snd_tup _ _ _ _ _ _ (@snd_fsCons _ _ _ _ _ _ _ (@snd_var _ _ _ _ rfl (by decide +kernel) (by decide +kernel)) (@snd_fsCons _ _ _ _ _ _ _ (@snd_var _ _ _ _ rfl (by decide +kernel) (by decide +kernel)) (@snd_fsNil _))) rfl) rfl) (@snd_fsNil _)) rfl rfl) rfl)) rfl)
  (@snd_one' _ _ _ (@snd_retV _ _ _ _ _ rfl (by decide +kernel) (by decide +kernel) (by decide +kernel))))
theorem s_rows_from : SndSs c_rows_from (defBody (topS 20)) b_rows_from := @snd_cons _ _ _ _ _ (@snd_if _ _ _ _ _ _ _ _ _ (@t_eq _ _ _ _ _ _ (@snd_osCons _ _ _ _ _ _ _ _ (@snd_oOf _ _ _ _ (@e_len _ _ _ _ _ _ _ (@snd_osCons _ _ _ _ _ _ _ _ (@snd_oVar _ _ _ _ rfl (by decide +kernel) (by decide +kernel)) (@snd_osNil _) rfl) rfl (by decide +kernel) (by decide +kernel))) (@snd_osCons _ _ _ _ _ _ _ _ (@snd_oOf _ _ _ _ (@e_ix _ _ _ _ _ _ (@snd_osCons _ _ _ _ _ _ _ _ (@snd_oVar _ _ _ _ rfl (by decide +kernel) (by decide +kernel)) (@snd_osCons _ _ _ _ _ _ _ _ (@snd_oOf _ _ _ _ (@snd_lit _ _ _ _ _ rfl)) (@snd_osNil _) rfl) rfl) rfl)) (@snd_osNil _) rfl) rfl) rfl)
  (@snd_one' _ _ _ (@snd_ret _ _ _ _ _ (@snd_lst _ _ _ _ _ (@snd_fsCons _ _ _ _ _ _ _ (@e_tupOf _ _ _ _ _ _ _ (@snd_osCons _ _ _ _ _ _ _ _ (@snd_oVar _ _ _ _ rfl (by decide +kernel) (by decide +kernel)) (@snd_osNil _) rfl) rfl (by decide +kernel) (by decide +kernel)) (@snd_fsNil _)) rfl)))
  (@snd_nil _))
  (@snd_cons _ _ _ _ _ (@snd_set _ _ _ _ _ _ _ _ rfl (by decide +kernel) (by decide +kernel) (@snd_lst _ _ _ _ _ (@snd_fsNil _) rfl) rfl)
  (@snd_cons _ _ _ _ _ (@snd_for _ _ _ _ _ _ _ _ _ (@snd_iSeq _ _ _ _ _ _ (@snd_oOf _ _ _ _ (@snd_call _ _ _ _ _ _ _ _ (by decide +kernel) (@snd_asVar _ _ _ _ _ _ rfl (by decide +kernel) (by decide +kernel) (@snd_asVar _ _ _ _ _ _ rfl (by decide +kernel) (by decide +kernel) (@snd_asNil _))) rfl (by decide +kernel) (by decide +kernel)))) (.nm rfl (by decide +kernel)) (by decide +kernel)
  (@snd_one' _ _ _ (@snd_do _ _ _ _ _ (@u_extend _ _ _ _ _ _ _ _ _ rfl (by decide +kernel) (by decide +kernel) (@snd_fsCons _ _ _ _ _ _ _ (@snd_call _ _ _ _ _ _ _ _ (by decide +kernel) (@snd_asVar _ _ _ _ _ _ rfl (by decide +kernel) (by decide +kernel) (@snd_asExp _ _ _ _ _ _ (@e_add _ _ _ _ _ _ (@snd_osCons _ _ _ _ _ _ _ _ (@snd_oVar _ _ _ _ rfl (by decide +kernel) (by decide +kernel)) (@snd_osCons _ _ _ _ _ _ _ _ (@snd_oOf _ _ _ _ (@snd_lst _ _ _ _ _ (@snd_fsCons _ _ _ _ _ _ _ (@snd_var _ _ _ _ rfl (by decide +kernel) (by decide +kernel)) (@snd_fsNil _)) rfl)) (@snd_osNil _) rfl) rfl)) (@snd_asNil _))) rfl (by decide +kernel) (by decide +kernel)) (@snd_fsNil _)) rfl rfl) rfl)) rfl)
  (@snd_one' _ _ _ (@snd_retV _ _ _ _ _ rfl (by decide +kernel) (by decide +kernel) (by decide +kernel)))))
theorem s_mark_of : SndSs c_mark_of (defBody (topS 21)) b_mark_of := @snd_cons _ _ _ _ _ (@snd_set _ _ _ _ _ _ _ _ rfl (by decide +kernel) (by decide +kernel) (@snd_lit _ _ _ _ _ rfl) rfl)
  (@snd_cons _ _ _ _ _ (@snd_for _ _ _ _ _ _ _ _ _ (@snd_iSeq _ _ _ _ _ _ (@snd_oOf _ _ _ _ (@snd_var _ _ _ _ rfl (by decide +kernel) (by decide +kernel)))) (.tp (.cons rfl (by decide +kernel) (.cons rfl (by decide +kernel) (.nil)))) (by decide +kernel)
  (@snd_one' _ _ _ (@snd_set _ _ _ _ _ _ _ _ rfl (by decide +kernel) (by decide +kernel) (@e_add _ _ _ _ _ _ (@snd_osCons _ _ _ _ _ _ _ _ (@snd_oOf _ _ _ _ (@e_mul _ _ _ _ _ _ (@snd_osCons _ _ _ _ _ _ _ _ (@snd_oOf _ _ _ _ (@snd_lit _ _ _ _ _ rfl)) (@snd_osCons _ _ _ _ _ _ _ _ (@snd_oVar _ _ _ _ rfl (by decide +kernel) (by decide +kernel)) (@snd_osNil _) rfl) rfl))) (@snd_osCons _ _ _ _ _ _ _ _ (@snd_oOf _ _ _ _ (e_int (@snd_osCons _ _ _ _ _ _ _ _ (@snd_oOf _ _ _ _ (@e_lt _ _ _ _ _ _ (@snd_osCons _ _ _ _ _ _ _ _ (@snd_oOf _ _ _ _ (@e_tindex _ _ _ _ _ _ _ _ _ _ _ (@snd_oVar _ _ _ _ rfl (by decide +kernel) (by decide +kernel)) (@snd_osCons _ _ _ _ _ _ _ _ (@snd_oVar _ _ _ _ rfl (by decide +kernel) (by decide +kernel)) (@snd_osNil _) rfl) rfl rfl (by decide +kernel) rfl rfl)) (@snd_osCons _ _ _ _ _ _ _ _ (@snd_oOf _ _ _ _ (@e_tindex _ _ _ _ _ _ _ _ _ _ _ (@snd_oVar _ _ _ _ rfl (by decide +kernel) (by decide +kernel)) (@snd_osCons _ _ _ _ _ _ _ _ (@snd_oVar _ _ _ _ rfl (by decide +kernel) (by decide +kernel)) (@snd_osNil _) rfl) rfl rfl (by decide +kernel) rfl rfl)) (@snd_osNil _) rfl) rfl) rfl)) (@snd_osNil _) rfl) rfl (by decide +kernel) (by decide +kernel))) (@snd_osNil _) rfl) rfl)) rfl)) rfl)
  (@snd_one' _ _ _ (@snd_retV _ _ _ _ _ rfl (by decide +kernel) (by decide +kernel) (by decide +kernel))))
theorem s_need_few : SndSs c_need_few (defBody (topS 22)) b_need_few := @snd_cons _ _ _ _ _ (@snd_do _ _ _ _ _ (@snd_call _ _ _ _ _ _ _ _ (by decide +kernel) (@snd_asVar _ _ _ _ _ _ rfl (by decide +kernel) (by decide +kernel) (@snd_asNil _)) rfl (by decide +kernel) (by decide +kernel)) rfl)
  (@snd_one' _ _ _ (@snd_if _ _ _ _ _ _ _ _ _ (@t_gt _ _ _ _ _ _ (@snd_osCons _ _ _ _ _ _ _ _ (@snd_oOf _ _ _ _ (@e_ix _ _ _ _ _ _ (@snd_osCons _ _ _ _ _ _ _ _ (@snd_oVar _ _ _ _ rfl (by decide +kernel) (by decide +kernel)) (@snd_osCons _ _ _ _ _ _ _ _ (@snd_oOf _ _ _ _ (@snd_lit _ _ _ _ _ rfl)) (@snd_osNil _) rfl) rfl) rfl)) (@snd_osCons _ _ _ _ _ _ _ _ (@snd_oOf _ _ _ _ (@snd_gint _ _ _ _ (by decide +kernel) (by decide +kernel) (by decide +kernel))) (@snd_osNil _) rfl) rfl) rfl)
  (@snd_one' _ _ _ (@snd_stop _ _))
  (@snd_nil _)))
theorem s_lists_many : SndSs c_lists_many (defBody (topS 23)) b_lists_many := @snd_cons _ _ _ _ _ (@snd_do _ _ _ _ _ (@snd_call _ _ _ _ _ _ _ _ (by decide +kernel) (@snd_asVar _ _ _ _ _ _ rfl (by decide +kernel) (by decide +kernel) (@snd_asNil _)) rfl (by decide +kernel) (by decide +kernel)) rfl)
  (@snd_cons _ _ _ _ _ (@snd_if _ _ _ _ _ _ _ _ _ (@snd_orT _ _ _ _ _ _ _ _ _ (@snd_notT _ _ _ _ _ (@snd_plainT _ _ _ _ (@snd_call _ _ _ _ _ _ _ _ (by decide +kernel) (@snd_asVar _ _ _ _ _ _ rfl (by decide +kernel) (by decide +kernel) (@snd_asNil _)) rfl (by decide +kernel) (by decide +kernel)) rfl)) (@snd_oneT _ _ _ _ _ _ (@snd_notT _ _ _ _ _ (@snd_chainT _ _ _ _ _ _ _ _ _ _ _ _ _ _ _ _ _ _ ic_le ic_le (@snd_oOf _ _ _ _ (@snd_lit _ _ _ _ _ rfl)) (@snd_oVar _ _ _ _ rfl (by decide +kernel) (by decide +kernel)) (@snd_oOf _ _ _ _ (@snd_gint _ _ _ _ (by decide +kernel) (by decide +kernel) (by decide +kernel))) rfl))))
  (@snd_one' _ _ _ (@snd_stop _ _))
  (@snd_nil _))
  (@snd_cons _ _ _ _ _ (@snd_set _ _ _ _ _ _ _ _ rfl (by decide +kernel) (by decide +kernel) (@snd_call _ _ _ _ _ _ _ _ (by decide +kernel) (@snd_asVar _ _ _ _ _ _ rfl (by decide +kernel) (by decide +kernel) (@snd_asNil _)) rfl (by decide +kernel) (by decide +kernel)) rfl)
  (@snd_cons _ _ _ _ _ (@snd_setLc _ _ _ _ _ _ [("row", 9)] _ _ _ _ _ _ _ _ _ _ _ _ rfl (by decide +kernel) (by decide +kernel) (by decide +kernel) (by decide +kernel) (@snd_iSeq _ _ _ _ _ _ (@snd_oOf _ _ _ _ (@snd_call _ _ _ _ _ _ _ _ (by decide +kernel) (@snd_asVar _ _ _ _ _ _ rfl (by decide +kernel) (by decide +kernel) (@snd_asExp _ _ _ _ _ _ (@snd_lst _ _ _ _ _ (@snd_fsNil _) rfl) (@snd_asNil _))) rfl (by decide +kernel) (by decide +kernel)))) (.nm rfl (by decide +kernel)) rfl (by decide +kernel) (.no) (@snd_call _ _ _ _ _ _ _ _ (by decide +kernel) (@snd_asVar _ _ _ _ _ _ rfl (by decide +kernel) (by decide +kernel) (@snd_asVar _ _ _ _ _ _ rfl (by decide +kernel) (by decide +kernel) (@snd_asNil _))) rfl (by decide +kernel) (by decide +kernel)) rfl)
  (@snd_cons _ _ _ _ _ (@snd_set _ _ _ _ _ _ _ _ rfl (by decide +kernel) (by decide +kernel) (@snd_dispI _ _ _ _ _ _ _ _) rfl)
  (@snd_cons _ _ _ _ _ (@snd_for _ _ _ _ _ _ _ _ _ (@snd_iR1 _ _ _ _ _ _ _ _ (@snd_oVar _ _ _ _ rfl (by decide +kernel) (by decide +kernel)) rfl (by decide +kernel) (by decide +kernel)) (.nm rfl (by decide +kernel)) (by decide +kernel)
  (@snd_cons _ _ _ _ _ (@snd_set _ _ _ _ _ _ _ _ rfl (by decide +kernel) (by decide +kernel) (@snd_newD _ _ false) rfl)
  (@snd_cons _ _ _ _ _ (@snd_for _ _ _ _ _ _ _ _ _ (@snd_iDict _ _ _ _ _ _ rfl (by decide +kernel) (by decide +kernel)) (.nm rfl (by decide +kernel)) (by decide +kernel)
  (@snd_one' _ _ _ (@snd_for _ _ _ _ _ _ _ _ _ (@snd_iSeq _ _ _ _ _ _ (@snd_oOf _ _ _ _ (@snd_var _ _ _ _ rfl (by decide +kernel) (by decide +kernel)))) (.nm rfl (by decide +kernel)) (by decide +kernel)
  (@snd_one' _ _ _ (@snd_tput _ _ _ _ _ _ _ _ _ _ _ _ _ rfl (by decide +kernel) (by decide +kernel) (@e_add _ _ _ _ _ _ (@snd_osCons _ _ _ _ _ _ _ _ (@snd_oOf _ _ _ _ (@snd_tgetD _ _ _ _ _ _ _ _ _ _ rfl (by decide +kernel) (by decide +kernel) (@snd_fsCons _ _ _ _ _ _ _ (@e_orI _ _ _ _ _ _ (@snd_osCons _ _ _ _ _ _ _ _ (@snd_oVar _ _ _ _ rfl (by decide +kernel) (by decide +kernel)) (@snd_osCons _ _ _ _ _ _ _ _ (@snd_oVar _ _ _ _ rfl (by decide +kernel) (by decide +kernel)) (@snd_osNil _) rfl) rfl)) (@snd_fsCons _ _ _ _ _ _ _ (@snd_lit _ _ _ _ _ rfl) (@snd_fsNil _))) rfl rfl)) (@snd_osCons _ _ _ _ _ _ _ _ (@snd_oOf _ _ _ _ (@snd_tget _ _ _ _ _ _ _ _ _ rfl (by decide +kernel) (by decide +kernel) (@snd_oVar _ _ _ _ rfl (by decide +kernel) (by decide +kernel)) rfl)) (@snd_osNil _) rfl) rfl)) (@snd_oOf _ _ _ _ (@e_orI _ _ _ _ _ _ (@snd_osCons _ _ _ _ _ _ _ _ (@snd_oVar _ _ _ _ rfl (by decide +kernel) (by decide +kernel)) (@snd_osCons _ _ _ _ _ _ _ _ (@snd_oVar _ _ _ _ rfl (by decide +kernel) (by decide +kernel)) (@snd_osNil _) rfl) rfl))) rfl rfl)) rfl)) rfl)
  (@snd_one' _ _ _ (@snd_mvS _ _ _ _ _ _ _ _ rfl (by decide +kernel) (by decide +kernel) rfl (by decide +kernel) (by decide +kernel) (by decide +kernel))))) rfl)
  (@snd_one' _ _ _ (@snd_ret _ _ _ _ _ (@snd_tgetD _ _ _ _ _ _ _ _ _ _ rfl (by decide +kernel) (by decide +kernel) (@snd_fsCons _ _ _ _ _ _ _ (@e_sub _ _ _ _ _ _ (@snd_osCons _ _ _ _ _ _ _ _ (@snd_oOf _ _ _ _ (@e_shl _ _ _ _ _ _ (@snd_osCons _ _ _ _ _ _ _ _ (@snd_oOf _ _ _ _ (@snd_lit _ _ _ _ _ rfl)) (@snd_osCons _ _ _ _ _ _ _ _ (@snd_oOf _ _ _ _ (@e_len _ _ _ _ _ _ _ (@snd_osCons _ _ _ _ _ _ _ _ (@snd_oVar _ _ _ _ rfl (by decide +kernel) (by decide +kernel)) (@snd_osNil _) rfl) rfl (by decide +kernel) (by decide +kernel))) (@snd_osNil _) rfl) rfl))) (@snd_osCons _ _ _ _ _ _ _ _ (@snd_oOf _ _ _ _ (@snd_lit _ _ _ _ _ rfl)) (@snd_osNil _) rfl) rfl)) (@snd_fsCons _ _ _ _ _ _ _ (@snd_lit _ _ _ _ _ rfl) (@snd_fsNil _))) rfl rfl))))))))
theorem s__law_box : SndSs c__law_box (defBody (topS 25)) b__law_box := @snd_cons _ _ _ _ _ (@snd_set _ _ _ _ _ _ _ _ rfl (by decide +kernel) (by decide +kernel) (@e_add _ _ _ _ _ _ (@snd_osCons _ _ _ _ _ _ _ _ (@snd_oOf _ _ _ _ (@e_mul _ _ _ _ _ _ (@snd_osCons _ _ _ _ _ _ _ _ (@snd_oOf _ _ _ _ (@snd_lit _ _ _ _ _ rfl)) (@snd_osCons _ _ _ _ _ _ _ _ (@snd_oVar _ _ _ _ rfl (by decide +kernel) (by decide +kernel)) (@snd_osNil _) rfl) rfl))) (@snd_osCons _ _ _ _ _ _ _ _ (@snd_oOf _ _ _ _ (@snd_lit _ _ _ _ _ rfl)) (@snd_osNil _) rfl) rfl)) rfl)
  (@snd_cons _ _ _ _ _ (@snd_if _ _ _ _ _ _ _ _ _ (@t_lt _ _ _ _ _ _ (@snd_osCons _ _ _ _ _ _ _ _ (@snd_oVar _ _ _ _ rfl (by decide +kernel) (by decide +kernel)) (@snd_osCons _ _ _ _ _ _ _ _ (@snd_oOf _ _ _ _ (@snd_scrLen _ _ _ _ _ _ rfl (by decide +kernel) (by decide +kernel) (by decide +kernel) (by decide +kernel))) (@snd_osNil _) rfl) rfl) rfl)
  (@snd_one' _ _ _ (@snd_set _ _ _ _ _ _ _ _ rfl (by decide +kernel) (by decide +kernel) (@snd_scrAt _ _ _ _ _ _ _ _ _ rfl (by decide +kernel) (by decide +kernel) (@snd_oVar _ _ _ _ rfl (by decide +kernel) (by decide +kernel)) rfl) rfl))
  (@snd_nil _))
  (@snd_cons _ _ _ _ _ (@snd_if _ _ _ _ _ _ _ _ _ (@t_eq _ _ _ _ _ _ (@snd_osCons _ _ _ _ _ _ _ _ (@snd_oOf _ _ _ _ (@e_mod _ _ _ _ _ _ (@snd_osCons _ _ _ _ _ _ _ _ (@snd_oVar _ _ _ _ rfl (by decide +kernel) (by decide +kernel)) (@snd_osCons _ _ _ _ _ _ _ _ (@snd_oOf _ _ _ _ (@snd_lit _ _ _ _ _ rfl)) (@snd_osNil _) rfl) rfl))) (@snd_osCons _ _ _ _ _ _ _ _ (@snd_oOf _ _ _ _ (@snd_lit _ _ _ _ _ rfl)) (@snd_osNil _) rfl) rfl) rfl)
  (@snd_one' _ _ _ (@snd_ret _ _ _ _ _ (@snd_lst _ _ _ _ _ (@snd_fsCons _ _ _ _ _ _ _ (@e_div _ _ _ _ _ _ (@snd_osCons _ _ _ _ _ _ _ _ (@snd_oVar _ _ _ _ rfl (by decide +kernel) (by decide +kernel)) (@snd_osCons _ _ _ _ _ _ _ _ (@snd_oOf _ _ _ _ (@snd_lit _ _ _ _ _ rfl)) (@snd_osNil _) rfl) rfl)) (@snd_fsNil _)) rfl)))
  (@snd_nil _))
  (@snd_cons _ _ _ _ _ (@snd_set _ _ _ _ _ _ _ _ rfl (by decide +kernel) (by decide +kernel) (@snd_lit _ _ _ _ _ rfl) rfl)
  (@snd_cons _ _ _ _ _ (@snd_for _ _ _ _ _ _ _ _ _ (@snd_iR1 _ _ _ _ _ _ _ _ (@snd_oOf _ _ _ _ (@snd_lit _ _ _ _ _ rfl)) rfl (by decide +kernel) (by decide +kernel)) (.nm rfl (by decide +kernel)) (by decide +kernel)
  (@snd_cons _ _ _ _ _ (@snd_set _ _ _ _ _ _ _ _ rfl (by decide +kernel) (by decide +kernel) (@e_mod _ _ _ _ _ _ (@snd_osCons _ _ _ _ _ _ _ _ (@snd_oOf _ _ _ _ (@e_add _ _ _ _ _ _ (@snd_osCons _ _ _ _ _ _ _ _ (@snd_oOf _ _ _ _ (@e_add _ _ _ _ _ _ (@snd_osCons _ _ _ _ _ _ _ _ (@snd_oOf _ _ _ _ (@e_mul _ _ _ _ _ _ (@snd_osCons _ _ _ _ _ _ _ _ (@snd_oOf _ _ _ _ (@e_mod _ _ _ _ _ _ (@snd_osCons _ _ _ _ _ _ _ _ (@snd_oVar _ _ _ _ rfl (by decide +kernel) (by decide +kernel)) (@snd_osCons _ _ _ _ _ _ _ _ (@snd_oOf _ _ _ _ (@snd_lit _ _ _ _ _ rfl)) (@snd_osNil _) rfl) rfl))) (@snd_osCons _ _ _ _ _ _ _ _ (@snd_oOf _ _ _ _ (@snd_lit _ _ _ _ _ rfl)) (@snd_osNil _) rfl) rfl))) (@snd_osCons _ _ _ _ _ _ _ _ (@snd_oOf _ _ _ _ (@e_mul _ _ _ _ _ _ (@snd_osCons _ _ _ _ _ _ _ _ (@snd_oOf _ _ _ _ (@snd_lit _ _ _ _ _ rfl)) (@snd_osCons _ _ _ _ _ _ _ _ (@snd_oVar _ _ _ _ rfl (by decide +kernel) (by decide +kernel)) (@snd_osNil _) rfl) rfl))) (@snd_osNil _) rfl) rfl))) (@snd_osCons _ _ _ _ _ _ _ _ (@snd_oOf _ _ _ _ (@snd_lit _ _ _ _ _ rfl)) (@snd_osNil _) rfl) rfl))) (@snd_osCons _ _ _ _ _ _ _ _ (@snd_oOf _ _ _ _ (@snd_lit _ _ _ _ _ rfl)) (@snd_osNil _) rfl) rfl)) rfl)
  (@snd_cons _ _ _ _ _ (@snd_set _ _ _ _ _ _ _ _ rfl (by decide +kernel) (by decide +kernel) (@e_mod _ _ _ _ _ _ (@snd_osCons _ _ _ _ _ _ _ _ (@snd_oOf _ _ _ _ (@e_mul _ _ _ _ _ _ (@snd_osCons _ _ _ _ _ _ _ _ (@snd_oVar _ _ _ _ rfl (by decide +kernel) (by decide +kernel)) (@snd_osCons _ _ _ _ _ _ _ _ (@snd_oVar _ _ _ _ rfl (by decide +kernel) (by decide +kernel)) (@snd_osNil _) rfl) rfl))) (@snd_osCons _ _ _ _ _ _ _ _ (@snd_oOf _ _ _ _ (@snd_lit _ _ _ _ _ rfl)) (@snd_osNil _) rfl) rfl)) rfl)
  (@snd_one' _ _ _ (@snd_set _ _ _ _ _ _ _ _ rfl (by decide +kernel) (by decide +kernel) (@e_add _ _ _ _ _ _ (@snd_osCons _ _ _ _ _ _ _ _ (@snd_oOf _ _ _ _ (@e_mul _ _ _ _ _ _ (@snd_osCons _ _ _ _ _ _ _ _ (@snd_oVar _ _ _ _ rfl (by decide +kernel) (by decide +kernel)) (@snd_osCons _ _ _ _ _ _ _ _ (@snd_oOf _ _ _ _ (@snd_lit _ _ _ _ _ rfl)) (@snd_osNil _) rfl) rfl))) (@snd_osCons _ _ _ _ _ _ _ _ (@snd_oOf _ _ _ _ (@e_mod _ _ _ _ _ _ (@snd_osCons _ _ _ _ _ _ _ _ (@snd_oOf _ _ _ _ (@e_mul _ _ _ _ _ _ (@snd_osCons _ _ _ _ _ _ _ _ (@snd_oVar _ _ _ _ rfl (by decide +kernel) (by decide +kernel)) (@snd_osCons _ _ _ _ _ _ _ _ (@snd_oOf _ _ _ _ (@e_add _ _ _ _ _ _ (@snd_osCons _ _ _ _ _ _ _ _ (@snd_oVar _ _ _ _ rfl (by decide +kernel) (by decide +kernel)) (@snd_osCons _ _ _ _ _ _ _ _ (@snd_oOf _ _ _ _ (@snd_lit _ _ _ _ _ rfl)) (@snd_osNil _) rfl) rfl))) (@snd_osNil _) rfl) rfl))) (@snd_osCons _ _ _ _ _ _ _ _ (@snd_oOf _ _ _ _ (@snd_lit _ _ _ _ _ rfl)) (@snd_osNil _) rfl) rfl))) (@snd_osNil _) rfl) rfl)) rfl)))) rfl)
  (@snd_one' _ _ _ (@snd_ret _ _ _ _ _ (@snd_lst _ _ _ _ _ (@snd_fsCons _ _ _ _ _ _ _ (@snd_var _ _ _ _ rfl (by decide +kernel) (by decide +kernel)) (@snd_fsNil _)) rfl)))))))
theorem s__law_take : SndSs c__law_take (defBody (topS 26)) b__law_take := @snd_cons _ _ _ _ _ (@snd_unp _ _ _ _ _ _ _ _ _ (.cons rfl (by decide +kernel) (.cons rfl (by decide +kernel) (.nil))) (by decide +kernel) (@e_dvm _ _ _ _ _ _ _ (@snd_osCons _ _ _ _ _ _ _ _ (@snd_oOf _ _ _ _ (@e_ix _ _ _ _ _ _ (@snd_osCons _ _ _ _ _ _ _ _ (@snd_oVar _ _ _ _ rfl (by decide +kernel) (by decide +kernel)) (@snd_osCons _ _ _ _ _ _ _ _ (@snd_oOf _ _ _ _ (@snd_lit _ _ _ _ _ rfl)) (@snd_osNil _) rfl) rfl) rfl)) (@snd_osCons _ _ _ _ _ _ _ _ (@snd_oVar _ _ _ _ rfl (by decide +kernel) (by decide +kernel)) (@snd_osNil _) rfl) rfl) rfl (by decide +kernel) (by decide +kernel)) rfl rfl)
  (@snd_cons _ _ _ _ _ (@snd_setIx _ _ _ _ _ _ _ _ _ _ _ _ _ rfl (by decide +kernel) (by decide +kernel) (@snd_var _ _ _ _ rfl (by decide +kernel) (by decide +kernel)) (@snd_oOf _ _ _ _ (@snd_lit _ _ _ _ _ rfl)) rfl rfl)
  (@snd_one' _ _ _ (@snd_retV _ _ _ _ _ rfl (by decide +kernel) (by decide +kernel) (by decide +kernel))))
theorem s__law_whole : SndSs c__law_whole (defBody (topS 27)) b__law_whole := @snd_one' _ _ _ (@snd_ret _ _ _ _ _ (@snd_and _ _ _ _ _ _ _ _ _ (@snd_isi _ _ _ _ _ _ _ _ _ (by decide +kernel) boot_int' (@snd_osCons _ _ _ _ _ _ _ _ (@snd_oVar _ _ _ _ rfl (by decide +kernel) (by decide +kernel)) (@snd_osNil _) rfl) rfl (by decide +kernel) (by decide +kernel) (by decide +kernel) (by decide +kernel) (by decide +kernel)) (@snd_one _ _ _ _ _ _ (@snd_not _ _ _ _ _ (@snd_isi _ _ _ _ _ _ _ _ _ (by decide +kernel) boot_bool' (@snd_osCons _ _ _ _ _ _ _ _ (@snd_oVar _ _ _ _ rfl (by decide +kernel) (by decide +kernel)) (@snd_osNil _) rfl) rfl (by decide +kernel) (by decide +kernel) (by decide +kernel) (by decide +kernel) (by decide +kernel))))))
theorem s__law_shuffled : SndSs c__law_shuffled (defBody (topS 28)) b__law_shuffled := @snd_cons _ _ _ _ _ (@snd_set _ _ _ _ _ _ _ _ rfl (by decide +kernel) (by decide +kernel) (@e_listOf _ _ _ _ _ _ _ (@snd_osCons _ _ _ _ _ _ _ _ (@snd_oVar _ _ _ _ rfl (by decide +kernel) (by decide +kernel)) (@snd_osNil _) rfl) rfl (by decide +kernel) (by decide +kernel)) rfl)
  (@snd_cons _ _ _ _ _ (@snd_set _ _ _ _ _ _ _ _ rfl (by decide +kernel) (by decide +kernel) (@snd_lst _ _ _ _ _ (@snd_fsNil _) rfl) rfl)
  (@snd_cons _ _ _ _ _ (@snd_while _ _ _ _ _ _ _ (@t_ne _ _ _ _ _ _ (@snd_osCons _ _ _ _ _ _ _ _ (@snd_oVar _ _ _ _ rfl (by decide +kernel) (by decide +kernel)) (@snd_osCons _ _ _ _ _ _ _ _ (@snd_oOf _ _ _ _ (@snd_lst _ _ _ _ _ (@snd_fsNil _) rfl)) (@snd_osNil _) rfl) rfl) rfl)
  (@snd_one' _ _ _ (@snd_do _ _ _ _ _ (@u_append _ _ _ _ _ _ _ _ _ rfl (by decide +kernel) (by decide +kernel) (@snd_fsCons _ _ _ _ _ _ _ (@u_popAt _ _ _ _ _ _ _ _ _ rfl (by decide +kernel) (by decide +kernel) (@snd_fsCons _ _ _ _ _ _ _ (@snd_call _ _ _ _ _ _ _ _ (by decide +kernel) (@snd_asVar _ _ _ _ _ _ rfl (by decide +kernel) (by decide +kernel) (@snd_asExp _ _ _ _ _ _ (@e_len _ _ _ _ _ _ _ (@snd_osCons _ _ _ _ _ _ _ _ (@snd_oVar _ _ _ _ rfl (by decide +kernel) (by decide +kernel)) (@snd_osNil _) rfl) rfl (by decide +kernel) (by decide +kernel)) (@snd_asNil _))) rfl (by decide +kernel) (by decide +kernel)) (@snd_fsNil _)) rfl rfl) (@snd_fsNil _)) rfl rfl) rfl)))
  (@snd_one' _ _ _ (@snd_ret _ _ _ _ _ (@e_tupOf _ _ _ _ _ _ _ (@snd_osCons _ _ _ _ _ _ _ _ (@snd_oVar _ _ _ _ rfl (by decide +kernel) (by decide +kernel)) (@snd_osNil _) rfl) rfl (by decide +kernel) (by decide +kernel))))))
theorem s__law_told : SndSs c__law_told (defBody (topS 29)) b__law_told := @snd_cons _ _ _ _ _ (@snd_set _ _ _ _ _ _ _ _ rfl (by decide +kernel) (by decide +kernel) (@snd_lst _ _ _ _ _ (@snd_fsNil _) rfl) rfl)
  (@snd_cons _ _ _ _ _ (@snd_for _ _ _ _ _ _ _ _ _ (@snd_iR1 _ _ _ _ _ _ _ _ (@snd_oVar _ _ _ _ rfl (by decide +kernel) (by decide +kernel)) rfl (by decide +kernel) (by decide +kernel)) (.nm rfl (by decide +kernel)) (by decide +kernel)
  (@snd_one' _ _ _ (@snd_for _ _ _ _ _ _ _ _ _ (@snd_iR1 _ _ _ _ _ _ _ _ (@snd_oVar _ _ _ _ rfl (by decide +kernel) (by decide +kernel)) rfl (by decide +kernel) (by decide +kernel)) (.nm rfl (by decide +kernel)) (by decide +kernel)
  (@snd_one' _ _ _ (@snd_if _ _ _ _ _ _ _ _ _ (@snd_andT _ _ _ _ _ _ _ _ _ (@t_ne _ _ _ _ _ _ (@snd_osCons _ _ _ _ _ _ _ _ (@snd_oVar _ _ _ _ rfl (by decide +kernel) (by decide +kernel)) (@snd_osCons _ _ _ _ _ _ _ _ (@snd_oVar _ _ _ _ rfl (by decide +kernel) (by decide +kernel)) (@snd_osNil _) rfl) rfl) rfl) (@snd_oneT _ _ _ _ _ _ (@snd_plainT _ _ _ _ (@e_all _ _ _ _ _ _ _ (@snd_osCons _ _ _ _ _ _ _ _ (@snd_oOf _ _ _ _ (@snd_lc _ _ _ _ _ _ [("row", 5)] _ _ _ _ _ _ _ _ (@snd_iSeq _ _ _ _ _ _ (@snd_oOf _ _ _ _ (@snd_var _ _ _ _ rfl (by decide +kernel) (by decide +kernel)))) (.nm rfl (by decide +kernel)) rfl (by decide +kernel) (.no) (@e_lt _ _ _ _ _ _ (@snd_osCons _ _ _ _ _ _ _ _ (@snd_oOf _ _ _ _ (@e_tindex _ _ _ _ _ _ _ _ _ _ _ (@snd_oVar _ _ _ _ rfl (by decide +kernel) (by decide +kernel)) (@snd_osCons _ _ _ _ _ _ _ _ (@snd_oVar _ _ _ _ rfl (by decide +kernel) (by decide +kernel)) (@snd_osNil _) rfl) rfl rfl (by decide +kernel) rfl rfl)) (@snd_osCons _ _ _ _ _ _ _ _ (@snd_oOf _ _ _ _ (@e_tindex _ _ _ _ _ _ _ _ _ _ _ (@snd_oVar _ _ _ _ rfl (by decide +kernel) (by decide +kernel)) (@snd_osCons _ _ _ _ _ _ _ _ (@snd_oVar _ _ _ _ rfl (by decide +kernel) (by decide +kernel)) (@snd_osNil _) rfl) rfl rfl (by decide +kernel) rfl rfl)) (@snd_osNil _) rfl) rfl) rfl) rfl)) (@snd_osNil _) rfl) rfl (by decide +kernel) (by decide +kernel)) rfl)))
  (@snd_one' _ _ _ (@snd_do _ _ _ _ _ (@u_append _ _ _ _ _ _ _ _ _ rfl (by decide +kernel) (by decide +kernel) (@snd_fsCons _ _ _ _ _ _ _ (@snd_tup _ _ _ _ _ _ (@snd_fsCons _ _ _ _ _ _ _ (@snd_var _ _ _ _ rfl (by decide +kernel) (by decide +kernel)) (@snd_fsCons _ _ _ _ _ _ _ (@snd_var _ _ _ _ rfl (by decide +kernel) (by decide +kernel)) (@snd_fsNil _))) rfl) (@snd_fsNil _)) rfl rfl) rfl))
  (@snd_nil _))) rfl)) rfl)
  (@snd_one' _ _ _ (@snd_ret _ _ _ _ _ (@e_tupOf _ _ _ _ _ _ _ (@snd_osCons _ _ _ _ _ _ _ _ (@snd_oVar _ _ _ _ rfl (by decide +kernel) (by decide +kernel)) (@snd_osNil _) rfl) rfl (by decide +kernel) (by decide +kernel)))))
theorem s__law_apart : SndSs c__law_apart (defBody (topS 30)) b__law_apart := @snd_one' _ _ _ (@snd_ret _ _ _ _ _ (@snd_and _ _ _ _ _ _ _ _ _ (@e_ne _ _ _ _ _ _ (@snd_osCons _ _ _ _ _ _ _ _ (@snd_oVar _ _ _ _ rfl (by decide +kernel) (by decide +kernel)) (@snd_osCons _ _ _ _ _ _ _ _ (@snd_oVar _ _ _ _ rfl (by decide +kernel) (by decide +kernel)) (@snd_osNil _) rfl) rfl) rfl) (@snd_and _ _ _ _ _ _ _ _ _ (@e_nin _ _ _ _ _ _ (@snd_osCons _ _ _ _ _ _ _ _ (@snd_oOf _ _ _ _ (@snd_tup _ _ _ _ _ _ (@snd_fsCons _ _ _ _ _ _ _ (@snd_var _ _ _ _ rfl (by decide +kernel) (by decide +kernel)) (@snd_fsCons _ _ _ _ _ _ _ (@snd_var _ _ _ _ rfl (by decide +kernel) (by decide +kernel)) (@snd_fsNil _))) rfl)) (@snd_osCons _ _ _ _ _ _ _ _ (@snd_oOf _ _ _ _ (@e_ix _ _ _ _ _ _ (@snd_osCons _ _ _ _ _ _ _ _ (@snd_oVar _ _ _ _ rfl (by decide +kernel) (by decide +kernel)) (@snd_osCons _ _ _ _ _ _ _ _ (@snd_oOf _ _ _ _ (@snd_lit _ _ _ _ _ rfl)) (@snd_osNil _) rfl) rfl) rfl)) (@snd_osNil _) rfl) rfl) rfl) (@snd_one _ _ _ _ _ _ (@e_nin _ _ _ _ _ _ (@snd_osCons _ _ _ _ _ _ _ _ (@snd_oOf _ _ _ _ (@snd_tup _ _ _ _ _ _ (@snd_fsCons _ _ _ _ _ _ _ (@snd_var _ _ _ _ rfl (by decide +kernel) (by decide +kernel)) (@snd_fsCons _ _ _ _ _ _ _ (@snd_var _ _ _ _ rfl (by decide +kernel) (by decide +kernel)) (@snd_fsNil _))) rfl)) (@snd_osCons _ _ _ _ _ _ _ _ (@snd_oOf _ _ _ _ (@e_ix _ _ _ _ _ _ (@snd_osCons _ _ _ _ _ _ _ _ (@snd_oVar _ _ _ _ rfl (by decide +kernel) (by decide +kernel)) (@snd_osCons _ _ _ _ _ _ _ _ (@snd_oOf _ _ _ _ (@snd_lit _ _ _ _ _ rfl)) (@snd_osNil _) rfl) rfl) rfl)) (@snd_osNil _) rfl) rfl) rfl)))))
theorem s__law_turns : SndSs c__law_turns (defBody (topS 31)) b__law_turns := @snd_cons _ _ _ _ _ (@snd_set _ _ _ _ _ _ _ _ rfl (by decide +kernel) (by decide +kernel) (@snd_lst _ _ _ _ _ (@snd_fsNil _) rfl) rfl)
  (@snd_cons _ _ _ _ _ (@snd_for _ _ _ _ _ _ _ _ _ (@snd_iR1 _ _ _ _ _ _ _ _ (@snd_oOf _ _ _ _ (@e_ix _ _ _ _ _ _ (@snd_osCons _ _ _ _ _ _ _ _ (@snd_oVar _ _ _ _ rfl (by decide +kernel) (by decide +kernel)) (@snd_osCons _ _ _ _ _ _ _ _ (@snd_oOf _ _ _ _ (@snd_lit _ _ _ _ _ rfl)) (@snd_osNil _) rfl) rfl) rfl)) rfl (by decide +kernel) (by decide +kernel)) (.nm rfl (by decide +kernel)) (by decide +kernel)
  (@snd_one' _ _ _ (@snd_set _ _ _ _ _ _ _ _ rfl (by decide +kernel) (by decide +kernel) (@e_add _ _ _ _ _ _ (@snd_osCons _ _ _ _ _ _ _ _ (@snd_oOf _ _ _ _ (@snd_var _ _ _ _ rfl (by decide +kernel) (by decide +kernel))) (@snd_osCons _ _ _ _ _ _ _ _ (@snd_oOf _ _ _ _ (@snd_lc _ _ _ _ _ _ [("b", 3)] _ _ _ _ _ _ _ _ (@snd_iR1 _ _ _ _ _ _ _ _ (@snd_oOf _ _ _ _ (@e_ix _ _ _ _ _ _ (@snd_osCons _ _ _ _ _ _ _ _ (@snd_oVar _ _ _ _ rfl (by decide +kernel) (by decide +kernel)) (@snd_osCons _ _ _ _ _ _ _ _ (@snd_oOf _ _ _ _ (@snd_lit _ _ _ _ _ rfl)) (@snd_osNil _) rfl) rfl) rfl)) rfl (by decide +kernel) (by decide +kernel)) (.nm rfl (by decide +kernel)) rfl (by decide +kernel) (.one (@snd_plainT _ _ _ _ (@snd_call _ _ _ _ _ _ _ _ (by decide +kernel) (@snd_asVar _ _ _ _ _ _ rfl (by decide +kernel) (by decide +kernel) (@snd_asVar _ _ _ _ _ _ rfl (by decide +kernel) (by decide +kernel) (@snd_asVar _ _ _ _ _ _ rfl (by decide +kernel) (by decide +kernel) (@snd_asNil _)))) rfl (by decide +kernel) (by decide +kernel)) rfl)) (@snd_tup _ _ _ _ _ _ (@snd_fsCons _ _ _ _ _ _ _ (@snd_var _ _ _ _ rfl (by decide +kernel) (by decide +kernel)) (@snd_fsCons _ _ _ _ _ _ _ (@snd_var _ _ _ _ rfl (by decide +kernel) (by decide +kernel)) (@snd_fsNil _))) rfl) rfl)) (@snd_osNil _) rfl) rfl)) rfl)) rfl)
  (@snd_one' _ _ _ (@snd_retV _ _ _ _ _ rfl (by decide +kernel) (by decide +kernel) (by decide +kernel))))
theorem s__law_rows_all : SndSs c__law_rows_all (defBody (topS 32)) b__law_rows_all := @snd_cons _ _ _ _ _ (@snd_set _ _ _ _ _ _ _ _ rfl (by decide +kernel) (by decide +kernel) (@snd_lst _ _ _ _ _ (@snd_fsCons _ _ _ _ _ _ _ (@snd_tup _ _ _ _ _ _ (@snd_fsNil _) rfl) (@snd_fsNil _)) rfl) rfl)
  (@snd_cons _ _ _ _ _ (@snd_for _ _ _ _ _ _ _ _ _ (@snd_iR1 _ _ _ _ _ _ _ _ (@snd_oOf _ _ _ _ (@e_ix _ _ _ _ _ _ (@snd_osCons _ _ _ _ _ _ _ _ (@snd_oVar _ _ _ _ rfl (by decide +kernel) (by decide +kernel)) (@snd_osCons _ _ _ _ _ _ _ _ (@snd_oOf _ _ _ _ (@snd_lit _ _ _ _ _ rfl)) (@snd_osNil _) rfl) rfl) rfl)) rfl (by decide +kernel) (by decide +kernel)) (.nm rfl (by decide +kernel)) (by decide +kernel)
  (@snd_cons _ _ _ _ _ (@snd_set _ _ _ _ _ _ _ _ rfl (by decide +kernel) (by decide +kernel) (@snd_lst _ _ _ _ _ (@snd_fsNil _) rfl) rfl)
  (@snd_cons _ _ _ _ _ (@snd_for _ _ _ _ _ _ _ _ _ (@snd_iSeq _ _ _ _ _ _ (@snd_oOf _ _ _ _ (@snd_var _ _ _ _ rfl (by decide +kernel) (by decide +kernel)))) (.nm rfl (by decide +kernel)) (by decide +kernel)
  (@snd_one' _ _ _ (@snd_for _ _ _ _ _ _ _ _ _ (@snd_iR1 _ _ _ _ _ _ _ _ (@snd_oOf _ _ _ _ (@e_ix _ _ _ _ _ _ (@snd_osCons _ _ _ _ _ _ _ _ (@snd_oVar _ _ _ _ rfl (by decide +kernel) (by decide +kernel)) (@snd_osCons _ _ _ _ _ _ _ _ (@snd_oOf _ _ _ _ (@snd_lit _ _ _ _ _ rfl)) (@snd_osNil _) rfl) rfl) rfl)) rfl (by decide +kernel) (by decide +kernel)) (.nm rfl (by decide +kernel)) (by decide +kernel)
  (@snd_one' _ _ _ (@snd_if _ _ _ _ _ _ _ _ _ (@snd_andT _ _ _ _ _ _ _ _ _ (@t_nin _ _ _ _ _ _ (@snd_osCons _ _ _ _ _ _ _ _ (@snd_oVar _ _ _ _ rfl (by decide +kernel) (by decide +kernel)) (@snd_osCons _ _ _ _ _ _ _ _ (@snd_oVar _ _ _ _ rfl (by decide +kernel) (by decide +kernel)) (@snd_osNil _) rfl) rfl) rfl) (@snd_oneT _ _ _ _ _ _ (@snd_plainT _ _ _ _ (@e_all _ _ _ _ _ _ _ (@snd_osCons _ _ _ _ _ _ _ _ (@snd_oOf _ _ _ _ (@snd_lc _ _ _ _ _ _ [("a", 6), ("b", 7)] _ _ _ _ _ _ _ _ (@snd_iSeq _ _ _ _ _ _ (@snd_oOf _ _ _ _ (@e_ix _ _ _ _ _ _ (@snd_osCons _ _ _ _ _ _ _ _ (@snd_oVar _ _ _ _ rfl (by decide +kernel) (by decide +kernel)) (@snd_osCons _ _ _ _ _ _ _ _ (@snd_oOf _ _ _ _ (@snd_lit _ _ _ _ _ rfl)) (@snd_osNil _) rfl) rfl) rfl))) (.tp (.cons rfl (by decide +kernel) (.cons rfl (by decide +kernel) (.nil)))) rfl (by decide +kernel) (.one (@t_eq _ _ _ _ _ _ (@snd_osCons _ _ _ _ _ _ _ _ (@snd_oVar _ _ _ _ rfl (by decide +kernel) (by decide +kernel)) (@snd_osCons _ _ _ _ _ _ _ _ (@snd_oVar _ _ _ _ rfl (by decide +kernel) (by decide +kernel)) (@snd_osNil _) rfl) rfl) rfl)) (@e_in _ _ _ _ _ _ (@snd_osCons _ _ _ _ _ _ _ _ (@snd_oVar _ _ _ _ rfl (by decide +kernel) (by decide +kernel)) (@snd_osCons _ _ _ _ _ _ _ _ (@snd_oVar _ _ _ _ rfl (by decide +kernel) (by decide +kernel)) (@snd_osNil _) rfl) rfl) rfl) rfl)) (@snd_osNil _) rfl) rfl (by decide +kernel) (by decide +kernel)) rfl)))
  (@snd_one' _ _ _ (@snd_do _ _ _ _ _ (@u_append _ _ _ _ _ _ _ _ _ rfl (by decide +kernel) (by decide +kernel) (@snd_fsCons _ _ _ _ _ _ _ (@e_add _ _ _ _ _ _ (@snd_osCons _ _ _ _ _ _ _ _ (@snd_oVar _ _ _ _ rfl (by decide +kernel) (by decide +kernel)) (@snd_osCons _ _ _ _ _ _ _ _ (@snd_oOf _ _ _ _ (@snd_tup _ _ _ _ _ _ (@snd_fsCons _ _ _ _ _ _ _ (@snd_var _ _ _ _ rfl (by decide +kernel) (by decide +kernel)) (@snd_fsNil _)) rfl)) (@snd_osNil _) rfl) rfl)) (@snd_fsNil _)) rfl rfl) rfl))
  (@snd_nil _))) rfl)) rfl)
  (@snd_one' _ _ _ (@snd_set _ _ _ _ _ _ _ _ rfl (by decide +kernel) (by decide +kernel) (@snd_var _ _ _ _ rfl (by decide +kernel) (by decide +kernel)) rfl)))) rfl)
  (@snd_one' _ _ _ (@snd_retV _ _ _ _ _ rfl (by decide +kernel) (by decide +kernel) (by decide +kernel))))
theorem s__law_ways : SndSs c__law_ways (defBody (topS 33)) b__law_ways := @snd_cons _ _ _ _ _ (@snd_set _ _ _ _ _ _ _ _ rfl (by decide +kernel) (by decide +kernel) (@snd_dispT _ _ _ _ _ _ _ _ (@snd_oOf _ _ _ _ (@e_tupOf _ _ _ _ _ _ _ (@snd_osCons _ _ _ _ _ _ _ _ (@snd_oOf _ _ _ _ (@snd_call _ _ _ _ _ _ _ _ (by decide +kernel) (@snd_asVar _ _ _ _ _ _ rfl (by decide +kernel) (by decide +kernel) (@snd_asNil _)) rfl (by decide +kernel) (by decide +kernel))) (@snd_osNil _) rfl) rfl (by decide +kernel) (by decide +kernel)))) rfl)
  (@snd_cons _ _ _ _ _ (@snd_for _ _ _ _ _ _ _ _ _ (@snd_iR1 _ _ _ _ _ _ _ _ (@snd_oVar _ _ _ _ rfl (by decide +kernel) (by decide +kernel)) rfl (by decide +kernel) (by decide +kernel)) (.nm rfl (by decide +kernel)) (by decide +kernel)
  (@snd_cons _ _ _ _ _ (@snd_set _ _ _ _ _ _ _ _ rfl (by decide +kernel) (by decide +kernel) (@snd_newD _ _ true) rfl)
  (@snd_cons _ _ _ _ _ (@snd_forW _ _ _ _ _ _ _ _ _ _ rfl (by decide +kernel) (by decide +kernel) rfl (by decide +kernel) (by decide +kernel) (by decide +kernel) (fun es => @snd_lastT _ _ _ _ (@snd_forT _ _ _ _ _ _ _ _ _ _ (@snd_iSeq _ _ _ _ _ _ (@snd_oOf _ _ _ _ (@snd_var _ _ _ _ rfl (by decide +kernel) (by decide +kernel)))) (.nm rfl (by decide +kernel)) (by decide +kernel) (@snd_consT _ _ _ _ _ _ (@snd_set _ _ _ _ _ _ _ _ rfl (by decide +kernel) (by decide +kernel) (@e_tupOf _ _ _ _ _ _ _ (@snd_osCons _ _ _ _ _ _ _ _ (@snd_oOf _ _ _ _ (@snd_lc _ _ _ _ _ _ [("one", 9)] _ _ _ _ _ _ _ _ (@snd_iSeq _ _ _ _ _ _ (@snd_oOf _ _ _ _ (@snd_var _ _ _ _ rfl (by decide +kernel) (by decide +kernel)))) (.nm rfl (by decide +kernel)) rfl (by decide +kernel) (.one (@t_lt _ _ _ _ _ _ (@snd_osCons _ _ _ _ _ _ _ _ (@snd_oOf _ _ _ _ (@e_tindex _ _ _ _ _ _ _ _ _ _ _ (@snd_oVar _ _ _ _ rfl (by decide +kernel) (by decide +kernel)) (@snd_osCons _ _ _ _ _ _ _ _ (@snd_oOf _ _ _ _ (@e_ix _ _ _ _ _ _ (@snd_osCons _ _ _ _ _ _ _ _ (@snd_oVar _ _ _ _ rfl (by decide +kernel) (by decide +kernel)) (@snd_osCons _ _ _ _ _ _ _ _ (@snd_oOf _ _ _ _ (@snd_lit _ _ _ _ _ rfl)) (@snd_osNil _) rfl) rfl) rfl)) (@snd_osNil _) rfl) rfl rfl (by decide +kernel) rfl rfl)) (@snd_osCons _ _ _ _ _ _ _ _ (@snd_oOf _ _ _ _ (@e_tindex _ _ _ _ _ _ _ _ _ _ _ (@snd_oVar _ _ _ _ rfl (by decide +kernel) (by decide +kernel)) (@snd_osCons _ _ _ _ _ _ _ _ (@snd_oOf _ _ _ _ (@e_ix _ _ _ _ _ _ (@snd_osCons _ _ _ _ _ _ _ _ (@snd_oVar _ _ _ _ rfl (by decide +kernel) (by decide +kernel)) (@snd_osCons _ _ _ _ _ _ _ _ (@snd_oOf _ _ _ _ (@snd_lit _ _ _ _ _ rfl)) (@snd_osNil _) rfl) rfl) rfl)) (@snd_osNil _) rfl) rfl rfl (by decide +kernel) rfl rfl)) (@snd_osNil _) rfl) rfl) rfl)) (@snd_var _ _ _ _ rfl (by decide +kernel) (by decide +kernel)) rfl)) (@snd_osNil _) rfl) rfl (by decide +kernel) (by decide +kernel)) rfl) (@snd_lastT _ _ _ _ (@snd_addW _ _ _ _ _ _ _ _ _ _ _ _ _ _ _ _ _ _ _ _ _ _ _ _ rfl (by decide +kernel) (by decide +kernel) rfl (by decide +kernel) (by decide +kernel) rfl (by decide +kernel) (by decide +kernel) rfl (by decide +kernel) (by decide +kernel) rfl))) rfl)))
  (@snd_one' _ _ _ (@snd_mvS _ _ _ _ _ _ _ _ rfl (by decide +kernel) (by decide +kernel) rfl (by decide +kernel) (by decide +kernel) (by decide +kernel))))) rfl)
  (@snd_one' _ _ _ (@snd_ret _ _ _ _ _ (@snd_tgetN _ _ _ _ _ _ _ _ _ _ rfl (by decide +kernel) (by decide +kernel) (@snd_fsCons _ _ _ _ _ _ _ (@snd_tup _ _ _ _ _ _ (@snd_fsNil _) rfl) (@snd_fsCons _ _ _ _ _ _ _ (@snd_lit _ _ _ _ _ rfl) (@snd_fsNil _))) rfl rfl))))
theorem s__law_two : SndSs c__law_two (defBody (topS 34)) b__law_two := @snd_cons _ _ _ _ _ (@snd_set _ _ _ _ _ _ _ _ rfl (by decide +kernel) (by decide +kernel) (@snd_lit _ _ _ _ _ rfl) rfl)
  (@snd_cons _ _ _ _ _ (@snd_for _ _ _ _ _ _ _ _ _ (@snd_iSeq _ _ _ _ _ _ (@snd_oOf _ _ _ _ (@snd_var _ _ _ _ rfl (by decide +kernel) (by decide +kernel)))) (.nm rfl (by decide +kernel)) (by decide +kernel)
  (@snd_one' _ _ _ (@snd_set _ _ _ _ _ _ _ _ rfl (by decide +kernel) (by decide +kernel) (@e_add _ _ _ _ _ _ (@snd_osCons _ _ _ _ _ _ _ _ (@snd_oOf _ _ _ _ (@snd_var _ _ _ _ rfl (by decide +kernel) (by decide +kernel))) (@snd_osCons _ _ _ _ _ _ _ _ (@snd_oOf _ _ _ _ (@e_len _ _ _ _ _ _ _ (@snd_osCons _ _ _ _ _ _ _ _ (@snd_oOf _ _ _ _ (@snd_lc _ _ _ _ _ _ [("other", 4)] _ _ _ _ _ _ _ _ (@snd_iSeq _ _ _ _ _ _ (@snd_oOf _ _ _ _ (@snd_var _ _ _ _ rfl (by decide +kernel) (by decide +kernel)))) (.nm rfl (by decide +kernel)) rfl (by decide +kernel) (.one (@t_eq _ _ _ _ _ _ (@snd_osCons _ _ _ _ _ _ _ _ (@snd_oOf _ _ _ _ (@snd_call _ _ _ _ _ _ _ _ (by decide +kernel) (@snd_asExp _ _ _ _ _ _ (@e_ix _ _ _ _ _ _ (@snd_osCons _ _ _ _ _ _ _ _ (@snd_oVar _ _ _ _ rfl (by decide +kernel) (by decide +kernel)) (@snd_osCons _ _ _ _ _ _ _ _ (@snd_oOf _ _ _ _ (@snd_lit _ _ _ _ _ rfl)) (@snd_osNil _) rfl) rfl) rfl) (@snd_asExp _ _ _ _ _ _ (@snd_lst _ _ _ _ _ (@snd_fsCons _ _ _ _ _ _ _ (@snd_var _ _ _ _ rfl (by decide +kernel) (by decide +kernel)) (@snd_fsCons _ _ _ _ _ _ _ (@snd_var _ _ _ _ rfl (by decide +kernel) (by decide +kernel)) (@snd_fsNil _))) rfl) (@snd_asNil _))) rfl (by decide +kernel) (by decide +kernel))) (@snd_osCons _ _ _ _ _ _ _ _ (@snd_oOf _ _ _ _ (@e_ix _ _ _ _ _ _ (@snd_osCons _ _ _ _ _ _ _ _ (@snd_oVar _ _ _ _ rfl (by decide +kernel) (by decide +kernel)) (@snd_osCons _ _ _ _ _ _ _ _ (@snd_oOf _ _ _ _ (@snd_lit _ _ _ _ _ rfl)) (@snd_osNil _) rfl) rfl) rfl)) (@snd_osNil _) rfl) rfl) rfl)) (@snd_var _ _ _ _ rfl (by decide +kernel) (by decide +kernel)) rfl)) (@snd_osNil _) rfl) rfl (by decide +kernel) (by decide +kernel))) (@snd_osNil _) rfl) rfl)) rfl)) rfl)
  (@snd_one' _ _ _ (@snd_retV _ _ _ _ _ rfl (by decide +kernel) (by decide +kernel) (by decide +kernel))))
theorem s_law : SndSs c_law (defBody (topS 35)) b_law := @snd_cons _ _ _ _ _ (@snd_for _ _ _ _ _ _ _ _ _ (@snd_iR1 _ _ _ _ _ _ _ _ (@snd_oOf _ _ _ _ (@e_max _ _ _ _ _ _ _ (@snd_osCons _ _ _ _ _ _ _ _ (@snd_oOf _ _ _ _ (@snd_lit _ _ _ _ _ rfl)) (@snd_osCons _ _ _ _ _ _ _ _ (@snd_oOf _ _ _ _ (@e_min _ _ _ _ _ _ _ (@snd_osCons _ _ _ _ _ _ _ _ (@snd_oOf _ _ _ _ (@snd_scrLen _ _ _ _ _ _ rfl (by decide +kernel) (by decide +kernel) (by decide +kernel) (by decide +kernel))) (@snd_osCons _ _ _ _ _ _ _ _ (@snd_oOf _ _ _ _ (@snd_lit _ _ _ _ _ rfl)) (@snd_osNil _) rfl) rfl) rfl (by decide +kernel) (by decide +kernel))) (@snd_osNil _) rfl) rfl) rfl (by decide +kernel) (by decide +kernel))) rfl (by decide +kernel) (by decide +kernel)) (.nm rfl (by decide +kernel)) (by decide +kernel)
  (@snd_cons _ _ _ _ _ (@snd_set _ _ _ _ _ _ _ _ rfl (by decide +kernel) (by decide +kernel) (@snd_call _ _ _ _ _ _ _ _ (by decide +kernel) (@snd_asVar _ _ _ _ _ _ rfl (by decide +kernel) (by decide +kernel) (@snd_asVar _ _ _ _ _ _ rfl (by decide +kernel) (by decide +kernel) (@snd_asNil _))) rfl (by decide +kernel) (by decide +kernel)) rfl)
  (@snd_cons _ _ _ _ _ (@snd_set _ _ _ _ _ _ _ _ rfl (by decide +kernel) (by decide +kernel) (@e_add _ _ _ _ _ _ (@snd_osCons _ _ _ _ _ _ _ _ (@snd_oOf _ _ _ _ (@snd_lit _ _ _ _ _ rfl)) (@snd_osCons _ _ _ _ _ _ _ _ (@snd_oOf _ _ _ _ (@snd_call _ _ _ _ _ _ _ _ (by decide +kernel) (@snd_asVar _ _ _ _ _ _ rfl (by decide +kernel) (by decide +kernel) (@snd_asExp _ _ _ _ _ _ (@snd_lit _ _ _ _ _ rfl) (@snd_asNil _))) rfl (by decide +kernel) (by decide +kernel))) (@snd_osNil _) rfl) rfl)) rfl)
  (@snd_cons _ _ _ _ _ (@snd_set _ _ _ _ _ _ _ _ rfl (by decide +kernel) (by decide +kernel) (@snd_tup _ _ _ _ _ _ (@snd_fsCons _ _ _ _ _ _ _ (@snd_var _ _ _ _ rfl (by decide +kernel) (by decide +kernel)) (@snd_fsCons _ _ _ _ _ _ _ (@snd_call _ _ _ _ _ _ _ _ (by decide +kernel) (@snd_asVar _ _ _ _ _ _ rfl (by decide +kernel) (by decide +kernel) (@snd_asExp _ _ _ _ _ _ (@snd_lc _ _ _ _ _ _ [("turn", 9)] _ _ _ _ _ _ _ _ (@snd_iR1 _ _ _ _ _ _ _ _ (@snd_oOf _ _ _ _ (@snd_lit _ _ _ _ _ rfl)) rfl (by decide +kernel) (by decide +kernel)) (.nm rfl (by decide +kernel)) rfl (by decide +kernel) (.no) (@snd_call _ _ _ _ _ _ _ _ (by decide +kernel) (@snd_asVar _ _ _ _ _ _ rfl (by decide +kernel) (by decide +kernel) (@snd_asExp _ _ _ _ _ _ (@snd_listR1 _ _ _ _ _ _ _ _ _ (@snd_oVar _ _ _ _ rfl (by decide +kernel) (by decide +kernel)) rfl (by decide +kernel) (by decide +kernel) (by decide +kernel) (by decide +kernel)) (@snd_asNil _))) rfl (by decide +kernel) (by decide +kernel)) rfl) (@snd_asNil _))) rfl (by decide +kernel) (by decide +kernel)) (@snd_fsNil _))) rfl) rfl)
  (@snd_cons _ _ _ _ _ (@snd_set _ _ _ _ _ _ _ _ rfl (by decide +kernel) (by decide +kernel) (@snd_call _ _ _ _ _ _ _ _ (by decide +kernel) (@snd_asVar _ _ _ _ _ _ rfl (by decide +kernel) (by decide +kernel) (@snd_asNil _)) rfl (by decide +kernel) (by decide +kernel)) rfl)
  (@snd_cons _ _ _ _ _ (@snd_set _ _ _ _ _ _ _ _ rfl (by decide +kernel) (by decide +kernel) (@snd_lst _ _ _ _ _ (@snd_fsCons _ _ _ _ _ _ _ (@e_len _ _ _ _ _ _ _ (@snd_osCons _ _ _ _ _ _ _ _ (@snd_oOf _ _ _ _ (@snd_lc _ _ _ _ _ _ [("row", 10)] _ _ _ _ _ _ _ _ (@snd_iSeq _ _ _ _ _ _ (@snd_oOf _ _ _ _ (@snd_var _ _ _ _ rfl (by decide +kernel) (by decide +kernel)))) (.nm rfl (by decide +kernel)) rfl (by decide +kernel) (.one (@t_eq _ _ _ _ _ _ (@snd_osCons _ _ _ _ _ _ _ _ (@snd_oOf _ _ _ _ (@snd_call _ _ _ _ _ _ _ _ (by decide +kernel) (@snd_asVar _ _ _ _ _ _ rfl (by decide +kernel) (by decide +kernel) (@snd_asExp _ _ _ _ _ _ (@snd_lst _ _ _ _ _ (@snd_fsCons _ _ _ _ _ _ _ (@snd_var _ _ _ _ rfl (by decide +kernel) (by decide +kernel)) (@snd_fsNil _)) rfl) (@snd_asNil _))) rfl (by decide +kernel) (by decide +kernel))) (@snd_osCons _ _ _ _ _ _ _ _ (@snd_oOf _ _ _ _ (@e_ix _ _ _ _ _ _ (@snd_osCons _ _ _ _ _ _ _ _ (@snd_oVar _ _ _ _ rfl (by decide +kernel) (by decide +kernel)) (@snd_osCons _ _ _ _ _ _ _ _ (@snd_oOf _ _ _ _ (@snd_lit _ _ _ _ _ rfl)) (@snd_osNil _) rfl) rfl) rfl)) (@snd_osNil _) rfl) rfl) rfl)) (@snd_var _ _ _ _ rfl (by decide +kernel) (by decide +kernel)) rfl)) (@snd_osNil _) rfl) rfl (by decide +kernel) (by decide +kernel)) (@snd_fsCons _ _ _ _ _ _ _ (@snd_call _ _ _ _ _ _ _ _ (by decide +kernel) (@snd_asVar _ _ _ _ _ _ rfl (by decide +kernel) (by decide +kernel) (@snd_asVar _ _ _ _ _ _ rfl (by decide +kernel) (by decide +kernel) (@snd_asNil _))) rfl (by decide +kernel) (by decide +kernel)) (@snd_fsNil _))) rfl) rfl)
  (@snd_cons _ _ _ _ _ (@snd_if _ _ _ _ _ _ _ _ _ (@t_ne _ _ _ _ _ _ (@snd_osCons _ _ _ _ _ _ _ _ (@snd_oOf _ _ _ _ (@e_ix _ _ _ _ _ _ (@snd_osCons _ _ _ _ _ _ _ _ (@snd_oVar _ _ _ _ rfl (by decide +kernel) (by decide +kernel)) (@snd_osCons _ _ _ _ _ _ _ _ (@snd_oOf _ _ _ _ (@snd_lit _ _ _ _ _ rfl)) (@snd_osNil _) rfl) rfl) rfl)) (@snd_osCons _ _ _ _ _ _ _ _ (@snd_oOf _ _ _ _ (@snd_call _ _ _ _ _ _ _ _ (by decide +kernel) (@snd_asVar _ _ _ _ _ _ rfl (by decide +kernel) (by decide +kernel) (@snd_asVar _ _ _ _ _ _ rfl (by decide +kernel) (by decide +kernel) (@snd_asExp _ _ _ _ _ _ (@snd_lit _ _ _ _ _ rfl) (@snd_asNil _)))) rfl (by decide +kernel) (by decide +kernel))) (@snd_osNil _) rfl) rfl) rfl)
  (@snd_one' _ _ _ (@snd_ret _ _ _ _ _ (@snd_lit _ _ _ _ _ rfl)))
  (@snd_nil _))
  (@snd_cons _ _ _ _ _ (@snd_do _ _ _ _ _ (@u_append _ _ _ _ _ _ _ _ _ rfl (by decide +kernel) (by decide +kernel) (@snd_fsCons _ _ _ _ _ _ _ (@snd_call _ _ _ _ _ _ _ _ (by decide +kernel) (@snd_asVar _ _ _ _ _ _ rfl (by decide +kernel) (by decide +kernel) (@snd_asVar _ _ _ _ _ _ rfl (by decide +kernel) (by decide +kernel) (@snd_asExp _ _ _ _ _ _ (@snd_lit _ _ _ _ _ rfl) (@snd_asNil _)))) rfl (by decide +kernel) (by decide +kernel)) (@snd_fsNil _)) rfl rfl) rfl)
  (@snd_cons _ _ _ _ _ (@snd_if _ _ _ _ _ _ _ _ _ (@t_lt _ _ _ _ _ _ (@snd_osCons _ _ _ _ _ _ _ _ (@snd_oOf _ _ _ _ (@e_len _ _ _ _ _ _ _ (@snd_osCons _ _ _ _ _ _ _ _ (@snd_oVar _ _ _ _ rfl (by decide +kernel) (by decide +kernel)) (@snd_osNil _) rfl) rfl (by decide +kernel) (by decide +kernel))) (@snd_osCons _ _ _ _ _ _ _ _ (@snd_oOf _ _ _ _ (@snd_lit _ _ _ _ _ rfl)) (@snd_osNil _) rfl) rfl) rfl)
  (@snd_one' _ _ _ (@snd_do _ _ _ _ _ (@u_append _ _ _ _ _ _ _ _ _ rfl (by decide +kernel) (by decide +kernel) (@snd_fsCons _ _ _ _ _ _ _ (@snd_call _ _ _ _ _ _ _ _ (by decide +kernel) (@snd_asVar _ _ _ _ _ _ rfl (by decide +kernel) (by decide +kernel) (@snd_asVar _ _ _ _ _ _ rfl (by decide +kernel) (by decide +kernel) (@snd_asExp _ _ _ _ _ _ (@snd_lit _ _ _ _ _ rfl) (@snd_asNil _)))) rfl (by decide +kernel) (by decide +kernel)) (@snd_fsNil _)) rfl rfl) rfl))
  (@snd_nil _))
  (@snd_one' _ _ _ (@snd_for _ _ _ _ _ _ _ _ _ (@snd_iR2 _ _ _ _ _ _ _ _ _ _ _ _ (@snd_oOf _ _ _ _ (@snd_lit _ _ _ _ _ rfl)) (@snd_oOf _ _ _ _ (@e_add _ _ _ _ _ _ (@snd_osCons _ _ _ _ _ _ _ _ (@snd_oOf _ _ _ _ (@e_len _ _ _ _ _ _ _ (@snd_osCons _ _ _ _ _ _ _ _ (@snd_oVar _ _ _ _ rfl (by decide +kernel) (by decide +kernel)) (@snd_osNil _) rfl) rfl (by decide +kernel) (by decide +kernel))) (@snd_osCons _ _ _ _ _ _ _ _ (@snd_oOf _ _ _ _ (@snd_lit _ _ _ _ _ rfl)) (@snd_osNil _) rfl) rfl))) rfl rfl (by decide +kernel) (by decide +kernel)) (.nm rfl (by decide +kernel)) (by decide +kernel)
  (@snd_cons _ _ _ _ _ (@snd_set _ _ _ _ _ _ _ _ rfl (by decide +kernel) (by decide +kernel) (@snd_call _ _ _ _ _ _ _ _ (by decide +kernel) (@snd_asVar _ _ _ _ _ _ rfl (by decide +kernel) (by decide +kernel) (@snd_asVar _ _ _ _ _ _ rfl (by decide +kernel) (by decide +kernel) (@snd_asNil _))) rfl (by decide +kernel) (by decide +kernel)) rfl)
  (@snd_one' _ _ _ (@snd_if _ _ _ _ _ _ _ _ _ (@snd_orT _ _ _ _ _ _ _ _ _ (@snd_notT _ _ _ _ _ (@snd_plainT _ _ _ _ (@snd_call _ _ _ _ _ _ _ _ (by decide +kernel) (@snd_asVar _ _ _ _ _ _ rfl (by decide +kernel) (by decide +kernel) (@snd_asNil _)) rfl (by decide +kernel) (by decide +kernel)) rfl)) (@snd_oneT _ _ _ _ _ _ (@t_ne _ _ _ _ _ _ (@snd_osCons _ _ _ _ _ _ _ _ (@snd_oVar _ _ _ _ rfl (by decide +kernel) (by decide +kernel)) (@snd_osCons _ _ _ _ _ _ _ _ (@snd_oOf _ _ _ _ (@e_ix _ _ _ _ _ _ (@snd_osCons _ _ _ _ _ _ _ _ (@snd_oVar _ _ _ _ rfl (by decide +kernel) (by decide +kernel)) (@snd_osCons _ _ _ _ _ _ _ _ (@snd_oOf _ _ _ _ (@e_sub _ _ _ _ _ _ (@snd_osCons _ _ _ _ _ _ _ _ (@snd_oVar _ _ _ _ rfl (by decide +kernel) (by decide +kernel)) (@snd_osCons _ _ _ _ _ _ _ _ (@snd_oOf _ _ _ _ (@snd_lit _ _ _ _ _ rfl)) (@snd_osNil _) rfl) rfl))) (@snd_osNil _) rfl) rfl) rfl)) (@snd_osNil _) rfl) rfl) rfl)))
  (@snd_one' _ _ _ (@snd_ret _ _ _ _ _ (@snd_lit _ _ _ _ _ rfl)))
  (@snd_nil _)))) rfl)))))))))) rfl)
  (@snd_one' _ _ _ (@snd_ret _ _ _ _ _ (@snd_lit _ _ _ _ _ rfl)))
def d_is_whole : DefI := ⟨"is_whole", topS 7, ["thing"], ["thing"], b_is_whole⟩
theorem sc_is_whole : FnScope d_is_whole.N d_is_whole.ps (defScope (topS 7)) := ⟨rfl, rfl, rfl, by decide +kernel, rfl, by decide +kernel, by decide +kernel⟩
def d_is_many : DefI := ⟨"is_many", topS 8, ["thing"], ["thing"], b_is_many⟩
theorem sc_is_many : FnScope d_is_many.N d_is_many.ps (defScope (topS 8)) := ⟨rfl, rfl, rfl, by decide +kernel, rfl, by decide +kernel, by decide +kernel⟩
def d_is_pair : DefI := ⟨"is_pair", topS 9, ["many", "thing"], ["many", "thing", "one"], b_is_pair⟩
theorem sc_is_pair : FnScope d_is_pair.N d_is_pair.ps (defScope (topS 9)) := ⟨rfl, rfl, rfl, by decide +kernel, rfl, by decide +kernel, by decide +kernel⟩
def d_follows : DefI := ⟨"follows", topS 10, ["pairs"], ["pairs", "a", "b", "c", "d"], b_follows⟩
theorem sc_follows : FnScope d_follows.N d_follows.ps (defScope (topS 10)) := ⟨rfl, rfl, rfl, by decide +kernel, rfl, by decide +kernel, by decide +kernel⟩
def d_is_order : DefI := ⟨"is_order", topS 11, ["thing"], ["thing", "many", "pairs", "pair"], b_is_order⟩
theorem sc_is_order : FnScope d_is_order.N d_is_order.ps (defScope (topS 11)) := ⟨rfl, rfl, rfl, by decide +kernel, rfl, by decide +kernel, by decide +kernel⟩
def d_need_order : DefI := ⟨"need_order", topS 12, ["order"], ["order"], b_need_order⟩
theorem sc_need_order : FnScope d_need_order.N d_need_order.ps (defScope (topS 12)) := ⟨rfl, rfl, rfl, by decide +kernel, rfl, by decide +kernel, by decide +kernel⟩
def d_are_apart : DefI := ⟨"are_apart", topS 13, ["order", "a", "b"], ["order", "a", "b"], b_are_apart⟩
theorem sc_are_apart : FnScope d_are_apart.N d_are_apart.ps (defScope (topS 13)) := ⟨rfl, rfl, rfl, by decide +kernel, rfl, by decide +kernel, by decide +kernel⟩
def d_next_things : DefI := ⟨"next_things", topS 15, ["order", "gone"], ["order", "gone", "free", "thing", "a", "b"], b_next_things⟩
theorem sc_next_things : FnScope d_next_things.N d_next_things.ps (defScope (topS 15)) := ⟨rfl, rfl, rfl, by decide +kernel, rfl, by decide +kernel, by decide +kernel⟩
def d_all_turns : DefI := ⟨"all_turns", topS 17, ["order"], ["order", "found", "a", "b"], b_all_turns⟩
theorem sc_all_turns : FnScope d_all_turns.N d_all_turns.ps (defScope (topS 17)) := ⟨rfl, rfl, rfl, by decide +kernel, rfl, by decide +kernel, by decide +kernel⟩
def d_rows_from : DefI := ⟨"rows_from", topS 20, ["order", "row"], ["order", "row", "found", "thing"], b_rows_from⟩
theorem sc_rows_from : FnScope d_rows_from.N d_rows_from.ps (defScope (topS 20)) := ⟨rfl, rfl, rfl, by decide +kernel, rfl, by decide +kernel, by decide +kernel⟩
def d_mark_of : DefI := ⟨"mark_of", topS 21, ["row", "some"], ["row", "some", "found", "a", "b"], b_mark_of⟩
theorem sc_mark_of : FnScope d_mark_of.N d_mark_of.ps (defScope (topS 21)) := ⟨rfl, rfl, rfl, by decide +kernel, rfl, by decide +kernel, by decide +kernel⟩
def d_need_few : DefI := ⟨"need_few", topS 22, ["order"], ["order"], b_need_few⟩
theorem sc_need_few : FnScope d_need_few.N d_need_few.ps (defScope (topS 22)) := ⟨rfl, rfl, rfl, by decide +kernel, rfl, by decide +kernel, by decide +kernel⟩
def d_lists_many : DefI := ⟨"lists_many", topS 23, ["order", "count"], ["order", "count", "some", "marks", "ways", "turn", "later", "done", "mark", "row"], b_lists_many⟩
theorem sc_lists_many : FnScope d_lists_many.N d_lists_many.ps (defScope (topS 23)) := ⟨rfl, rfl, rfl, by decide +kernel, rfl, by decide +kernel, by decide +kernel⟩
def d__law_box : DefI := ⟨"_law_box", topS 25, ["script", "k"], ["script", "k", "here", "number", "j", "part"], b__law_box⟩
theorem sc__law_box : FnScope d__law_box.N d__law_box.ps (defScope (topS 25)) := ⟨rfl, rfl, rfl, by decide +kernel, rfl, by decide +kernel, by decide +kernel⟩
def d__law_take : DefI := ⟨"_law_take", topS 26, ["box", "many"], ["box", "many", "left", "digit"], b__law_take⟩
theorem sc__law_take : FnScope d__law_take.N d__law_take.ps (defScope (topS 26)) := ⟨rfl, rfl, rfl, by decide +kernel, rfl, by decide +kernel, by decide +kernel⟩
def d__law_whole : DefI := ⟨"_law_whole", topS 27, ["thing"], ["thing"], b__law_whole⟩
theorem sc__law_whole : FnScope d__law_whole.N d__law_whole.ps (defScope (topS 27)) := ⟨rfl, rfl, rfl, by decide +kernel, rfl, by decide +kernel, by decide +kernel⟩
def d__law_shuffled : DefI := ⟨"_law_shuffled", topS 28, ["box", "some"], ["box", "some", "left", "found"], b__law_shuffled⟩
theorem sc__law_shuffled : FnScope d__law_shuffled.N d__law_shuffled.ps (defScope (topS 28)) := ⟨rfl, rfl, rfl, by decide +kernel, rfl, by decide +kernel, by decide +kernel⟩
def d__law_told : DefI := ⟨"_law_told", topS 29, ["many", "rows"], ["many", "rows", "found", "a", "b", "row"], b__law_told⟩
theorem sc__law_told : FnScope d__law_told.N d__law_told.ps (defScope (topS 29)) := ⟨rfl, rfl, rfl, by decide +kernel, rfl, by decide +kernel, by decide +kernel⟩
def d__law_apart : DefI := ⟨"_law_apart", topS 30, ["order", "a", "b"], ["order", "a", "b"], b__law_apart⟩
theorem sc__law_apart : FnScope d__law_apart.N d__law_apart.ps (defScope (topS 30)) := ⟨rfl, rfl, rfl, by decide +kernel, rfl, by decide +kernel, by decide +kernel⟩
def d__law_turns : DefI := ⟨"_law_turns", topS 31, ["order"], ["order", "found", "a", "b"], b__law_turns⟩
theorem sc__law_turns : FnScope d__law_turns.N d__law_turns.ps (defScope (topS 31)) := ⟨rfl, rfl, rfl, by decide +kernel, rfl, by decide +kernel, by decide +kernel⟩
def d__law_rows_all : DefI := ⟨"_law_rows_all", topS 32, ["order"], ["order", "found", "turn", "more", "row", "thing", "a", "b"], b__law_rows_all⟩
theorem sc__law_rows_all : FnScope d__law_rows_all.N d__law_rows_all.ps (defScope (topS 32)) := ⟨rfl, rfl, rfl, by decide +kernel, rfl, by decide +kernel, by decide +kernel⟩
def d__law_ways : DefI := ⟨"_law_ways", topS 33, ["order", "rows", "count"], ["order", "rows", "count", "ways", "turn", "later", "left", "row", "rest", "one"], b__law_ways⟩
theorem sc__law_ways : FnScope d__law_ways.N d__law_ways.ps (defScope (topS 33)) := ⟨rfl, rfl, rfl, by decide +kernel, rfl, by decide +kernel, by decide +kernel⟩
def d__law_two : DefI := ⟨"_law_two", topS 34, ["order", "rows"], ["order", "rows", "found", "one", "other"], b__law_two⟩
theorem sc__law_two : FnScope d__law_two.N d__law_two.ps (defScope (topS 34)) := ⟨rfl, rfl, rfl, by decide +kernel, rfl, by decide +kernel, by decide +kernel⟩
def d_law : DefI := ⟨"law", topS 35, ["script"], ["script", "k", "box", "many", "order", "rows", "due", "count", "found", "turn", "row"], b_law⟩
theorem sc_law : FnScope d_law.N d_law.ps (defScope (topS 35)) := ⟨rfl, rfl, rfl, by decide +kernel, rfl, by decide +kernel, by decide +kernel⟩
def tx : Tx := ⟨[d_is_whole, d_is_many, d_is_pair, d_follows, d_is_order, d_need_order, d_are_apart, d_next_things, d_all_turns, d_rows_from, d_mark_of, d_need_few, d_lists_many, d__law_box, d__law_take, d__law_whole, d__law_shuffled, d__law_told, d__law_apart, d__law_turns, d__law_rows_all, d__law_ways, d__law_two, d_law], gis, gss, bls, exs, [], inis⟩
theorem tx_ok : tx.Ok where
  sc := fun d hd => by
    simp only [tx, List.mem_cons, List.not_mem_nil, or_false] at hd
    rcases hd with rfl | rfl | rfl | rfl | rfl | rfl | rfl | rfl | rfl | rfl | rfl | rfl | rfl | rfl | rfl | rfl | rfl | rfl | rfl | rfl | rfl | rfl | rfl | rfl
    · exact @sc_is_whole
    · exact @sc_is_many
    · exact @sc_is_pair
    · exact @sc_follows
    · exact @sc_is_order
    · exact @sc_need_order
    · exact @sc_are_apart
    · exact @sc_next_things
    · exact @sc_all_turns
    · exact @sc_rows_from
    · exact @sc_mark_of
    · exact @sc_need_few
    · exact @sc_lists_many
    · exact @sc__law_box
    · exact @sc__law_take
    · exact @sc__law_whole
    · exact @sc__law_shuffled
    · exact @sc__law_told
    · exact @sc__law_apart
    · exact @sc__law_turns
    · exact @sc__law_rows_all
    · exact @sc__law_ways
    · exact @sc__law_two
    · exact @sc_law
  snd := fun d hd => by
    simp only [tx, List.mem_cons, List.not_mem_nil, or_false] at hd
    rcases hd with rfl | rfl | rfl | rfl | rfl | rfl | rfl | rfl | rfl | rfl | rfl | rfl | rfl | rfl | rfl | rfl | rfl | rfl | rfl | rfl | rfl | rfl | rfl | rfl
    · exact @s_is_whole
    · exact @s_is_many
    · exact @s_is_pair
    · exact @s_follows
    · exact @s_is_order
    · exact @s_need_order
    · exact @s_are_apart
    · exact @s_next_things
    · exact @s_all_turns
    · exact @s_rows_from
    · exact @s_mark_of
    · exact @s_need_few
    · exact @s_lists_many
    · exact @s__law_box
    · exact @s__law_take
    · exact @s__law_whole
    · exact @s__law_shuffled
    · exact @s__law_told
    · exact @s__law_apart
    · exact @s__law_turns
    · exact @s__law_rows_all
    · exact @s__law_ways
    · exact @s__law_two
    · exact @s_law
  uniq := fun d hd => by
    simp only [tx, List.mem_cons, List.not_mem_nil, or_false] at hd
    rcases hd with rfl | rfl | rfl | rfl | rfl | rfl | rfl | rfl | rfl | rfl | rfl | rfl | rfl | rfl | rfl | rfl | rfl | rfl | rfl | rfl | rfl | rfl | rfl | rfl
    · rfl
    · rfl
    · rfl
    · rfl
    · rfl
    · rfl
    · rfl
    · rfl
    · rfl
    · rfl
    · rfl
    · rfl
    · rfl
    · rfl
    · rfl
    · rfl
    · rfl
    · rfl
    · rfl
    · rfl
    · rfl
    · rfl
    · rfl
    · rfl
  scX := fun d hd => by
    exact absurd hd (by simp [tx])
  sndX := fun d hd => by
    exact absurd hd (by simp [tx])
  uniqX := fun d hd => by
    exact absurd hd (by simp [tx])
def kLaw (K : PySem.W.Frag) : Sp := fun vs H Q _ => ∃ (a : Addr) (ns : List Int), vs = [.ref a] ∧ SqL K H a (ns.map V.int) ∧ ns.length ≤ 63 ∧ ∀ H', Q (.bl true) H'
theorem same_fd {K : PySem.W.Frag} {x q : Str} {st : Stmt} {f : Addr} {fd fd' : FuncData} (a : Fun K x q st f fd) (b : Fun K x q st f fd') : fd = fd' := by
  obtain ⟨_, _, _, _, _, _, _, _, _, e1, l1, _⟩ := a.ex
  obtain ⟨_, _, _, _, _, _, _, _, _, e2, l2, _⟩ := b.ex
  rw [l1] at l2
  cases l2
  rfl
theorem all_mk {l : PySem.W.OpenLaw} {w : World} {K : PySem.W.Frag} {h : Heap} {mg : Str → Option Value} {fa f0 f1 f2 f3 f4 f5 f6 f7 f8 f9 f10 f11 f12 f13 f14 f15 f16 f17 f18 f19 f20 f21 f22 f23 : Addr} (X : K.In h) (G : h.Ns mainGlobals mg) (hfa : mg "law" = some (.ref fa))
    {od0 an0 od1 an1 od2 an2 od3 an3 od4 an4 od5 an5 od6 an6 od7 an7 od8 an8 od9 an9 od10 an10 od11 an11 od12 an12 od13 an13 od14 an14 od15 an15 od16 an16 od17 an17 od18 an18 od19 an19 od20 an20 od21 an21 od22 an22 od23 an23 : Option Addr} {sl0 sl1 sl2 sl3 sl4 sl5 sl6 sl7 sl8 sl9 sl10 sl11 sl12 sl13 sl14 sl15 sl16 sl17 sl18 sl19 sl20 sl21 sl22 sl23 : Array (Option Value)}
    {oc0 kV0 dc0 pm0 cd0 ct0 oc1 kV1 dc1 pm1 cd1 ct1 oc2 kV2 dc2 pm2 cd2 ct2 oc3 kV3 dc3 pm3 cd3 ct3 oc4 kV4 dc4 pm4 cd4 ct4 oc5 kV5 dc5 pm5 cd5 ct5 oc6 kV6 dc6 pm6 cd6 ct6 oc7 kV7 dc7 pm7 cd7 ct7 oc8 kV8 dc8 pm8 cd8 ct8 oc9 kV9 dc9 pm9 cd9 ct9 oc10 kV10 dc10 pm10 cd10 ct10 oc11 kV11 dc11 pm11 cd11 ct11 oc12 kV12 dc12 pm12 cd12 ct12 oc13 kV13 dc13 pm13 cd13 ct13 oc14 kV14 dc14 pm14 cd14 ct14 oc15 kV15 dc15 pm15 cd15 ct15 oc16 kV16 dc16 pm16 cd16 ct16 oc17 kV17 dc17 pm17 cd17 ct17 oc18 kV18 dc18 pm18 cd18 ct18 oc19 kV19 dc19 pm19 cd19 ct19 oc20 kV20 dc20 pm20 cd20 ct20 oc21 kV21 dc21 pm21 cd21 ct21 oc22 kV22 dc22 pm22 cd22 ct22 oc23 kV23 dc23 pm23 cd23 ct23 : Value}
    {t0 t1 : Tok}
    (a0 : PySem.W.nsIn K mainGlobals "is_whole" = some (some (.ref f0))) (l0 : K.lookup f0 = some ⟨oc0, od0, .func (PySem.W.fnOf "is_whole" "is_whole" (defArgs (topS 7)) (defBody (topS 7)) (defScope (topS 7)) .none kV0 dc0 pm0 an0 cd0 ct0), sl0⟩) (c0 : PySem.W.codeIn K cd0 "is_whole" = true) (k0 : PySem.W.keepIn K (.ref f0) = true)
    (a1 : PySem.W.nsIn K mainGlobals "is_many" = some (some (.ref f1))) (l1 : K.lookup f1 = some ⟨oc1, od1, .func (PySem.W.fnOf "is_many" "is_many" (defArgs (topS 8)) (defBody (topS 8)) (defScope (topS 8)) .none kV1 dc1 pm1 an1 cd1 ct1), sl1⟩) (c1 : PySem.W.codeIn K cd1 "is_many" = true) (k1 : PySem.W.keepIn K (.ref f1) = true)
    (a2 : PySem.W.nsIn K mainGlobals "is_pair" = some (some (.ref f2))) (l2 : K.lookup f2 = some ⟨oc2, od2, .func (PySem.W.fnOf "is_pair" "is_pair" (defArgs (topS 9)) (defBody (topS 9)) (defScope (topS 9)) .none kV2 dc2 pm2 an2 cd2 ct2), sl2⟩) (c2 : PySem.W.codeIn K cd2 "is_pair" = true) (k2 : PySem.W.keepIn K (.ref f2) = true)
    (a3 : PySem.W.nsIn K mainGlobals "follows" = some (some (.ref f3))) (l3 : K.lookup f3 = some ⟨oc3, od3, .func (PySem.W.fnOf "follows" "follows" (defArgs (topS 10)) (defBody (topS 10)) (defScope (topS 10)) .none kV3 dc3 pm3 an3 cd3 ct3), sl3⟩) (c3 : PySem.W.codeIn K cd3 "follows" = true) (k3 : PySem.W.keepIn K (.ref f3) = true)
    (a4 : PySem.W.nsIn K mainGlobals "is_order" = some (some (.ref f4))) (l4 : K.lookup f4 = some ⟨oc4, od4, .func (PySem.W.fnOf "is_order" "is_order" (defArgs (topS 11)) (defBody (topS 11)) (defScope (topS 11)) .none kV4 dc4 pm4 an4 cd4 ct4), sl4⟩) (c4 : PySem.W.codeIn K cd4 "is_order" = true) (k4 : PySem.W.keepIn K (.ref f4) = true)
    (a5 : PySem.W.nsIn K mainGlobals "need_order" = some (some (.ref f5))) (l5 : K.lookup f5 = some ⟨oc5, od5, .func (PySem.W.fnOf "need_order" "need_order" (defArgs (topS 12)) (defBody (topS 12)) (defScope (topS 12)) .none kV5 dc5 pm5 an5 cd5 ct5), sl5⟩) (c5 : PySem.W.codeIn K cd5 "need_order" = true) (k5 : PySem.W.keepIn K (.ref f5) = true)
    (a6 : PySem.W.nsIn K mainGlobals "are_apart" = some (some (.ref f6))) (l6 : K.lookup f6 = some ⟨oc6, od6, .func (PySem.W.fnOf "are_apart" "are_apart" (defArgs (topS 13)) (defBody (topS 13)) (defScope (topS 13)) .none kV6 dc6 pm6 an6 cd6 ct6), sl6⟩) (c6 : PySem.W.codeIn K cd6 "are_apart" = true) (k6 : PySem.W.keepIn K (.ref f6) = true)
    (a7 : PySem.W.nsIn K mainGlobals "next_things" = some (some (.ref f7))) (l7 : K.lookup f7 = some ⟨oc7, od7, .func (PySem.W.fnOf "next_things" "next_things" (defArgs (topS 15)) (defBody (topS 15)) (defScope (topS 15)) .none kV7 dc7 pm7 an7 cd7 ct7), sl7⟩) (c7 : PySem.W.codeIn K cd7 "next_things" = true) (k7 : PySem.W.keepIn K (.ref f7) = true)
    (a8 : PySem.W.nsIn K mainGlobals "all_turns" = some (some (.ref f8))) (l8 : K.lookup f8 = some ⟨oc8, od8, .func (PySem.W.fnOf "all_turns" "all_turns" (defArgs (topS 17)) (defBody (topS 17)) (defScope (topS 17)) .none kV8 dc8 pm8 an8 cd8 ct8), sl8⟩) (c8 : PySem.W.codeIn K cd8 "all_turns" = true) (k8 : PySem.W.keepIn K (.ref f8) = true)
    (a9 : PySem.W.nsIn K mainGlobals "rows_from" = some (some (.ref f9))) (l9 : K.lookup f9 = some ⟨oc9, od9, .func (PySem.W.fnOf "rows_from" "rows_from" (defArgs (topS 20)) (defBody (topS 20)) (defScope (topS 20)) .none kV9 dc9 pm9 an9 cd9 ct9), sl9⟩) (c9 : PySem.W.codeIn K cd9 "rows_from" = true) (k9 : PySem.W.keepIn K (.ref f9) = true)
    (a10 : PySem.W.nsIn K mainGlobals "mark_of" = some (some (.ref f10))) (l10 : K.lookup f10 = some ⟨oc10, od10, .func (PySem.W.fnOf "mark_of" "mark_of" (defArgs (topS 21)) (defBody (topS 21)) (defScope (topS 21)) .none kV10 dc10 pm10 an10 cd10 ct10), sl10⟩) (c10 : PySem.W.codeIn K cd10 "mark_of" = true) (k10 : PySem.W.keepIn K (.ref f10) = true)
    (a11 : PySem.W.nsIn K mainGlobals "need_few" = some (some (.ref f11))) (l11 : K.lookup f11 = some ⟨oc11, od11, .func (PySem.W.fnOf "need_few" "need_few" (defArgs (topS 22)) (defBody (topS 22)) (defScope (topS 22)) .none kV11 dc11 pm11 an11 cd11 ct11), sl11⟩) (c11 : PySem.W.codeIn K cd11 "need_few" = true) (k11 : PySem.W.keepIn K (.ref f11) = true)
    (a12 : PySem.W.nsIn K mainGlobals "lists_many" = some (some (.ref f12))) (l12 : K.lookup f12 = some ⟨oc12, od12, .func (PySem.W.fnOf "lists_many" "lists_many" (defArgs (topS 23)) (defBody (topS 23)) (defScope (topS 23)) .none kV12 dc12 pm12 an12 cd12 ct12), sl12⟩) (c12 : PySem.W.codeIn K cd12 "lists_many" = true) (k12 : PySem.W.keepIn K (.ref f12) = true)
    (a13 : PySem.W.nsIn K mainGlobals "_law_box" = some (some (.ref f13))) (l13 : K.lookup f13 = some ⟨oc13, od13, .func (PySem.W.fnOf "_law_box" "_law_box" (defArgs (topS 25)) (defBody (topS 25)) (defScope (topS 25)) .none kV13 dc13 pm13 an13 cd13 ct13), sl13⟩) (c13 : PySem.W.codeIn K cd13 "_law_box" = true) (k13 : PySem.W.keepIn K (.ref f13) = true)
    (a14 : PySem.W.nsIn K mainGlobals "_law_take" = some (some (.ref f14))) (l14 : K.lookup f14 = some ⟨oc14, od14, .func (PySem.W.fnOf "_law_take" "_law_take" (defArgs (topS 26)) (defBody (topS 26)) (defScope (topS 26)) .none kV14 dc14 pm14 an14 cd14 ct14), sl14⟩) (c14 : PySem.W.codeIn K cd14 "_law_take" = true) (k14 : PySem.W.keepIn K (.ref f14) = true)
    (a15 : PySem.W.nsIn K mainGlobals "_law_whole" = some (some (.ref f15))) (l15 : K.lookup f15 = some ⟨oc15, od15, .func (PySem.W.fnOf "_law_whole" "_law_whole" (defArgs (topS 27)) (defBody (topS 27)) (defScope (topS 27)) .none kV15 dc15 pm15 an15 cd15 ct15), sl15⟩) (c15 : PySem.W.codeIn K cd15 "_law_whole" = true) (k15 : PySem.W.keepIn K (.ref f15) = true)
    (a16 : PySem.W.nsIn K mainGlobals "_law_shuffled" = some (some (.ref f16))) (l16 : K.lookup f16 = some ⟨oc16, od16, .func (PySem.W.fnOf "_law_shuffled" "_law_shuffled" (defArgs (topS 28)) (defBody (topS 28)) (defScope (topS 28)) .none kV16 dc16 pm16 an16 cd16 ct16), sl16⟩) (c16 : PySem.W.codeIn K cd16 "_law_shuffled" = true) (k16 : PySem.W.keepIn K (.ref f16) = true)
    (a17 : PySem.W.nsIn K mainGlobals "_law_told" = some (some (.ref f17))) (l17 : K.lookup f17 = some ⟨oc17, od17, .func (PySem.W.fnOf "_law_told" "_law_told" (defArgs (topS 29)) (defBody (topS 29)) (defScope (topS 29)) .none kV17 dc17 pm17 an17 cd17 ct17), sl17⟩) (c17 : PySem.W.codeIn K cd17 "_law_told" = true) (k17 : PySem.W.keepIn K (.ref f17) = true)
    (a18 : PySem.W.nsIn K mainGlobals "_law_apart" = some (some (.ref f18))) (l18 : K.lookup f18 = some ⟨oc18, od18, .func (PySem.W.fnOf "_law_apart" "_law_apart" (defArgs (topS 30)) (defBody (topS 30)) (defScope (topS 30)) .none kV18 dc18 pm18 an18 cd18 ct18), sl18⟩) (c18 : PySem.W.codeIn K cd18 "_law_apart" = true) (k18 : PySem.W.keepIn K (.ref f18) = true)
    (a19 : PySem.W.nsIn K mainGlobals "_law_turns" = some (some (.ref f19))) (l19 : K.lookup f19 = some ⟨oc19, od19, .func (PySem.W.fnOf "_law_turns" "_law_turns" (defArgs (topS 31)) (defBody (topS 31)) (defScope (topS 31)) .none kV19 dc19 pm19 an19 cd19 ct19), sl19⟩) (c19 : PySem.W.codeIn K cd19 "_law_turns" = true) (k19 : PySem.W.keepIn K (.ref f19) = true)
    (a20 : PySem.W.nsIn K mainGlobals "_law_rows_all" = some (some (.ref f20))) (l20 : K.lookup f20 = some ⟨oc20, od20, .func (PySem.W.fnOf "_law_rows_all" "_law_rows_all" (defArgs (topS 32)) (defBody (topS 32)) (defScope (topS 32)) .none kV20 dc20 pm20 an20 cd20 ct20), sl20⟩) (c20 : PySem.W.codeIn K cd20 "_law_rows_all" = true) (k20 : PySem.W.keepIn K (.ref f20) = true)
    (a21 : PySem.W.nsIn K mainGlobals "_law_ways" = some (some (.ref f21))) (l21 : K.lookup f21 = some ⟨oc21, od21, .func (PySem.W.fnOf "_law_ways" "_law_ways" (defArgs (topS 33)) (defBody (topS 33)) (defScope (topS 33)) .none kV21 dc21 pm21 an21 cd21 ct21), sl21⟩) (c21 : PySem.W.codeIn K cd21 "_law_ways" = true) (k21 : PySem.W.keepIn K (.ref f21) = true)
    (a22 : PySem.W.nsIn K mainGlobals "_law_two" = some (some (.ref f22))) (l22 : K.lookup f22 = some ⟨oc22, od22, .func (PySem.W.fnOf "_law_two" "_law_two" (defArgs (topS 34)) (defBody (topS 34)) (defScope (topS 34)) .none kV22 dc22 pm22 an22 cd22 ct22), sl22⟩) (c22 : PySem.W.codeIn K cd22 "_law_two" = true) (k22 : PySem.W.keepIn K (.ref f22) = true)
    (a23 : PySem.W.nsIn K mainGlobals "law" = some (some (.ref f23))) (l23 : K.lookup f23 = some ⟨oc23, od23, .func (PySem.W.fnOf "law" "law" (defArgs (topS 35)) (defBody (topS 35)) (defScope (topS 35)) .none kV23 dc23 pm23 an23 cd23 ct23), sl23⟩) (c23 : PySem.W.codeIn K cd23 "law" = true) (k23 : PySem.W.keepIn K (.ref f23) = true)
    (g0 : PySem.W.nsIn K mainGlobals "MOST_THINGS" = some (some (.int 8 t0)))
    (g1 : PySem.W.nsIn K mainGlobals "MOST_GONE" = some (some (.int 4 t1)))
    (z0 : PySem.W.nsIn K mainGlobals "all" = some none)
    (z1 : PySem.W.nsIn K mainGlobals "bool" = some none)
    (z2 : PySem.W.nsIn K mainGlobals "divmod" = some none)
    (z3 : PySem.W.nsIn K mainGlobals "int" = some none)
    (z4 : PySem.W.nsIn K mainGlobals "isinstance" = some none)
    (z5 : PySem.W.nsIn K mainGlobals "len" = some none)
    (z6 : PySem.W.nsIn K mainGlobals "list" = some none)
    (z7 : PySem.W.nsIn K mainGlobals "max" = some none)
    (z8 : PySem.W.nsIn K mainGlobals "min" = some none)
    (z9 : PySem.W.nsIn K mainGlobals "range" = some none)
    (z10 : PySem.W.nsIn K mainGlobals "set" = some none)
    (z11 : PySem.W.nsIn K mainGlobals "sorted" = some none)
    (z12 : PySem.W.nsIn K mainGlobals "tuple" = some none)
    (main : ∀ ns : List Int, ns.length ≤ 63 → (tx.run 40 "law" [.scr ns]).wp (fun r => r.1 = .val (.bool true)) fun _ => False) :
    ∃ fd : FuncData, (∀ (s : Shared) (v : Value), BindsTo s fd ⟨[v], []⟩ [("script", v)]) ∧ ∀ base : Heap, K.In base → base.Ns mainGlobals mg → FnG l.prog w K mg base (L2N.CX l.prog w) 42 fa fd ["script"] (kLaw K) := by
  have e := hfa.symm.trans (PySem.W.mg_of X G a23)
  cases e
  have F0 := fun_mk (st := topS 7) l0 c0 k0
  have b0 := F0.binds (ps := d_is_whole.ps) fun _ _ _ _ _ _ us hl => match us, hl with | [_], _ => rfl
  have F1 := fun_mk (st := topS 8) l1 c1 k1
  have b1 := F1.binds (ps := d_is_many.ps) fun _ _ _ _ _ _ us hl => match us, hl with | [_], _ => rfl
  have F2 := fun_mk (st := topS 9) l2 c2 k2
  have b2 := F2.binds (ps := d_is_pair.ps) fun _ _ _ _ _ _ us hl => match us, hl with | [_, _], _ => rfl
  have F3 := fun_mk (st := topS 10) l3 c3 k3
  have b3 := F3.binds (ps := d_follows.ps) fun _ _ _ _ _ _ us hl => match us, hl with | [_], _ => rfl
  have F4 := fun_mk (st := topS 11) l4 c4 k4
  have b4 := F4.binds (ps := d_is_order.ps) fun _ _ _ _ _ _ us hl => match us, hl with | [_], _ => rfl
  have F5 := fun_mk (st := topS 12) l5 c5 k5
  have b5 := F5.binds (ps := d_need_order.ps) fun _ _ _ _ _ _ us hl => match us, hl with | [_], _ => rfl
  have F6 := fun_mk (st := topS 13) l6 c6 k6
  have b6 := F6.binds (ps := d_are_apart.ps) fun _ _ _ _ _ _ us hl => match us, hl with | [_, _, _], _ => rfl
  have F7 := fun_mk (st := topS 15) l7 c7 k7
  have b7 := F7.binds (ps := d_next_things.ps) fun _ _ _ _ _ _ us hl => match us, hl with | [_, _], _ => rfl
  have F8 := fun_mk (st := topS 17) l8 c8 k8
  have b8 := F8.binds (ps := d_all_turns.ps) fun _ _ _ _ _ _ us hl => match us, hl with | [_], _ => rfl
  have F9 := fun_mk (st := topS 20) l9 c9 k9
  have b9 := F9.binds (ps := d_rows_from.ps) fun _ _ _ _ _ _ us hl => match us, hl with | [_, _], _ => rfl
  have F10 := fun_mk (st := topS 21) l10 c10 k10
  have b10 := F10.binds (ps := d_mark_of.ps) fun _ _ _ _ _ _ us hl => match us, hl with | [_, _], _ => rfl
  have F11 := fun_mk (st := topS 22) l11 c11 k11
  have b11 := F11.binds (ps := d_need_few.ps) fun _ _ _ _ _ _ us hl => match us, hl with | [_], _ => rfl
  have F12 := fun_mk (st := topS 23) l12 c12 k12
  have b12 := F12.binds (ps := d_lists_many.ps) fun _ _ _ _ _ _ us hl => match us, hl with | [_, _], _ => rfl
  have F13 := fun_mk (st := topS 25) l13 c13 k13
  have b13 := F13.binds (ps := d__law_box.ps) fun _ _ _ _ _ _ us hl => match us, hl with | [_, _], _ => rfl
  have F14 := fun_mk (st := topS 26) l14 c14 k14
  have b14 := F14.binds (ps := d__law_take.ps) fun _ _ _ _ _ _ us hl => match us, hl with | [_, _], _ => rfl
  have F15 := fun_mk (st := topS 27) l15 c15 k15
  have b15 := F15.binds (ps := d__law_whole.ps) fun _ _ _ _ _ _ us hl => match us, hl with | [_], _ => rfl
  have F16 := fun_mk (st := topS 28) l16 c16 k16
  have b16 := F16.binds (ps := d__law_shuffled.ps) fun _ _ _ _ _ _ us hl => match us, hl with | [_, _], _ => rfl
  have F17 := fun_mk (st := topS 29) l17 c17 k17
  have b17 := F17.binds (ps := d__law_told.ps) fun _ _ _ _ _ _ us hl => match us, hl with | [_, _], _ => rfl
  have F18 := fun_mk (st := topS 30) l18 c18 k18
  have b18 := F18.binds (ps := d__law_apart.ps) fun _ _ _ _ _ _ us hl => match us, hl with | [_, _, _], _ => rfl
  have F19 := fun_mk (st := topS 31) l19 c19 k19
  have b19 := F19.binds (ps := d__law_turns.ps) fun _ _ _ _ _ _ us hl => match us, hl with | [_], _ => rfl
  have F20 := fun_mk (st := topS 32) l20 c20 k20
  have b20 := F20.binds (ps := d__law_rows_all.ps) fun _ _ _ _ _ _ us hl => match us, hl with | [_], _ => rfl
  have F21 := fun_mk (st := topS 33) l21 c21 k21
  have b21 := F21.binds (ps := d__law_ways.ps) fun _ _ _ _ _ _ us hl => match us, hl with | [_, _, _], _ => rfl
  have F22 := fun_mk (st := topS 34) l22 c22 k22
  have b22 := F22.binds (ps := d__law_two.ps) fun _ _ _ _ _ _ us hl => match us, hl with | [_, _], _ => rfl
  have F23 := fun_mk (st := topS 35) l23 c23 k23
  have b23 := F23.binds (ps := d_law.ps) fun _ _ _ _ _ _ us hl => match us, hl with | [_], _ => rfl
  have S : tx.Stand K mg := by
    refine ⟨fun d hd => ?_, fun p hp => ?_, fun p hp => ?_, fun x hx => ?_, fun p hp => ?_, fun nd => ?_⟩
    · simp only [tx, List.mem_cons, List.not_mem_nil, or_false] at hd
      rcases hd with rfl | rfl | rfl | rfl | rfl | rfl | rfl | rfl | rfl | rfl | rfl | rfl | rfl | rfl | rfl | rfl | rfl | rfl | rfl | rfl | rfl | rfl | rfl | rfl
      · exact ⟨_, _, F0, b0, PySem.W.mg_of X G a0⟩
      · exact ⟨_, _, F1, b1, PySem.W.mg_of X G a1⟩
      · exact ⟨_, _, F2, b2, PySem.W.mg_of X G a2⟩
      · exact ⟨_, _, F3, b3, PySem.W.mg_of X G a3⟩
      · exact ⟨_, _, F4, b4, PySem.W.mg_of X G a4⟩
      · exact ⟨_, _, F5, b5, PySem.W.mg_of X G a5⟩
      · exact ⟨_, _, F6, b6, PySem.W.mg_of X G a6⟩
      · exact ⟨_, _, F7, b7, PySem.W.mg_of X G a7⟩
      · exact ⟨_, _, F8, b8, PySem.W.mg_of X G a8⟩
      · exact ⟨_, _, F9, b9, PySem.W.mg_of X G a9⟩
      · exact ⟨_, _, F10, b10, PySem.W.mg_of X G a10⟩
      · exact ⟨_, _, F11, b11, PySem.W.mg_of X G a11⟩
      · exact ⟨_, _, F12, b12, PySem.W.mg_of X G a12⟩
      · exact ⟨_, _, F13, b13, PySem.W.mg_of X G a13⟩
      · exact ⟨_, _, F14, b14, PySem.W.mg_of X G a14⟩
      · exact ⟨_, _, F15, b15, PySem.W.mg_of X G a15⟩
      · exact ⟨_, _, F16, b16, PySem.W.mg_of X G a16⟩
      · exact ⟨_, _, F17, b17, PySem.W.mg_of X G a17⟩
      · exact ⟨_, _, F18, b18, PySem.W.mg_of X G a18⟩
      · exact ⟨_, _, F19, b19, PySem.W.mg_of X G a19⟩
      · exact ⟨_, _, F20, b20, PySem.W.mg_of X G a20⟩
      · exact ⟨_, _, F21, b21, PySem.W.mg_of X G a21⟩
      · exact ⟨_, _, F22, b22, PySem.W.mg_of X G a22⟩
      · exact ⟨_, _, F23, b23, PySem.W.mg_of X G a23⟩
    · simp only [tx, gis, List.mem_cons, List.not_mem_nil, or_false] at hp
      rcases hp with rfl | rfl
      · exact ⟨_, PySem.W.mg_of X G g0⟩
      · exact ⟨_, PySem.W.mg_of X G g1⟩
    · exact absurd hp (by simp [tx, gss])
    · simp only [tx, bls, List.mem_cons, List.not_mem_nil, or_false] at hx
      rcases hx with rfl | rfl | rfl | rfl | rfl | rfl | rfl | rfl | rfl | rfl | rfl | rfl | rfl
      · exact PySem.W.mg_none_of X G z0
      · exact PySem.W.mg_none_of X G z1
      · exact PySem.W.mg_none_of X G z2
      · exact PySem.W.mg_none_of X G z3
      · exact PySem.W.mg_none_of X G z4
      · exact PySem.W.mg_none_of X G z5
      · exact PySem.W.mg_none_of X G z6
      · exact PySem.W.mg_none_of X G z7
      · exact PySem.W.mg_none_of X G z8
      · exact PySem.W.mg_none_of X G z9
      · exact PySem.W.mg_none_of X G z10
      · exact PySem.W.mg_none_of X G z11
      · exact PySem.W.mg_none_of X G z12
    · exact absurd hp (by simp [tx, exs])
    · exact absurd rfl nd
  have ho : ∀ base : Heap, tx.exs ≠ [] → HotOk l.prog w K mg base tx.exs := fun base ne => absurd rfl ne
  have hi : ∀ base : Heap, ∀ x ∈ tx.ini, IniOk l.prog w K mg base x := fun base x hx => absurd hx (by simp [tx, inis])
  refine ⟨PySem.W.fnOf "law" "law" (defArgs (topS 35)) (defBody (topS 35)) (defScope (topS 35)) .none kV23 dc23 pm23 an23 cd23 ct23, fun s v => .of_eq rfl, fun base _ _ => ?_⟩
  · obtain ⟨f, fd, F, m1, _, _, ok⟩ := Tx.fn_ok (P := l.prog) (w := w) (base := base) S tx_ok (ho base) (hi base) 40 d_law (by simp [tx])
    have m2 : mg "law" = some (.ref fa) := PySem.W.mg_of X G a23
    have m1 : mg "law" = some (.ref f) := m1
    rw [m2] at m1
    cases m1
    cases same_fd F F23
    exact ok.imp fun vs H Q E ⟨a, ns, e1, hS, hl, hq⟩ => by
      subst e1
      exact law_of (main ns hl) hS hq
end Dn.M73

namespace Dn.M73
open PySem PySem.Spec L2
open PyProof.Rows hiding St
theorem r_take (n : Nat) (b m : Int) (h : 0 < m) (h2 : m < 1073741824) : tx.go (n+1) "_law_take" [.own [.int b], .val (.int m)] = .ok (.val (.int (b % m)), [.own [.int (b / m)], .val (.int m)]) := by
  rw [go_at tx (d := d__law_take) rfl]
  simp [d__law_take, b__law_take, pDvm, h, h2, ixN]
theorem r_is_whole (n : Nat) (x : PyData) : tx.go (n+1) "is_whole" [.val x] = .ok (.val (.bool (isW x)), [.val x]) := by
  rw [go_at tx (d := d_is_whole) rfl]
  cases x <;> simp [d_is_whole, b_is_whole, isT, isW]
theorem r_is_many (n : Nat) (m : Int) (h : 1 ≤ m) (h2 : m ≤ 8) : tx.go (n+2) "is_many" [.val (.int m)] = .ok (.val (.bool true), [.val (.int m)]) := by
  rw [go_at tx (d := d_is_many) rfl]
  simp [d_is_many, b_is_many, r_is_whole, isW, h, h2]
theorem r_is_pair (n : Nat) (m : Int) (p : Int × Int) (h : 0 ≤ p.1 ∧ p.1 < m ∧ 0 ≤ p.2 ∧ p.2 < m) : tx.go (n+2) "is_pair" [.val (.int m), .val (prD p)] = .ok (.val (.bool true), [.val (.int m), .val (prD p)]) := by
  obtain ⟨h, h2, h3, h4⟩ := h
  rw [go_at tx (d := d_is_pair) rfl]
  simp [d_is_pair, b_is_pair, r_is_whole, isW, h, h2, h3, h4, prD, isT, lcL, pAll, boolsOf]
theorem r_box (n : Nat) (ns : List Int) (k : Int) (hk : 0 ≤ k) (hk2 : k < 1000) : ∃ r, tx.go (n+1) "_law_box" [.scr ns, .val (.int k)] = .ok r ∧ (∃ b, r.1 = .own [.int b] ∧ r.2 = [.scr ns, .val (.int k)]) := by
  refine of_wp ?_
  rw [go_at tx (d := d__law_box) rfl]
  have m1 : big2 7919 k = true := big2_of (a := 13) (b := 10) (by omega) (by omega) (by omega) (by omega) (by omega)
  have hix : k < ns.length → ∃ v, atI ns k = some v := fun c => by
    refine ⟨ns[k.toNat]'(by omega), ?_⟩
    unfold atI ixN
    rw [if_pos hk, if_pos c]
    exact List.getElem?_eq_getElem (by omega)
  by_cases c : k < ns.length
  case' pos => obtain ⟨v, hv⟩ := hix c
  case' pos => simp [d__law_box, b__law_box, x_mul m1, c, hv, x_mod, x_div]
  case' neg => simp [d__law_box, b__law_box, x_mul m1, c, x_mod]
  case' neg => generalize 7919 * k + 13 = v
  all_goals
    by_cases c2 : v % 2 = 0
    · simp [c2, x_div]
    · simp [c2, small62]
      refine wp_bind' (wp_bind' (forR_wp (fun i ρ => ∃ b s4 s5, ρ = [.scr ns, .val (.int k), .val (.int v), .val (.int b), s4, s5] ∧ b.natAbs < 2 ^ (33 * i + 1)) ⟨_, _, _, rfl, by decide⟩ (fun ρ ⟨b, s4, s5, e, _⟩ => by subst e; simp) fun i ρ hi ⟨b, s4, s5, e, hb⟩ => ?_))
      subst e
      have i2 : (i : Int) < 16 := by omega
      have w1 := Int.emod_nonneg v (show (2147483647 : Int) ≠ 0 by decide)
      have w2 := Int.emod_lt_of_pos v (show (0 : Int) < 2147483647 by decide)
      have q1 : big2 (v % 2147483647) 48271 = true := big2_of (a := 31) (b := 16) (by omega) (by omega) (by omega) (by omega) (by omega)
      have q2 : big2 7919 (i : Int) = true := big2_of (a := 13) (b := 5) (by omega) (by omega) (by omega) (by omega) (by omega)
      simp [x_mul q1, x_mul q2, x_mod]
      have p1 := Int.emod_nonneg (v % 2147483647 * 48271 + 7919 * (i : Int) + 1) (show (2147483647 : Int) ≠ 0 by decide)
      have p2 := Int.emod_lt_of_pos (v % 2147483647 * 48271 + 7919 * (i : Int) + 1) (show (0 : Int) < 2147483647 by decide)
      generalize (v % 2147483647 * 48271 + 7919 * (i : Int) + 1) % 2147483647 = p at p1 p2 ⊢
      have q3 : big2 p p = true := big2_of (a := 31) (b := 31) (by omega) (by omega) (by omega) (by omega) (by omega)
      simp [x_mul q3, x_mod]
      have p3 := Int.emod_nonneg (p * p) (show (2147483629 : Int) ≠ 0 by decide)
      have p4 := Int.emod_lt_of_pos (p * p) (show (0 : Int) < 2147483629 by decide)
      generalize p * p % 2147483629 = z at p3 p4 ⊢
      have q4 : big2 b 2147483647 = true := big2_of (a := 33 * i + 1) (b := 31) hb (by decide) (by omega) (by omega) (by omega)
      have q5 : big2 z (z + 13) = true := big2_of (a := 31) (b := 31) (by omega) (by omega) (by omega) (by omega) (by omega)
      simp [x_mul q4, x_mul q5, x_mod]
      have p5 := Int.emod_nonneg (z * (z + 13)) (show (2147483647 : Int) ≠ 0 by decide)
      have p6 := Int.emod_lt_of_pos (z * (z + 13)) (show (0 : Int) < 2147483647 by decide)
      generalize z * (z + 13) % 2147483647 = y at p5 p6 ⊢
      have e1 : (2 : Nat) ^ (33 * (i + 1) + 1) = 2 ^ (33 * i + 1) * 8589934592 := by
        rw [show 33 * (i + 1) + 1 = (33 * i + 1) + 33 by omega, Nat.pow_add]
      rw [e1]
      omega
theorem r_follows (n : Nat) (ps : List (Int × Int)) (irr : ∀ p ∈ ps, p.1 ≠ p.2) (tr : ∀ p ∈ ps, ∀ q ∈ ps, p.2 = q.1 → (p.1, q.2) ∈ ps) : tx.go (n+1) "follows" [.val (.tuple (psD ps))] = .ok (.val (.bool true), [.val (.tuple (psD ps))]) := by
  rw [go_at tx (d := d_follows) rfl]
  refine ok_of_wp ?_
  simp [d_follows, b_follows]
  refine wp_bind' (wp_bind' (forI_wp (fun i ρ => ∃ s1 s2 s3 s4, ρ = [.val (.tuple (psD ps)), s1, s2, s3, s4]) ⟨_, _, _, _, rfl⟩ (fun ρ ⟨_, _, _, _, e⟩ => by subst e; simp) (fun i d ρ hd ⟨s1, s2, s3, s4, e⟩ => ?_)))
  obtain ⟨p, _, hp, rfl⟩ := psD_get hd
  subst e
  have := irr p hp
  simp [prD, this]
  refine forI_wp (fun i ρ => ∃ s3 s4, ρ = [.val (.tuple (psD ps)), .val (.int p.1), .val (.int p.2), s3, s4]) ⟨_, _, rfl⟩ (fun ρ ⟨_, _, e⟩ => by subst e; simp) (fun j d ρ hd ⟨s3, s4, e⟩ => ?_)
  obtain ⟨q, _, hq, rfl⟩ := psD_get hd
  subst e
  by_cases c : p.2 = q.1
  · simp [prD, c, x_ninT, tr p hp q hq c]
  · simp [prD, c]
theorem r_is_order (n : Nat) (m : Int) (ps : List (Int × Int)) (o : IsOrd m ps) : tx.go (n+3) "is_order" [.val (ordD m ps)] = .ok (.val (.bool true), [.val (ordD m ps)]) := by
  rw [go_at tx (d := d_is_order) rfl]
  have len := o.len
  have l2 : ps.length ≤ 1000000 := by omega
  simp [d_is_order, b_is_order, ordD, isT, r_is_many, o.lo, o.hi, l2]
  rw [lcL_enc prD (fun _ => .bool true) ps fun p hp => ?_]
  · have := x_all ps fun _ => true
    rw [show (ps.all fun _ => true) = true by simp] at this
    simp [this, x_eqPL, x_ssT ps (inN_small o.bd (by have := o.hi; omega)) (by rw [dedP_of o.nd]; omega), setSort_self o.nd o.st, r_follows n.succ ps o.irr o.tr]
  · simp [r_is_pair n m p (o.bd p hp)]
theorem r_need_order (n : Nat) (m : Int) (ps : List (Int × Int)) (o : IsOrd m ps) : tx.go (n+4) "need_order" [.val (ordD m ps)] = .ok (.val .none, [.val (ordD m ps)]) := by
  rw [go_at tx (d := d_need_order) rfl]
  simp [d_need_order, b_need_order, r_is_order n m ps o]
theorem r_shuffled (n : Nat) (b : Int) (xs : List Int) (hx : xs.length ≤ 1000) : ∃ r, tx.go (n+2) "_law_shuffled" [.own [.int b], .own (nsD xs)] = .ok r ∧ (∃ ys b', r = (.val (.tuple (nsD ys)), [.own [.int b'], .own (nsD xs)]) ∧ ys.Perm xs) := by
  refine of_wp ?_
  rw [go_at tx (d := d__law_shuffled) rfl]
  simp [d__law_shuffled, b__law_shuffled]
  refine wp_bind' (wp_bind' (whileN_wp (fun k ρ => ∃ b l f, ρ = [.own [.int b], .own (nsD xs), .own (nsD l), .own (nsD f)] ∧ (f ++ l).Perm xs ∧ l.length = k) (fun k ρ ⟨b, l, f, e, pm, hk⟩ => ?_) turnsMost xs.length _ (by unfold turnsMost; omega) ⟨b, xs, [], rfl, .refl _, rfl⟩))
  subst e
  have ll : f.length + l.length = xs.length := by rw [← pm.length_eq, List.length_append]
  simp [x_neL0]
  by_cases c : l = []
  · subst c
    simp
    rw [List.append_nil] at pm
    exact ⟨f, rfl, pm⟩
  · have pos : 0 < l.length := List.length_pos_iff.mpr c
    have q1 := Int.emod_nonneg b (show (l.length : Int) ≠ 0 by omega)
    have q2 := Int.emod_lt_of_pos b (show (0 : Int) < l.length by omega)
    obtain ⟨v, g1, g2⟩ := popAt_ns l (b % l.length) q1 q2 (by omega)
    simp [c, r_take n b l.length (by omega) (by omega), g1]
    rw [x_app _ _ (by rw [List.length_map]; omega)]
    simp
    refine ⟨l.length - 1, by omega, b / l.length, l.eraseIdx (b % l.length).toNat, f ++ [v], by simp, ?_, ?_⟩
    · refine List.Perm.trans ?_ pm
      rw [List.append_assoc]
      exact List.Perm.append_left f g2
    · have := g2.length_eq
      rw [List.length_cons] at this
      omega
theorem r_toldS (n : Nat) (m : Nat) (rs : List (List Int)) (hm : m ≤ 8) (hrs : rs.length ≤ 1000) (s0 : Slot) (h0 : s0 = .own (rsD rs) ∨ s0 = .val (.list (rsD rs))) (pr : ∀ r ∈ rs, ∀ i : Nat, i < m → (i : Int) ∈ r) :
    ∃ r, tx.go (n+1) "_law_told" [.val (.int m), s0] = .ok r ∧ (r.1 = .val (.tuple (psD (toldP m rs))) ∧ ∃ s, r.2 = [.val (.int m), s] ∧ (s = s0 ∨ s = .val (.list (rsD rs)))) := by
  refine of_wp ?_
  rw [go_at tx (d := d__law_told) rfl]
  have sm : small62 m = true := small_in (by omega) (by omega)
  have rl : rs.length ≤ 1000000 := by omega
  simp [d__law_told, b__law_told, sm]
  refine wp_bind' (wp_bind' (forR_wp (fun i ρ => ∃ s1 s3 s4, ρ = [.val (.int m), s1, .own (psD ((partP m i).filter (tells rs))), s3, s4, .un] ∧ (s1 = s0 ∨ s1 = .val (.list (rsD rs)))) ⟨s0, .un, .un, by simp [partP], .inl rfl⟩ (fun ρ ⟨s1, s3, s4, e, hs⟩ => ?_) fun i ρ hi ⟨s1, s3, s4, e, hs⟩ => ?_))
  · subst e
    rcases h0 with rfl | rfl <;> rcases hs with rfl | rfl
    all_goals simp [toldP, gridP, partP, rowP]
  · subst e
    simp [sm]
    refine forR_wp (fun j ρ => ∃ s1 s4, ρ = [.val (.int m), s1, .own (psD ((partP m i ++ rowP j i).filter (tells rs))), .val (.int i), s4, .un] ∧ (s1 = s0 ∨ s1 = .val (.list (rsD rs)))) ⟨s1, s4, by simp [rowP], hs⟩ (fun ρ ⟨s1, s4, e, hs⟩ => ?_) fun j ρ hj ⟨s1, s4, e, hs⟩ => ?_
    · subst e
      simp [part_succ]
      exact hs
    · subst e
      have hl : ((partP m i ++ rowP j i).filter (tells rs)).length ≤ 200 := by
        have h1 := List.length_filter_le (tells rs) (partP m i ++ rowP j i)
        have h2 := part_len m i
        have h3 : i * m ≤ 64 := Nat.mul_le_mul (show i ≤ 8 by omega) hm
        rw [List.length_append] at h1
        have h4 : (rowP j i).length = j := by simp [rowP]
        omega
      have app : ∀ t : Bool, tells rs ((i : Int), (j : Int)) = t → (partP m i ++ rowP (j + 1) i).filter (tells rs) = (partP m i ++ rowP j i).filter (tells rs) ++ if t then [((i : Int), (j : Int))] else [] := fun t ht => by
        rw [row_succ, ← List.append_assoc, List.filter_append]
        simp [List.filter_cons, ht]
      generalize hA : (partP m i ++ rowP j i).filter (tells rs) = A at hl app ⊢
      generalize hB : (partP m i ++ rowP (j + 1) i).filter (tells rs) = B at app ⊢
      by_cases c : i = j
      · have ht : tells rs ((i : Int), (j : Int)) = false := by simp [tells, c]
        have f := app false ht
        rw [if_neg Bool.false_ne_true, List.append_nil] at f
        subst f
        subst c
        simp
        exact hs
      · have c' : ¬ ((i : Int) = (j : Int)) := by omega
        have lc : ∀ ρ : Env, ρ = [.val (.int m), .val (.list (rsD rs)), .own (psD A), .val (.int i), .val (.int j), .un] → lcL (lcT (.nm 5) dYes (dP pLt (osCons (oOf (dM "tuple" pTIndex (oVar 5) (osCons (oVar 3) osNil))) (osCons (oOf (dM "tuple" pTIndex (oVar 5) (osCons (oVar 4) osNil))) osNil))) [5] (tx.go n)) (rsD rs) ρ = .ok (rs.map fun r => .bool (decide (r.idxOf (i : Int) < r.idxOf (j : Int))), ρ) := fun ρ e => by
          subst e
          refine lcL_enc (fun r => .tuple (nsD r)) _ rs fun r hr => ?_
          simp [x_tidx r i (pr r hr i hi), x_tidx r j (pr r hr j hj)]
        have al := x_all rs fun r => decide (r.idxOf (i : Int) < r.idxOf (j : Int))
        have tl : tells rs ((i : Int), (j : Int)) = rs.all fun r => decide (r.idxOf (i : Int) < r.idxOf (j : Int)) := by
          show (decide ((i : Int) ≠ (j : Int)) && _) = _
          rw [decide_eq_true (show (i : Int) ≠ (j : Int) from c'), Bool.true_and]
        rcases h0 with rfl | rfl <;> rcases hs with rfl | rfl
        all_goals
          simp [c', c, rl]
          rw [lc _ rfl]
          simp [al]
          cases tt : rs.all fun r => decide (r.idxOf (i : Int) < r.idxOf (j : Int)) with
          | true =>
            have f := app true (tl.trans tt)
            rw [if_pos rfl] at f
            have z := x_app (psD A) (prD ((i : Int), (j : Int))) (by rw [List.length_map]; omega)
            have e2 : psD A ++ [prD ((i : Int), (j : Int))] = psD B := by rw [f]; simp
            rw [e2] at z
            unfold prD at z
            simp [z]
          | false =>
            have f := app false (tl.trans tt)
            rw [if_neg Bool.false_ne_true, List.append_nil] at f
            subst f
            simp
theorem r_are_apart (n : Nat) (m a b : Int) (ps : List (Int × Int)) : tx.go (n+1) "are_apart" [.val (ordD m ps), .val (.int a), .val (.int b)] = .ok (.val (.bool (apartB ps a b)), [.val (ordD m ps), .val (.int a), .val (.int b)]) := by
  rw [go_at tx (d := d_are_apart) rfl]
  by_cases c1 : a = b
  · simp [d_are_apart, b_are_apart, x_ord1, c1, apartB]
  · by_cases c2 : (a, b) ∈ ps
    · simp [d_are_apart, b_are_apart, x_ord1, x_ninT, c1, c2, apartB]
    · simp [d_are_apart, b_are_apart, x_ord1, x_ninT, c1, c2, apartB]
theorem r_law_apart (n : Nat) (m a b : Int) (ps : List (Int × Int)) : tx.go (n+1) "_law_apart" [.val (ordD m ps), .val (.int a), .val (.int b)] = .ok (.val (.bool (apartB ps a b)), [.val (ordD m ps), .val (.int a), .val (.int b)]) := by
  rw [go_at tx (d := d__law_apart) rfl]
  by_cases c1 : a = b
  · simp [d__law_apart, b__law_apart, x_ord1, c1, apartB]
  · by_cases c2 : (a, b) ∈ ps
    · simp [d__law_apart, b__law_apart, x_ord1, x_ninT, c1, c2, apartB]
    · simp [d__law_apart, b__law_apart, x_ord1, x_ninT, c1, c2, apartB]
def turnsP (m : Nat) (ps : List (Int × Int)) : List (Int × Int) := (gridP m).filter fun p => apartB ps p.1 p.2
theorem r_all_turns (n : Nat) (m : Nat) (ps : List (Int × Int)) (hm : m ≤ 8) : ∃ r, tx.go (n+2) "all_turns" [.val (ordD m ps)] = .ok r ∧ r = (.own (psD (turnsP m ps)), [.val (ordD m ps)]) := by
  refine of_wp ?_
  rw [go_at tx (d := d_all_turns) rfl]
  have sm : small62 m = true := small_in (by omega) (by omega)
  have m6 : m ≤ 1000000 := by omega
  simp [d_all_turns, b_all_turns, x_ord0, sm]
  refine wp_bind' (wp_bind' (forR_wp (fun i ρ => ∃ s2, ρ = [.val (ordD m ps), .own (psD ((partP m i).filter fun p => apartB ps p.1 p.2)), s2, .un]) ⟨.un, by simp [partP]⟩ (fun ρ ⟨s2, e⟩ => ?_) fun i ρ hi ⟨s2, e⟩ => ?_))
  · subst e
    simp [part_all, turnsP]
  · subst e
    have l1 := partF_len (i := i) hm (by omega) fun p => apartB ps p.1 p.2
    have l2 := rowF_len m i fun p => apartB ps p.1 p.2
    simp [x_ord0, sm, rngD_length, m6]
    rw [lcL_row m i (fun p => apartB ps p.1 p.2) fun j hj => ?_]
    · rw [part_succ, List.filter_append]
      generalize (partP m i).filter _ = A at l1 ⊢
      generalize (rowP m i).filter _ = C at l2 ⊢
      simp [-List.map_append]
      rw [x_ext _ _ (by rw [List.length_map, List.length_map]; omega)]
      simp
    · cases c : apartB ps (i : Int) (j : Int)
      · simp [r_are_apart, c]
      · simp [r_are_apart, c, prD]
def lturnsP (m : Nat) (ps : List (Int × Int)) : List (Int × Int) := (gridP m).filter fun p => apartB ps p.1 p.2
theorem r_law_turns (n : Nat) (m : Nat) (ps : List (Int × Int)) (hm : m ≤ 8) : ∃ r, tx.go (n+2) "_law_turns" [.val (ordD m ps)] = .ok r ∧ r = (.own (psD (lturnsP m ps)), [.val (ordD m ps)]) := by
  refine of_wp ?_
  rw [go_at tx (d := d__law_turns) rfl]
  have sm : small62 m = true := small_in (by omega) (by omega)
  have m6 : m ≤ 1000000 := by omega
  simp [d__law_turns, b__law_turns, x_ord0, sm]
  refine wp_bind' (wp_bind' (forR_wp (fun i ρ => ∃ s2, ρ = [.val (ordD m ps), .own (psD ((partP m i).filter fun p => apartB ps p.1 p.2)), s2, .un]) ⟨.un, by simp [partP]⟩ (fun ρ ⟨s2, e⟩ => ?_) fun i ρ hi ⟨s2, e⟩ => ?_))
  · subst e
    simp [part_all, lturnsP]
  · subst e
    have l1 := partF_len (i := i) hm (by omega) fun p => apartB ps p.1 p.2
    have l2 := rowF_len m i fun p => apartB ps p.1 p.2
    simp [x_ord0, sm, rngD_length, m6]
    rw [lcL_row m i (fun p => apartB ps p.1 p.2) fun j hj => ?_]
    · rw [part_succ, List.filter_append]
      generalize (partP m i).filter _ = A at l1 ⊢
      generalize (rowP m i).filter _ = C at l2 ⊢
      simp [-List.map_append]
      rw [x_addPL _ _ (by omega)]
      simp
    · cases c : apartB ps (i : Int) (j : Int)
      · simp [r_law_apart, c]
      · simp [r_law_apart, c, prD]
theorem mem_turns {m : Nat} {ps : List (Int × Int)} {p : Int × Int} : p ∈ turnsP m ps ↔ (0 ≤ p.1 ∧ p.1 < m ∧ 0 ≤ p.2 ∧ p.2 < m) ∧ apartB ps p.1 p.2 = true := by
  unfold turnsP
  rw [List.mem_filter, mem_grid]
theorem turns_len {m : Nat} (hm : m ≤ 8) (ps : List (Int × Int)) : (turnsP m ps).length ≤ 64 := by
  have := partF_len (m := m) (i := m) hm hm fun p => apartB ps p.1 p.2
  rw [part_all] at this
  exact this
theorem r_law_whole (n : Nat) (x : PyData) : tx.go (n+1) "_law_whole" [.val x] = .ok (.val (.bool (isW x)), [.val x]) := by
  rw [go_at tx (d := d__law_whole) rfl]
  cases x <;> simp [d__law_whole, b__law_whole, isT, isW]
theorem r_next_things (n m : Nat) (ps : List (Int × Int)) (o : IsOrd m ps) (R : List Int) : ∃ r, tx.go (n+1) "next_things" [.val (ordD m ps), .own (nsD R)] = .ok r ∧ r = (.own (nsD (freeI m ps R)), [.val (ordD m ps), .own (nsD R)]) := by
  refine of_wp ?_
  rw [go_at tx (d := d_next_things) rfl]
  have hm : m ≤ 8 := by have := o.hi; omega
  have hl := o.len
  have l6 : ps.length ≤ 1000000 := by omega
  have sm : small62 m = true := small_in (by omega) (by omega)
  have nin : ∀ x : Int, pNin [.int x, .list (nsD R)] = some (.val (.bool (!decide (x ∈ R)))) := x_ninLi R
  have inn : ∀ x : Int, pIn [.int x, .list (nsD R)] = some (.val (.bool (decide (x ∈ R)))) := x_inLi R
  generalize nsD R = S at nin inn ⊢
  simp [d_next_things, b_next_things, x_ord0, sm]
  refine wp_bind' (wp_bind' (forR_wp (fun i ρ => ∃ s3, ρ = [.val (ordD m ps), .own S, .own (nsD ((upTo i).filter fun t => decide (t ∉ R) && ps.all fun p => !(decide (p.2 = t) && !decide (p.1 ∈ R)))), s3, .un, .un]) ⟨.un, by simp [upTo]⟩ (fun ρ ⟨s3, e⟩ => ?_) fun i ρ hi ⟨s3, e⟩ => ?_))
  · subst e
    have ff : (upTo m).filter (fun t => decide (t ∉ R) && ps.all fun p => !(decide (p.2 = t) && !decide (p.1 ∈ R))) = freeI m ps R := rfl
    rw [ff]
    generalize nsD (freeI m ps R) = W
    simp
  · subst e
    have fl := List.length_filter_le (fun t => decide (t ∉ R) && ps.all fun p => !(decide (p.2 = t) && !decide (p.1 ∈ R))) (upTo i)
    rw [upTo_len] at fl
    have us : (upTo (i + 1)).filter (fun t => decide (t ∉ R) && ps.all fun p => !(decide (p.2 = t) && !decide (p.1 ∈ R))) = (upTo i).filter (fun t => decide (t ∉ R) && ps.all fun p => !(decide (p.2 = t) && !decide (p.1 ∈ R))) ++ if (decide ((i : Int) ∉ R) && ps.all fun p => !(decide (p.2 = (i : Int)) && !decide (p.1 ∈ R))) = true then [(i : Int)] else [] := by
      rw [upTo_succ, List.filter_append, List.filter_cons, List.filter_nil]
    generalize hA : (upTo i).filter (fun t => decide (t ∉ R) && ps.all fun p => !(decide (p.2 = t) && !decide (p.1 ∈ R))) = A at us fl ⊢
    generalize hB : (upTo (i + 1)).filter (fun t => decide (t ∉ R) && ps.all fun p => !(decide (p.2 = t) && !decide (p.1 ∈ R))) = B at us ⊢
    clear hA hB
    have lc : ∀ s2 : Slot, lcL (lcT (.tp [4, 5]) (dP pEq (osCons (oVar 5) (osCons (oVar 3) (osNil)))) (dP pIn (osCons (oVar 4) (osCons (oVar 1) (osNil)))) [4, 5] (tx.go n)) (psD ps) [.val (ordD m ps), .own S, s2, .val (.int i), .un, .un] = .ok ((ps.filter fun p => decide (p.2 = (i : Int))).map fun p => .bool (decide (p.1 ∈ R)), [.val (ordD m ps), .own S, s2, .val (.int i), .un, .un]) := fun s2 =>
      lcL_enc2 prD _ _ ps fun p hp => by
        have n1 := inn p.1
        by_cases c1 : p.2 = (i : Int)
        · simp [prD, n1, c1]
        · simp [prD, c1]
    have al := x_all (ps.filter fun p => decide (p.2 = (i : Int))) fun p => decide (p.1 ∈ R)
    have bb : ((ps.filter fun p => decide (p.2 = (i : Int))).all fun p => decide (p.1 ∈ R)) = ps.all fun p => !(decide (p.2 = (i : Int)) && !decide (p.1 ∈ R)) := by
      rw [List.all_filter]
      congr 1
      funext p
      cases decide (p.2 = (i : Int)) <;> cases decide (p.1 ∈ R) <;> rfl
    rw [bb] at al
    generalize ps.all (fun p => !(decide (p.2 = (i : Int)) && !decide (p.1 ∈ R))) = free at us al
    have ni := nin i
    have ap := x_app (nsD A) (.int i) (by rw [List.length_map]; omega)
    have ea : nsD A ++ [.int (i : Int)] = nsD (A ++ [(i : Int)]) := by simp
    rw [ea] at ap
    by_cases c1 : (i : Int) ∈ R
    · rw [if_neg (by simp [c1]), List.append_nil] at us
      subst us
      simp [ni, c1]
    · simp [ni, c1, x_ord1, l6, -x_lcT]
      rw [lc]
      generalize (ps.filter fun p => decide (p.2 = (i : Int))).map (fun p => PyData.bool (decide (p.1 ∈ R))) = W at al
      cases free with
      | false =>
        rw [if_neg (by simp), List.append_nil] at us
        subst us
        simp [al]
      | true =>
        rw [if_pos (by simp [c1])] at us
        subst us
        simp [al, ap]
theorem r_need_few (n m : Nat) (ps : List (Int × Int)) (o : IsOrd m ps) (m4 : m ≤ 4) : tx.go (n+5) "need_few" [.val (ordD m ps)] = .ok (.val .none, [.val (ordD m ps)]) := by
  rw [go_at tx (d := d_need_few) rfl]
  have no : tx.go (n + 4) "need_order" [.val (ordD m ps)] = .ok (.val .none, [.val (ordD m ps)]) := r_need_order n m ps o
  have x0 := x_ord0 (m : Int) ps
  have c : ¬ ((4 : Int) < m) := by omega
  generalize ordD (m : Int) ps = O at *
  simp [d_need_few, b_need_few, no, x0, c]
theorem r_rows_from (n m : Nat) (ps : List (Int × Int)) (o : IsOrd m ps) (m6 : m ≤ 6) : ∀ (k : Nat) (R : List Int), R.length + k = m → tx.go (n+2+k) "rows_from" [.val (ordD m ps), .own (nsD R)] = .ok (.own (rsD (ext m ps k R)), [.val (ordD m ps), .own (nsD R)])
  | 0, R, h => by
    rw [go_at tx (d := d_rows_from) rfl]
    have x0 := x_ord0 (m : Int) ps
    have l0 : (nsD R).length = m := by rw [List.length_map]; omega
    have e : rsD (ext m ps 0 R) = [.tuple (nsD R)] := rfl
    have l6 : (nsD R).length ≤ 1000000 := by omega
    rw [e]
    generalize ordD (m : Int) ps = O at *
    generalize nsD R = S at *
    simp [d_rows_from, b_rows_from, x0, l0, l6]
  | k + 1, R, h => by
    rw [show n + 2 + (k + 1) = (n + 2 + k) + 1 by omega, go_at tx (d := d_rows_from) rfl]
    refine ok_of_wp ?_
    have x0 := x_ord0 (m : Int) ps
    have l0 : (nsD R).length = R.length := List.length_map _
    have c0 : ¬ ((R.length : Int) = m) := by omega
    obtain ⟨_, e1, rfl⟩ := r_next_things (n + 1 + k) m ps o R
    have e1 : tx.go (n + 2 + k) "next_things" [.val (ordD m ps), .own (nsD R)] = .ok (.own (nsD (freeI m ps R)), [.val (ordD m ps), .own (nsD R)]) := by
      rw [show n + 2 + k = n + 1 + k + 1 by omega]
      exact e1
    have rcc := fun x : Int => r_rows_from n m ps o m6 k (R ++ [x]) (by rw [List.length_append, List.length_singleton]; omega)
    have ad : ∀ x : Int, pAdd [.list (nsD R), .list [.int x]] = some (.own (nsD (R ++ [x]))) := fun x => by
      rw [addL (by rw [List.length_map, List.length_singleton]; omega)]
      simp
    have fl := free_lenM m ps R
    have b1 : ∀ j, (((freeI m ps R).take j).flatMap fun x => ext m ps k (R ++ [x])).length ≤ 46656 := fun j => by
      have h1 := flat_lenC (fun x => ext m ps k (R ++ [x])) (m ^ k) (fun x => ext_leM m ps k (R ++ [x])) ((freeI m ps R).take j)
      have h2 := Nat.mul_le_mul_right (m ^ k) (Nat.le_trans (List.length_take_le' _ _) fl : ((freeI m ps R).take j).length ≤ m)
      have h3 : m * m ^ k = m ^ (k + 1) := by rw [Nat.pow_succ, Nat.mul_comm]
      have h4 : m ^ (k + 1) ≤ 6 ^ (k + 1) := Nat.pow_le_pow_left m6 _
      have h5 : 6 ^ (k + 1) ≤ 6 ^ 6 := Nat.pow_le_pow_right (by decide) (by omega)
      omega
    have ee : ext m ps (k + 1) R = (freeI m ps R).flatMap fun x => ext m ps k (R ++ [x]) := rfl
    generalize freeI m ps R = F at *
    have F6 : (nsD F).length ≤ 1000000 := by rw [List.length_map]; omega
    have m6' : ∀ j, ((rsD ((F.take j).flatMap fun x => ext m ps k (R ++ [x])))).length ≤ 46656 := fun j => by rw [List.length_map]; exact b1 j
    generalize hG : ext m ps (k + 1) R = G at *
    generalize ordD (m : Int) ps = O at *
    generalize nsD R = S at *
    simp [d_rows_from, b_rows_from, x0, l0, c0, e1, F6]
    refine wp_bind' (wp_bind' (forI_wp (fun j ρ => ∃ s3, ρ = [.val O, .own S, .own (rsD ((F.take j).flatMap fun x => ext m ps k (R ++ [x]))), s3]) ⟨.un, by simp⟩ (fun ρ ⟨s3, e⟩ => ?_) fun j d ρ hd ⟨s3, e⟩ => ?_))
    · subst e
      rw [List.length_map, List.take_length, ← ee]
      generalize rsD G = W
      simp
    · subst e
      have hj : j < F.length := by
        have := (List.getElem?_eq_some_iff.mp hd).1
        rwa [List.length_map] at this
      have ed : d = .int F[j] := by
        have h := hd
        rw [List.getElem?_map, List.getElem?_eq_getElem hj] at h
        exact (Option.some.inj h).symm
      subst ed
      have rc := rcc F[j]
      have a1 := ad F[j]
      have t1 := x_ext (rsD ((F.take j).flatMap fun x => ext m ps k (R ++ [x]))) (rsD (ext m ps k (R ++ [F[j]]))) (by
        have := m6' (j + 1)
        rw [List.take_succ_eq_append_getElem hj, List.flatMap_append, List.flatMap_singleton, List.length_map, List.length_append] at this
        rw [List.length_map, List.length_map]
        omega)
      have t2 : rsD ((F.take j).flatMap fun x => ext m ps k (R ++ [x])) ++ rsD (ext m ps k (R ++ [F[j]])) = rsD ((F.take (j + 1)).flatMap fun x => ext m ps k (R ++ [x])) := by
        rw [List.take_succ_eq_append_getElem hj, List.flatMap_append, List.flatMap_singleton]
        exact (List.map_append).symm
      rw [t2] at t1
      generalize rsD ((F.take j).flatMap fun x => ext m ps k (R ++ [x])) = A at *
      generalize rsD ((F.take (j + 1)).flatMap fun x => ext m ps k (R ++ [x])) = B at *
      generalize rsD (ext m ps k (R ++ [F[j]])) = C at *
      generalize nsD (R ++ [F[j]]) = D at *
      generalize F[j] = x at *
      simp [a1, rc, t1]
/-- which turns a row turns, as a number -/
def markN (T : List (Int × Int)) (r : List Int) : Nat := mkF (trnB r) 0 T
theorem r_mark_of (n : Nat) (r : List Int) (T : List (Int × Int)) (tl : T.length ≤ 64) (hT : ∀ p ∈ T, p.1 ∈ r ∧ p.2 ∈ r) (s0 : Slot) (h0 : s0 = .own (psD T) ∨ s0 = .val (.list (psD T))) : ∃ s, tx.go (n+1) "mark_of" [.val (.tuple (nsD r)), s0] = .ok (.val (.int (markN T r : Nat)), [.val (.tuple (nsD r)), s]) ∧ (s = s0 ∨ s = .val (.list (psD T))) := by
  rw [go_at tx (d := d_mark_of) rfl]
  have T6 : (psD T).length ≤ 1000000 := by rw [psD_len]; omega
  have ix : ∀ x : Int, x ∈ r → pTIndex [.tuple (nsD r), .int x] = some (.val (.int (r.idxOf x : Nat))) := fun x hx => x_tidx r x hx
  have iT : pInt [.bool true] = some (.val (.int 1)) := rfl
  have iF : pInt [.bool false] = some (.val (.int 0)) := rfl
  generalize hR : nsD r = R at *
  have loop : ∀ s0 s3 s4 : Slot, (forL (fB (.tp [3, 4]) (dSet 2 (dP pAdd (osCons (oOf (dP pMul (osCons (oOf (dLit (.int 2))) (osCons (oVar 2) (osNil))))) (osCons (oOf (dP pInt (osCons (oOf (dP pLt (osCons (oOf (dM "tuple" pTIndex (oVar 0) (osCons (oVar 4) (osNil)))) (osCons (oOf (dM "tuple" pTIndex (oVar 0) (osCons (oVar 3) (osNil)))) (osNil))))) (osNil)))) (osNil))))) (tx.go n)) (psD T) [.val (.tuple R), s0, .val (.int 0), s3, s4]).wp (fun q => ∃ s3 s4, q = (.nx, [.val (.tuple R), s0, .val (.int (markN T r : Nat)), s3, s4])) fun _ => False := fun s0 s3 s4 => by
    refine forI_wp (fun j ρ => ∃ s3 s4, ρ = [.val (.tuple R), s0, .val (.int (mkF (trnB r) 0 (T.take j) : Nat)), s3, s4]) ⟨s3, s4, by simp [mkF]⟩ (fun ρ ⟨s3, s4, e⟩ => ?_) fun j d ρ hd ⟨s3, s4, e⟩ => ?_
    · subst e
      refine ⟨s3, s4, ?_⟩
      rw [psD_len, List.take_length]
      rfl
    · subst e
      have hj : j < T.length := by
        have := (List.getElem?_eq_some_iff.mp hd).1
        rwa [psD_len] at this
      have ed : d = prD T[j] := by
        have h := hd
        rw [List.getElem?_map, List.getElem?_eq_getElem hj] at h
        exact (Option.some.inj h).symm
      subst ed
      have sn := mkF_snoc (trnB r) T[j] (T.take j) 0
      rw [← List.take_succ_eq_append_getElem hj] at sn
      obtain ⟨m1, m2⟩ := hT T[j] (List.getElem_mem hj)
      have i1 := ix _ m1
      have i2 := ix _ m2
      have lt := mk_lt (trnB r) (T.take j)
      have l64 : 2 ^ (T.take j).length ≤ 2 ^ 64 := Nat.pow_le_pow_right (by decide) (by rw [List.length_take]; omega)
      have tb : trnB r T[j] = decide (r.idxOf T[j].2 < r.idxOf T[j].1) := rfl
      generalize mkF (trnB r) 0 (T.take (j + 1)) = B at *
      generalize mkF (trnB r) 0 (T.take j) = A at *
      generalize T[j] = p at *
      subst sn
      have mul : pMul [.int 2, .int (A : Int)] = some (.val (.int (2 * A))) := x_mul (big2_of (a := 3) (b := 65) (by omega) (by omega) (by omega) (by omega) (by omega))
      by_cases c : r.idxOf p.2 < r.idxOf p.1
      · rw [decide_eq_true c] at tb
        have tb : (trnB r p).toNat = 1 := by rw [tb]; rfl
        simp [prD, i1, i2, c, iT, tb, mul]
      · rw [decide_eq_false c] at tb
        have tb : (trnB r p).toNat = 0 := by rw [tb]; rfl
        simp [prD, i1, i2, c, iF, tb, mul]
  have key : ∃ s, (dBody d_mark_of.ps.length d_mark_of.N.length d_mark_of.b (tx.go n) [.val (.tuple R), s0]).wp (fun q => q = (.val (.int (markN T r : Nat)), [.val (.tuple R), s])) (fun _ => False) ∧ (s = s0 ∨ s = .val (.list (psD T))) := by
    rcases h0 with rfl | rfl
    · refine ⟨.val (.list (psD T)), ?_, .inr rfl⟩
      simp [d_mark_of, b_mark_of, T6]
      refine wp_bind' (wp_bind' (wp_mono (loop _ _ _) ?_ fun _ z => z))
      rintro _ ⟨s3, s4, rfl⟩
      simp
    · refine ⟨.val (.list (psD T)), ?_, .inr rfl⟩
      simp [d_mark_of, b_mark_of, T6]
      refine wp_bind' (wp_bind' (wp_mono (loop _ _ _) ?_ fun _ z => z))
      rintro _ ⟨s3, s4, rfl⟩
      simp
  obtain ⟨s, k, hs⟩ := key
  exact ⟨s, ok_of_wp k, hs⟩
def mkD (mk : List Int → Nat) (E : List (List Int)) : List PyData := E.map fun r => .int (mk r : Nat)
def rsXa (F : List (List Int)) (r X : List Int) : List PyData := rsD (F ++ X.map fun x => r ++ [x])
def rsFa (m : Nat) (ps : List (Int × Int)) (L : List (List Int)) : List PyData := rsD (L.flatMap fun r => (freeI m ps r).map fun x => r ++ [x])
theorem r_law_rows_all (n m : Nat) (ps : List (Int × Int)) (o : IsOrd m ps) (h5 : m ≤ 6) : ∃ r, tx.go (n+1) "_law_rows_all" [.val (ordD m ps)] = .ok r ∧ ∃ s, r = (s, [.val (ordD m ps)]) ∧ (s = .own (rsD (rowsI m ps m)) ∨ s = .val (.list (rsD (rowsI m ps m)))) := by
  refine of_wp ?_
  rw [go_at tx (d := d__law_rows_all) rfl]
  have hm : m ≤ 8 := by omega
  have hl := o.len
  have l6 : ps.length ≤ 1000000 := by omega
  have sm : small62 m = true := small_in (by omega) (by omega)
  have big : ∀ t ≤ m, m ^ t ≤ 46656 := fun t ht => by
    have h1 : m ^ t ≤ 6 ^ t := Nat.pow_le_pow_left h5 t
    have h2 : 6 ^ t ≤ 6 ^ 6 := Nat.pow_le_pow_right (by decide) (by omega)
    omega
  simp [d__law_rows_all, b__law_rows_all, x_ord0, sm]
  refine wp_bind' (wp_bind' (forR_wp (fun i ρ => ∃ s1 s2 s3 s4 s5, ρ = [.val (ordD m ps), s1, s2, s3, s4, s5, .un, .un] ∧ (s1 = .own (rsD (rowsI m ps i)) ∨ s1 = .val (.list (rsD (rowsI m ps i))))) ⟨_, .un, .un, .un, .un, rfl, .inl rfl⟩ (fun ρ ⟨s1, s2, s3, s4, s5, e, hs⟩ => ?_) fun i ρ hi ⟨s1, s2, s3, s4, s5, e, hs⟩ => ?_))
  · subst e
    generalize rsD (rowsI m ps m) = R at hs ⊢
    rcases hs with rfl | rfl <;> simp
  · subst e
    have len := rowsI_len m ps i
    have b1 := big i (by omega)
    have b2 := big (i + 1) (by omega)
    have beg := rowsI_beg m ps i
    have nx : rowsI m ps (i + 1) = (rowsI m ps i).flatMap fun r => (freeI m ps r).map fun x => r ++ [x] := rfl
    have ln2 := rowsI_len m ps (i + 1)
    generalize rowsI m ps (i + 1) = B at nx ln2 ⊢
    generalize rowsI m ps i = A at nx hs len beg ⊢
    have A6 : A.length ≤ 1000000 := by omega
    have flen : ∀ j, ((A.take j).flatMap fun r => (freeI m ps r).map fun x => r ++ [x]).length ≤ B.length := fun j => by
      have : A.flatMap (fun r => (freeI m ps r).map fun x => r ++ [x]) = (A.take j).flatMap (fun r => (freeI m ps r).map fun x => r ++ [x]) ++ (A.drop j).flatMap (fun r => (freeI m ps r).map fun x => r ++ [x]) := by
        rw [← List.flatMap_append, List.take_append_drop]
      rw [nx, this, List.length_append]
      omega
    have go : ∀ s1 : Slot, s1 = .val (.list (rsD A)) → (forL (fB (.nm 4)
      (dFor (.nm 5) (iR1 (oOf (dP pIx (osCons (oVar 0) (osCons (oOf (dLit (.int 0))) (osNil))))))
  (dIfS (dAnd (dP pNin (osCons (oVar 5) (osCons (oVar 4) (osNil)))) (dP pAll (osCons (oOf (dLc (.tp [6, 7]) (iSeq (oOf (dP pIx (osCons (oVar 0) (osCons (oOf (dLit (.int 1))) (osNil)))))) (dP pEq (osCons (oVar 7) (osCons (oVar 5) (osNil)))) (dP pIn (osCons (oVar 6) (osCons (oVar 4) (osNil)))) [6, 7])) (osNil))))
  (dDo (dMut 3 mAppend (fsCons (dP pAdd (osCons (oVar 4) (osCons (oOf (dTup (fsCons (dVar 5) (fsNil)))) (osNil)))) (fsNil))))
  (dSkip))) (tx.go n)) (rsD A) [.val (ordD m ps), s1, .val (.int (i : Int)), .own [], s4, s5, .un, .un]).wp (fun r => ∃ s4 s5, r = (.nx, [.val (ordD m ps), s1, .val (.int (i : Int)), .own (rsD B), s4, s5, .un, .un])) fun _ => False := by
      intro s1 hs
      refine forI_wp (fun j ρ => ∃ s4 s5, ρ = [.val (ordD m ps), s1, .val (.int (i : Int)), .own (rsFa m ps (A.take j)), s4, s5, .un, .un]) ⟨s4, s5, by simp [hs, rsFa]⟩ (fun ρ ⟨s4, s5, e⟩ => ?_) fun j d ρ hd ⟨s4, s5, e⟩ => ?_
      · subst e
        refine ⟨s4, s5, ?_⟩
        rw [List.length_map, List.take_length, nx]
        rfl
      · subst e
        have hj : j < A.length := by
          have := (List.getElem?_eq_some_iff.mp hd).1
          rwa [List.length_map] at this
        have ed : d = .tuple (nsD A[j]) := by
          have h := hd
          rw [List.getElem?_map, List.getElem?_eq_getElem hj] at h
          exact (Option.some.inj h).symm
        have fl := flen j
        have us := flen (j + 1)
        have nf : rsFa m ps (A.take (j + 1)) = rsXa ((A.take j).flatMap fun r => (freeI m ps r).map fun x => r ++ [x]) A[j] (freeI m ps A[j]) := by
          unfold rsFa rsXa
          rw [List.take_succ_eq_append_getElem hj, List.flatMap_append, List.flatMap_singleton]
        have nF : rsFa m ps (A.take j) = rsD ((A.take j).flatMap fun r => (freeI m ps r).map fun x => r ++ [x]) := rfl
        rw [List.take_succ_eq_append_getElem hj, List.flatMap_append, List.flatMap_singleton] at us
        have bj := beg A[j] (List.getElem_mem hj)
        generalize A[j] = r at ed us bj nf
        subst ed
        generalize (A.take j).flatMap (fun r => (freeI m ps r).map fun x => r ++ [x]) = F at fl us nf nF
        generalize rsFa m ps (A.take (j + 1)) = F2 at nf ⊢
        generalize rsFa m ps (A.take j) = F1 at nF ⊢
        subst nF
        have nin : ∀ x : Int, pNin [.int x, .tuple (nsD r)] = some (.val (.bool (!decide (x ∈ r)))) := x_ninN r
        have inn : ∀ x : Int, pIn [.int x, .tuple (nsD r)] = some (.val (.bool (decide (x ∈ r)))) := x_inN r
        have add : ∀ x : Int, pAdd [.tuple (nsD r), .tuple [.int x]] = some (.val (.tuple (nsD (r ++ [x])))) := fun x => by
          rw [addT (by rw [List.length_map, List.length_singleton, bj.2]; omega)]
          simp
        generalize hS : nsD r = S at nin inn add ⊢
        simp [x_ord0, sm]
        have ff : freeI m ps r = (upTo m).filter fun t => decide (t ∉ r) && ps.all fun p => !(decide (p.2 = t) && !decide (p.1 ∈ r)) := rfl
        rw [List.length_append, List.length_map] at us
        refine forR_wp (fun k ρ => ∃ s5, ρ = [.val (ordD m ps), s1, .val (.int (i : Int)), .own (rsXa F r ((upTo k).filter fun t => decide (t ∉ r) && ps.all fun p => !(decide (p.2 = t) && !decide (p.1 ∈ r)))), .val (.tuple S), s5, .un, .un]) ⟨s5, by simp [upTo, rsXa]⟩ (fun ρ ⟨s5, e⟩ => ?_) fun k ρ hk ⟨s5, e⟩ => ?_
        · subst e
          rw [← ff, ← nf]
          simp
        · subst e
          have fl2 := List.length_filter_le (fun t => decide (t ∉ r) && ps.all fun p => !(decide (p.2 = t) && !decide (p.1 ∈ r))) (upTo k)
          rw [upTo_len] at fl2
          have us2 : (upTo (k + 1)).filter (fun t => decide (t ∉ r) && ps.all fun p => !(decide (p.2 = t) && !decide (p.1 ∈ r))) = (upTo k).filter (fun t => decide (t ∉ r) && ps.all fun p => !(decide (p.2 = t) && !decide (p.1 ∈ r))) ++ if (decide ((k : Int) ∉ r) && ps.all fun p => !(decide (p.2 = (k : Int)) && !decide (p.1 ∈ r))) = true then [(k : Int)] else [] := by
            rw [upTo_succ, List.filter_append, List.filter_cons, List.filter_nil]
          generalize hX : (upTo k).filter (fun t => decide (t ∉ r) && ps.all fun p => !(decide (p.2 = t) && !decide (p.1 ∈ r))) = X at us2 fl2 ⊢
          generalize hY : (upTo (k + 1)).filter (fun t => decide (t ∉ r) && ps.all fun p => !(decide (p.2 = t) && !decide (p.1 ∈ r))) = Y at us2 ⊢
          clear hX hY
          have lc : ∀ s3 : Slot, lcL (lcT (.tp [6, 7]) (dP pEq (osCons (oVar 7) (osCons (oVar 5) (osNil)))) (dP pIn (osCons (oVar 6) (osCons (oVar 4) (osNil)))) [6, 7] (tx.go n)) (psD ps) [.val (ordD m ps), s1, .val (.int (i : Int)), s3, .val (.tuple S), .val (.int k), .un, .un] = .ok ((ps.filter fun p => decide (p.2 = (k : Int))).map fun p => .bool (decide (p.1 ∈ r)), [.val (ordD m ps), s1, .val (.int (i : Int)), s3, .val (.tuple S), .val (.int k), .un, .un]) := fun s3 =>
            lcL_enc2 prD _ _ ps fun p hp => by
              have n1 := inn p.1
              by_cases c1 : p.2 = (k : Int)
              · simp [prD, n1, c1]
              · simp [prD, c1]
          have e0 := x_all (ps.filter fun p => decide (p.2 = (k : Int))) fun p => decide (p.1 ∈ r)
          have bb : ((ps.filter fun p => decide (p.2 = (k : Int))).all fun p => decide (p.1 ∈ r)) = ps.all fun p => !(decide (p.2 = (k : Int)) && !decide (p.1 ∈ r)) := by
            rw [List.all_filter]
            congr 1
            funext p
            cases decide (p.2 = (k : Int)) <;> cases decide (p.1 ∈ r) <;> rfl
          rw [bb] at e0
          generalize ps.all (fun p => !(decide (p.2 = (k : Int)) && !decide (p.1 ∈ r))) = free at us2 e0
          have ni := nin k
          have ad := add k
          have ap := x_app (rsD (F ++ X.map fun x => r ++ [x])) (.tuple (nsD (r ++ [(k : Int)]))) (by rw [List.length_map, List.length_append, List.length_map]; omega)
          have ea : rsD (F ++ X.map fun x => r ++ [x]) ++ [.tuple (nsD (r ++ [(k : Int)]))] = rsD (F ++ (X ++ [(k : Int)]).map fun x => r ++ [x]) := by simp
          rw [ea] at ap
          replace ap : mAppend (rsXa F r X) [.tuple (nsD (r ++ [(k : Int)]))] = some (.none, rsXa F r (X ++ [(k : Int)])) := ap
          generalize nsD (r ++ [(k : Int)]) = N at ad ap
          by_cases c1 : (k : Int) ∈ r
          · rw [if_neg (by simp [c1]), List.append_nil] at us2
            subst us2
            simp [ni, c1]
          · simp [ni, c1, x_ord1, l6, -x_lcT]
            rw [lc]
            generalize (ps.filter fun p => decide (p.2 = (k : Int))).map (fun p => PyData.bool (decide (p.1 ∈ r))) = W at e0
            cases free with
            | false =>
              rw [if_neg (by simp), List.append_nil] at us2
              subst us2
              simp [e0]
            | true =>
              rw [if_pos (by simp [c1])] at us2
              subst us2
              simp [e0, ad, ap]
    rcases hs with rfl | rfl
    · simp [A6]
      refine wp_bind' (wp_mono (go _ rfl) ?_ fun _ h => h)
      rintro _ ⟨s4, s5, rfl⟩
      simp
    · simp [A6]
      refine wp_bind' (wp_mono (go _ rfl) ?_ fun _ h => h)
      rintro _ ⟨s4, s5, rfl⟩
      simp
/-- a table of numbers -/
def tabC (T : List (Nat × Nat)) : List (PyData × PyData) := T.map fun e => (PyData.int (e.1 : Nat), PyData.int (e.2 : Nat))
theorem kEq_n (a b : Nat) : kEq (.int (a : Int)) (.int (b : Int)) = decide (a = b) := by
  show decide ((a : Int) = (b : Int)) = _
  exact decide_eq_decide.mpr (by omega)
theorem look_c (T : List (Nat × Nat)) (k : Nat) : lookD (tabC T) (.int (k : Nat)) = (lookL T k).map fun v : Nat => PyData.int (v : Int) := lookD_enc (fun k : Nat => PyData.int (k : Int)) kEq_n (fun v : Nat => PyData.int (v : Int)) T k
theorem put_c (T : List (Nat × Nat)) (k v : Nat) : _root_.Dn.putD (tabC T) (.int (k : Nat)) (.int (v : Nat)) = tabC (putL T k v) := putD_enc (fun k : Nat => PyData.int (k : Int)) kEq_n (fun v : Nat => PyData.int (v : Int)) T k v
def gC (T : List (Nat × Nat)) (x : Nat) : Nat := (lookL T x).getD 0
theorem get_c (T : List (Nat × Nat)) (k : Nat) : (lookD (tabC T) (.int (k : Nat))).getD (.int 0) = .int (gC T k : Nat) := by
  rw [look_c]
  unfold gC
  cases lookL T k <;> rfl
def addC (L : List (Nat × Nat)) (x v : Nat) : List (Nat × Nat) := putL L x (gC L x + v)
/-- keys that are different, below M -/
def KOk (M : Nat) (T : List (Nat × Nat)) : Prop := (T.map (·.1)).Nodup ∧ ∀ e ∈ T, e.1 < M
theorem KOk.len {M : Nat} {T : List (Nat × Nat)} (h : KOk M T) : T.length ≤ M := by
  have := nodup_len (T.map (·.1)) (List.range M) h.1 fun x hx => by
    obtain ⟨e, he, rfl⟩ := List.mem_map.mp hx
    exact List.mem_range.mpr (h.2 e he)
  rwa [List.length_map, List.length_range] at this
theorem put_keys (T : List (Nat × Nat)) (k v : Nat) : (putL T k v).map (·.1) = if (lookL T k).isSome = true then T.map (·.1) else T.map (·.1) ++ [k] := by
  unfold putL
  split
  · rw [List.map_map]
    refine List.map_congr_left fun e _ => ?_
    show (if e.1 = k then (e.1, v) else e).1 = e.1
    split <;> rfl
  · rw [List.map_append]
    rfl
theorem look_none {T : List (Nat × Nat)} {k : Nat} (h : ¬ (lookL T k).isSome = true) : k ∉ T.map (·.1) := fun z => by
  obtain ⟨e, he, rfl⟩ := List.mem_map.mp z
  unfold lookL at h
  rw [Option.isSome_map, List.find?_isSome] at h
  exact h ⟨e, he, by simp⟩
theorem KOk.put {M : Nat} {T : List (Nat × Nat)} (h : KOk M T) {k v : Nat} (hk : k < M) : KOk M (putL T k v) := by
  constructor
  · rw [put_keys]
    split
    · exact h.1
    · rename_i c
      exact List.nodup_append.mpr ⟨h.1, List.nodup_cons.mpr ⟨List.not_mem_nil, List.nodup_nil⟩, fun a ha b hb e => by
        rw [List.mem_singleton.mp hb] at e
        exact look_none c (e ▸ ha)⟩
  · intro e he
    unfold putL at he
    split at he
    · obtain ⟨e', h', rfl⟩ := List.mem_map.mp he
      have := h.2 e' h'
      split <;> exact this
    · rcases List.mem_append.mp he with he | he
      · exact h.2 e he
      · rw [List.mem_singleton.mp he]; exact hk
theorem look_in {T : List (Nat × Nat)} (nd : (T.map (·.1)).Nodup) {e : Nat × Nat} (h : e ∈ T) : lookL T e.1 = some e.2 := lookL_of nd (k := e.1) (v := e.2) h
/-- how many lists of rows from here on -/
def bkN {α : Type} (E : List α) (mk : α → Nat) (w : Nat) : Nat → Nat → Nat
  | 0, d => if d = w then 1 else 0
  | c + 1, d => (E.map fun r => bkN E mk w c (d ||| mk r)).sum
def sumC (f : Nat → Nat) (T : List (Nat × Nat)) : Nat := (T.map fun e => e.2 * f e.1).sum
theorem sum_rep (f : Nat → Nat) {x u v : Nat} : ∀ {L : List (Nat × Nat)}, (L.map (·.1)).Nodup → lookL L x = some u → sumC f (L.map fun e => if e.1 = x then (e.1, u + v) else e) = sumC f L + v * f x
  | [], _, h => by cases h
  | e :: L, nd, h => by
    rw [List.map_cons, List.nodup_cons] at nd
    unfold sumC
    rw [List.map_cons, List.map_cons, List.map_cons, List.sum_cons, List.sum_cons]
    by_cases c : e.1 = x
    · have eu : e.2 = u := by
        have h : (List.find? (fun e => decide (e.1 = x)) (e :: L)).map (·.2) = some u := h
        rw [List.find?_cons, decide_eq_true c] at h
        exact Option.some.inj h
      have rest : (L.map fun e => if e.1 = x then (e.1, u + v) else e) = L := by
        have : (L.map fun e => if e.1 = x then (e.1, u + v) else e) = L.map id := List.map_congr_left fun y hy => by
          rw [if_neg fun z => nd.1 (List.mem_map.mpr ⟨y, hy, by rw [c, z]⟩)]
          rfl
        rw [this, List.map_id]
      rw [rest, if_pos c]
      show (u + v) * f e.1 + _ = e.2 * f e.1 + _ + _
      rw [eu, c, Nat.add_mul]
      omega
    · have h : lookL L x = some u := by
        have h : (List.find? (fun e => decide (e.1 = x)) (e :: L)).map (·.2) = some u := h
        rw [List.find?_cons, decide_eq_false c] at h
        exact h
      have ih := sum_rep f (v := v) nd.2 h
      unfold sumC at ih
      rw [ih, if_neg c]
      omega
theorem sum_add (f : Nat → Nat) {L : List (Nat × Nat)} (nd : (L.map (·.1)).Nodup) (x v : Nat) : sumC f (addC L x v) = sumC f L + v * f x := by
  unfold addC gC
  cases h : lookL L x with
  | some u =>
    unfold putL
    rw [h, if_pos (show (some u).isSome = true from rfl)]
    exact sum_rep f nd h
  | none =>
    unfold putL
    rw [h, if_neg (by simp)]
    unfold sumC
    rw [List.map_append, List.sum_append]
    simp
theorem sum_w {w : Nat} : ∀ {T : List (Nat × Nat)}, (T.map (·.1)).Nodup → sumC (fun d => if d = w then 1 else 0) T = gC T w
  | [], _ => rfl
  | e :: T, nd => by
    rw [List.map_cons, List.nodup_cons] at nd
    have ih := sum_w (w := w) nd.2
    unfold sumC at ih ⊢
    rw [List.map_cons, List.sum_cons, ih]
    unfold gC lookL
    rw [List.find?_cons]
    show e.2 * (if e.1 = w then 1 else 0) + _ = _
    by_cases c : e.1 = w
    · rw [decide_eq_true c, if_pos c]
      have : List.find? (fun e => decide (e.1 = w)) T = none := List.find?_eq_none.mpr fun y hy z => nd.1 (List.mem_map.mpr ⟨y, hy, by rw [c]; simpa using z⟩)
      rw [this]
      simp
    · rw [decide_eq_false c, if_neg c]
      simp
theorem or_lt {k d b : Nat} (h1 : d < 2 ^ k) (h2 : b < 2 ^ k) : d ||| b < 2 ^ k := Nat.or_lt_two_pow h1 h2
/-- one turn of the inner loop -/
theorem lm_in (Φ : Calls) {α : Type} (E : List α) (mk : α → Nat) (k : Nat) (hk : 2 ^ k ≤ 900000) (hE : ∀ r ∈ E, mk r < 2 ^ k) (f : Nat → Nat) (T : List (Nat × Nat)) (tn : (T.map (·.1)).Nodup) (e : Nat × Nat) (he : e ∈ T) (e1 : e.1 < 2 ^ k)
    (s0 s1 s2 s3 s5 s8 : Slot) (L : List (Nat × Nat)) (hL : KOk (2 ^ k) L) :
    (forL (fB (.nm 8) (dTPut 6 (oOf (dP pOrI (osCons (oVar 7) (osCons (oVar 8) (osNil))))) (dP pAdd (osCons (oOf (dTGetD 6 (fsCons (dP pOrI (osCons (oVar 7) (osCons (oVar 8) (osNil)))) (fsCons (dLit (.int 0)) (fsNil))))) (osCons (oOf (dTGet 4 (oVar 7))) (osNil))))) Φ) (E.map fun r => PyData.int (mk r : Nat)) [s0, s1, s2, s3, .val (.dict (tabC T)), s5, .odc false (tabC L), .val (.int (e.1 : Nat)), s8, .un]).wp (fun q => ∃ L' s8, q = (.nx, [s0, s1, s2, s3, .val (.dict (tabC T)), s5, .odc false (tabC L'), .val (.int (e.1 : Nat)), s8, .un]) ∧ KOk (2 ^ k) L' ∧ sumC f L' = sumC f L + e.2 * (E.map fun r => f (e.1 ||| mk r)).sum) fun _ => False := by
  refine forI_wp (fun j ρ => ∃ L' s8, ρ = [s0, s1, s2, s3, .val (.dict (tabC T)), s5, .odc false (tabC L'), .val (.int (e.1 : Nat)), s8, .un] ∧ KOk (2 ^ k) L' ∧ sumC f L' = sumC f L + e.2 * ((E.take j).map fun r => f (e.1 ||| mk r)).sum) ⟨L, s8, rfl, hL, by simp⟩ (fun ρ ⟨L', s8, h1, h2, h3⟩ => ?_) fun j d ρ hd ⟨L', s8, h1, h2, h3⟩ => ?_
  · rw [List.length_map, List.take_length] at h3
    exact ⟨L', s8, by rw [h1], h2, h3⟩
  · subst h1
    have hj : j < E.length := by
      have := (List.getElem?_eq_some_iff.mp hd).1
      rwa [List.length_map] at this
    have ed : d = .int (mk E[j] : Nat) := by
      have h := hd
      rw [List.getElem?_map, List.getElem?_eq_getElem hj] at h
      exact (Option.some.inj h).symm
    subst ed
    have mr := hE E[j] (List.getElem_mem hj)
    have lt := or_lt e1 mr
    have nk := h2.put (v := gC L' (e.1 ||| mk E[j]) + e.2) lt
    have ns := sum_add f h2.1 (e.1 ||| mk E[j]) e.2
    have tk : ((E.take (j + 1)).map fun r => f (e.1 ||| mk r)).sum = ((E.take j).map fun r => f (e.1 ||| mk r)).sum + f (e.1 ||| mk E[j]) := by
      rw [List.take_succ_eq_append_getElem hj, List.map_append, List.sum_append]
      simp
    have fin : ∃ L'' s8', (_root_.Dn.putD (tabC L') (.int ((e.1 ||| mk E[j] : Nat) : Int)) (.int ((gC L' (e.1 ||| mk E[j]) + e.2 : Nat) : Int))) = tabC L'' ∧ Slot.val (.int (mk E[j] : Nat)) = s8' ∧ KOk (2 ^ k) L'' ∧ sumC f L'' = sumC f L + e.2 * ((E.take (j + 1)).map fun r => f (e.1 ||| mk r)).sum := by
      refine ⟨addC L' (e.1 ||| mk E[j]) e.2, _, put_c _ _ _, rfl, nk, ?_⟩
      rw [ns, h3, tk, Nat.mul_add, Nat.add_assoc]
    have g1 := get_c L' (e.1 ||| mk E[j])
    have g2 := look_c T e.1
    rw [look_in tn he] at g2
    have g2 : lookD (tabC T) (.int (e.1 : Nat)) = some (.int (e.2 : Nat)) := g2
    have or := or_nat e.1 (mk E[j])
    have l6 : (tabC L').length < 1000000 := by
      unfold tabC
      rw [List.length_map]
      have := h2.len
      omega
    generalize gC L' (e.1 ||| mk E[j]) = G at *
    generalize (e.1 ||| mk E[j]) = X at *
    generalize mk E[j] = r at *
    generalize tabC L' = D at *
    have pO : pOrI [.int (e.1 : Nat), .int (r : Nat)] = some (.val (.int (X : Nat))) := by
      show some (Slot.val (.int (Builtin.bitOr (e.1 : Int) (r : Int)))) = _
      rw [or]
    obtain ⟨W, hW⟩ : ∃ W, W = G + e.2 := ⟨_, rfl⟩
    have ad : ((G : Int) + (e.2 : Nat)) = (W : Int) := by omega
    rw [← hW] at fin
    obtain ⟨L'', s8', f1, f2, f3, f4⟩ := fin
    generalize tabC T = TT at *
    rw [List.map_take] at f4
    simp [pO, g1, g2, l6, ad]
    exact ⟨L'', f1, f3, f4⟩
theorem lm_out (Φ : Calls) {α : Type} (E : List α) (mk : α → Nat) (lE : E.length ≤ 1000000) (k : Nat) (hk : 2 ^ k ≤ 900000) (hE : ∀ r ∈ E, mk r < 2 ^ k) (f : Nat → Nat) (T : List (Nat × Nat)) (hT : KOk (2 ^ k) T)
    (s0 s1 s2 s3 s5 s7 s8 : Slot) (h3 : s3 = .own (E.map fun r => PyData.int (mk r : Nat)) ∨ s3 = .val (.list (E.map fun r => PyData.int (mk r : Nat)))) :
    (forL (fB (.nm 7) (dFor (.nm 8) (iSeq (oOf (dVar 3))) (dTPut 6 (oOf (dP pOrI (osCons (oVar 7) (osCons (oVar 8) (osNil))))) (dP pAdd (osCons (oOf (dTGetD 6 (fsCons (dP pOrI (osCons (oVar 7) (osCons (oVar 8) (osNil)))) (fsCons (dLit (.int 0)) (fsNil))))) (osCons (oOf (dTGet 4 (oVar 7))) (osNil)))))) Φ) ((tabC T).map (·.1)) [s0, s1, s2, s3, .val (.dict (tabC T)), s5, .odc false [], s7, s8, .un]).wp (fun q => ∃ L' s3 s7 s8, q = (.nx, [s0, s1, s2, s3, .val (.dict (tabC T)), s5, .odc false (tabC L'), s7, s8, .un]) ∧ (s3 = .own (E.map fun r => PyData.int (mk r : Nat)) ∨ s3 = .val (.list (E.map fun r => PyData.int (mk r : Nat)))) ∧ KOk (2 ^ k) L' ∧ sumC f L' = sumC (fun d => (E.map fun r => f (d ||| mk r)).sum) T) fun _ => False := by
  have ek : (tabC T).map (·.1) = T.map fun e => PyData.int (e.1 : Nat) := by
    unfold tabC
    rw [List.map_map]
    rfl
  rw [ek]
  refine forI_wp (fun j ρ => ∃ L' s3 s7 s8, ρ = [s0, s1, s2, s3, .val (.dict (tabC T)), s5, .odc false (tabC L'), s7, s8, .un] ∧ (s3 = .own (E.map fun r => PyData.int (mk r : Nat)) ∨ s3 = .val (.list (E.map fun r => PyData.int (mk r : Nat)))) ∧ KOk (2 ^ k) L' ∧ sumC f L' = sumC (fun d => (E.map fun r => f (d ||| mk r)).sum) (T.take j)) ⟨[], s3, s7, s8, rfl, h3, ⟨List.nodup_nil, fun _ h => nomatch h⟩, rfl⟩ (fun ρ ⟨L', s3, s7, s8, e, h3, h4, h5⟩ => ?_) fun j d ρ hd ⟨L', s3, s7, s8, e, h3, h4, h5⟩ => ?_
  · rw [List.length_map, List.take_length] at h5
    exact ⟨L', s3, s7, s8, by rw [e], h3, h4, h5⟩
  · subst e
    have hj : j < T.length := by
      have := (List.getElem?_eq_some_iff.mp hd).1
      rwa [List.length_map] at this
    have ed : d = .int (T[j].1 : Nat) := by
      have h := hd
      rw [List.getElem?_map, List.getElem?_eq_getElem hj] at h
      exact (Option.some.inj h).symm
    subst ed
    have mj := List.getElem_mem hj
    have lin := fun s8 => lm_in Φ E mk k hk hE f T hT.1 T[j] mj (hT.2 _ mj) s0 s1 s2 (.val (.list (E.map fun r => PyData.int (mk r : Nat)))) s5 s8 L' h4
    have tk : sumC (fun d => (E.map fun r => f (d ||| mk r)).sum) (T.take (j + 1)) = sumC (fun d => (E.map fun r => f (d ||| mk r)).sum) (T.take j) + T[j].2 * (E.map fun r => f (T[j].1 ||| mk r)).sum := by
      unfold sumC
      rw [List.take_succ_eq_append_getElem hj, List.map_append, List.sum_append]
      simp
    rw [tk, ← h5]
    have le : (E.map fun r => PyData.int (mk r : Nat)).length ≤ 1000000 := by rw [List.length_map]; exact lE
    generalize (E.map fun r => f (T[j].1 ||| mk r)).sum = S at *
    generalize (E.map fun r => PyData.int (mk r : Nat)) = M at *
    generalize T[j] = e at *
    generalize tabC T = TT at *
    rcases h3 with rfl | rfl
    · simp [le]
      refine wp_mono (lin _) ?_ fun _ z => z
      rintro _ ⟨L2, s8', rfl, g1, g2⟩
      exact ⟨L2, _, ⟨_, _, rfl⟩, .inr rfl, g1, g2⟩
    · simp [le]
      refine wp_mono (lin _) ?_ fun _ z => z
      rintro _ ⟨L2, s8', rfl, g1, g2⟩
      exact ⟨L2, _, ⟨_, _, rfl⟩, .inr rfl, g1, g2⟩
/-- how many lists of so many rows tell an order -/
theorem const_sum (c : Nat) : ∀ k, ((List.range k).map fun _ => c).sum = k * c
  | 0 => by simp
  | k + 1 => by
    rw [List.range_succ, List.map_append, List.sum_append, const_sum c k, Nat.succ_mul]
    simp
def manyL (m : Nat) (ps : List (Int × Int)) (c : Nat) : Nat := bkN (ext m ps m []) (markN (turnsP m ps)) (2 ^ (turnsP m ps).length - 1) c 0
theorem turns_sq (m : Nat) (ps : List (Int × Int)) : (turnsP m ps).length ≤ m * m := by
  have h1 := List.length_filter_le (fun p : Int × Int => apartB ps p.1 p.2) (gridP m)
  have h2 : (gridP m).length = m * m := by
    unfold gridP
    rw [List.length_flatMap]
    simp only [List.length_map, List.length_range]
    exact const_sum m m
  rw [h2] at h1
  exact h1
theorem r_lists_many (n m : Nat) (ps : List (Int × Int)) (o : IsOrd m ps) (m4 : m ≤ 4) (c : Nat) (c1 : 1 ≤ c) (c4 : c ≤ 4) : tx.go (n+9) "lists_many" [.val (ordD m ps), .val (.int c)] = .ok (.val (.int (manyL m ps c : Nat)), [.val (ordD m ps), .val (.int c)]) := by
  rw [go_at tx (d := d_lists_many) rfl]
  refine ok_of_wp ?_
  have hm : m ≤ 8 := by omega
  have nf : tx.go (n + 8) "need_few" [.val (ordD m ps)] = .ok (.val .none, [.val (ordD m ps)]) := r_need_few (n + 3) m ps o m4
  obtain ⟨_, e1, rfl⟩ := r_all_turns (n + 6) m ps hm
  have e1 : tx.go (n + 8) "all_turns" [.val (ordD m ps)] = .ok (.own (psD (turnsP m ps)), [.val (ordD m ps)]) := e1
  have e2 := r_rows_from (n + 6 - m) m ps o (by omega) m [] (by simp)
  rw [show n + 6 - m + 2 + m = n + 8 by omega] at e2
  have wh : tx.go (n + 8) "is_whole" [.val (.int c)] = .ok (.val (.bool true), [.val (.int c)]) := r_is_whole (n + 7) (.int c)
  have tl := turns_len hm ps
  have t16 : (turnsP m ps).length ≤ 16 := Nat.le_trans (turns_sq m ps) (Nat.mul_le_mul m4 m4)
  have lE := ext_leM m ps m []
  have p4 : m ^ m ≤ 256 := by
    have h1 : m ^ m ≤ 4 ^ m := Nat.pow_le_pow_left m4 m
    have h2 : 4 ^ m ≤ 4 ^ 4 := Nat.pow_le_pow_right (by decide) m4
    omega
  have mem : ∀ r ∈ ext m ps m [], ∀ p ∈ turnsP m ps, p.1 ∈ r ∧ p.2 ∈ r := fun r hr p hp => by
    have pm := (in_row o hr).1
    have g := (mem_turns.mp hp).1
    exact ⟨pm.mem_iff.mpr (mem_upTo.mpr (by omega)), pm.mem_iff.mpr (mem_upTo.mpr (by omega))⟩
  unfold manyL
  generalize turnsP m ps = T at *
  generalize ext m ps m [] = E at *
  have hk : 2 ^ T.length ≤ 900000 := Nat.le_trans (Nat.pow_le_pow_right (by decide) t16) (by decide)
  have hE : ∀ r ∈ E, markN T r < 2 ^ T.length := fun r _ => mk_lt (trnB r) T
  have sh : pShl [.int 1, .int (T.length : Int)] = some (.val (.int ((2 ^ T.length : Nat) : Int))) := by
    have h1 : decide (0 ≤ (T.length : Int)) = true := decide_eq_true (by omega)
    have h2 : decide ((T.length : Int) ≤ 1000000) = true := decide_eq_true (by omega)
    show (if (decide (0 ≤ (T.length : Int)) && decide ((T.length : Int) ≤ 1000000) && decide ((1 : Int).natAbs < 2 ^ 64)) = true then some (Slot.val (PyData.int (1 * 2 ^ (T.length : Int).toNat))) else none) = _
    rw [h1, h2, if_pos (by decide)]
    simp
  have pos : 0 < 2 ^ T.length := Nat.pow_pos (by decide)
  have sb : ((2 ^ T.length : Nat) : Int) - 1 = ((2 ^ T.length - 1 : Nat) : Int) := by omega
  have lT : (psD T).length = T.length := psD_len _
  have lR : (rsD E).length ≤ 1000000 := by rw [List.length_map]; omega
  have mk := fun (r : List Int) (hr : r ∈ E) => r_mark_of (n + 7) r T (by omega) (mem r hr)
  have lc : ∀ s1 : Slot, (s1 = .own (psD T) ∨ s1 = .val (.list (psD T))) → (lcL (lcT (.nm 9) (dYes) (dCall "mark_of" 2 (asVar 9 (asVar 2 (asNil)))) [9] (tx.go (n + 8))) (rsD E) [.val (ordD m ps), .val (.int c), s1, .un, .un, .un, .un, .un, .un, .un]).wp (fun q => ∃ s1, q = (mkD (markN T) E, [.val (ordD m ps), .val (.int c), s1, .un, .un, .un, .un, .un, .un, .un]) ∧ (s1 = .own (psD T) ∨ s1 = .val (.list (psD T)))) fun _ => False := fun s1 h1 => by
    refine lcI_wp (fun j acc ρ => ∃ s1, ρ = [.val (ordD m ps), .val (.int c), s1, .un, .un, .un, .un, .un, .un, .un] ∧ (s1 = .own (psD T) ∨ s1 = .val (.list (psD T))) ∧ acc = mkD (markN T) (E.take j)) ⟨s1, rfl, h1, rfl⟩ (fun out ρ ⟨s1, e, h1, ha⟩ => ?_) fun j d acc ρ hd ⟨s1, e, h1, ha⟩ => ?_
    · rw [List.length_map, List.take_length] at ha
      exact ⟨s1, by rw [e, ha], h1⟩
    · subst e ha
      have hj : j < E.length := by
        have := (List.getElem?_eq_some_iff.mp hd).1
        rwa [List.length_map] at this
      have ed : d = .tuple (nsD E[j]) := by
        have h := hd
        rw [List.getElem?_map, List.getElem?_eq_getElem hj] at h
        exact (Option.some.inj h).symm
      subst ed
      obtain ⟨s, e, hs⟩ := mk E[j] (List.getElem_mem hj) s1 h1
      have us : mkD (markN T) (E.take (j + 1)) = mkD (markN T) (E.take j) ++ [.int (markN T E[j] : Nat)] := by
        unfold mkD
        rw [List.take_succ_eq_append_getElem hj, List.map_append]
        rfl
      have hs' : s = .own (psD T) ∨ s = .val (.list (psD T)) := hs.elim (fun z => by rw [z]; exact h1) .inr
      rw [us]
      generalize mkD (markN T) (E.take j) = A at *
      generalize markN T E[j] = K at *
      generalize nsD E[j] = R at *
      generalize psD T = P at *
      rcases h1 with rfl | rfl <;> simp [e] <;> exact hs'
  have nn : nsD [] = [] := rfl
  rw [nn] at e2
  have lE6 : E.length ≤ 1000000 := by omega
  have cc1 : (1 : Int) ≤ c := by omega
  have cc4 : (c : Int) ≤ 4 := by omega
  have sc : small62 c = true := small_in (by omega) (by omega)
  obtain ⟨w, hw⟩ : ∃ w, w = 2 ^ T.length - 1 := ⟨_, rfl⟩
  rw [← hw] at sb ⊢
  have bz : ∀ t, t < c → (fun d => (E.map fun r => bkN E (markN T) w (c - (t + 1)) (d ||| markN T r)).sum) = bkN E (markN T) w (c - t) := fun t ht => by
    rw [show c - t = c - (t + 1) + 1 by omega]
    rfl
  simp [d_lists_many, b_lists_many, nf, wh, cc1, cc4, e1, e2, lR, lE6, -x_lcT]
  refine wp_bind' (wp_bind' (wp_bind' (wp_bind' (noX_wp (wp_mono (lc _ (.inl rfl)) ?_ fun _ z => z)))))
  rintro _ ⟨s2, rfl, h2⟩
  have mD : mkD (markN T) E = E.map fun r => PyData.int (markN T r : Nat) := rfl
  have lM : (mkD (markN T) E).length ≤ 1000000 := by unfold mkD; rw [List.length_map]; exact lE6
  simp [lM, sc]
  refine wp_bind' (forR_wp (fun t ρ => ∃ U s3 s5 s6 s7 s8, ρ = [.val (ordD m ps), .val (.int c), s2, s3, .odc false (tabC U), s5, s6, s7, s8, .un] ∧ (s3 = .own (E.map fun r => PyData.int (markN T r : Nat)) ∨ s3 = .val (.list (E.map fun r => PyData.int (markN T r : Nat)))) ∧ KOk (2 ^ T.length) U ∧ sumC (bkN E (markN T) w (c - t)) U = bkN E (markN T) w c 0) ⟨[(0, 1)], _, _, _, _, _, rfl, .inl rfl, ⟨by simp, fun e he => by rw [List.mem_singleton.mp he]; exact pos⟩, by simp [sumC]⟩ (fun ρ hI => ?_) fun t ρ ht hI => ?_)
  · obtain ⟨U, s3, s5, s6, s7, s8, e, h3, h4, h5⟩ := hI
    subst e
    rw [Nat.sub_self] at h5
    have h6 : sumC (bkN E (markN T) w 0) U = gC U w := sum_w h4.1
    rw [h6] at h5
    have g := get_c U w
    rw [h5] at g
    generalize bkN E (markN T) w c 0 = R at *
    generalize tabC U = UU at *
    generalize 2 ^ T.length = M at *
    generalize psD T = P at *
    rcases h2 with rfl | rfl <;> simp [lT, sh, sb, g]
  · obtain ⟨U, s3, s5, s6, s7, s8, e, h3, h4, h5⟩ := hI
    subst e
    have lo := fun s5 => lm_out (tx.go (n + 8)) E (markN T) lE6 T.length hk hE (bkN E (markN T) w (c - (t + 1))) U h4 (.val (ordD m ps)) (.val (.int c)) s2 s3 s5 s7 s8 h3
    rw [bz t ht, h5] at lo
    have rt : bkN E (markN T) w c 0 = bkN E (markN T) w c 0 := rfl
    clear h5 bz lc mk e2
    simp
    refine wp_bind' (wp_mono (lo _) ?_ fun _ z => z)
    rintro _ ⟨L', s3', s7', s8', rfl, g1, g2, g3⟩
    simp
    exact ⟨L', _, ⟨rfl, rfl⟩, g1, g2, g3⟩
end Dn.M73

namespace Dn.M73
open PySem PySem.Spec L2
open PyProof.Rows hiding St
/-! ### tables whose keys are lists of pairs -/
abbrev LK := List (Int × Int)
def tabW (Z : List (LK × Nat)) : List (PyData × PyData) := Z.map fun e => (PyData.tuple (psD e.1), PyData.int (e.2 : Nat))
def keyP (L : LK) : NestedKey := .tup (L.map fun p => .tup [.num p.1, .num p.2])
theorem pair_data (p : Int × Int) : (NestedKey.tup [.num p.1, .num p.2]).data = prD p := by
  rw [NestedKey.data, NestedKey.datas, NestedKey.datas, NestedKey.datas, NestedKey.data, NestedKey.data]
  rfl
theorem keyP_data (L : LK) : (keyP L).data = .tuple (psD L) := by
  have : ∀ L : LK, NestedKey.datas (L.map fun p => .tup [.num p.1, .num p.2]) = psD L := by
    intro L
    induction L with
    | nil => rw [List.map_nil, NestedKey.datas]; rfl
    | cons p L ih => rw [List.map_cons, NestedKey.datas, ih, pair_data]; rfl
  unfold keyP
  rw [NestedKey.data, this]
theorem keyP_ok (L : LK) : okN (keyP L) = true := by
  have h1 : ∀ L : LK, numNs (L.map fun p => .tup [.num p.1, .num p.2]) = true := by
    intro L
    induction L with
    | nil => rw [List.map_nil, numNs]
    | cons p L ih => rw [List.map_cons, numNs, ih, numN]; rfl
  have h2 : ∀ L : LK, NestedKey.depthAll (L.map fun p => .tup [.num p.1, .num p.2]) ≤ 1 := by
    intro L
    induction L with
    | nil => rw [List.map_nil, NestedKey.depthAll]; exact Nat.zero_le _
    | cons p L ih => rw [List.map_cons, NestedKey.depthAll, NestedKey.depth]; rw [NestedKey.depthAll, NestedKey.depthAll, NestedKey.depthAll, NestedKey.depth, NestedKey.depth]; exact Nat.max_le.mpr ⟨by decide, ih⟩
  unfold okN keyP
  rw [numN, h1, Bool.true_and, NestedKey.depth]
  have := h2 L
  exact decide_eq_true (by omega)
theorem keyP_inj {a b : LK} : keyP a = keyP b ↔ a = b := by
  constructor
  · intro h
    have h : (a.map fun p : Int × Int => NestedKey.tup [.num p.1, .num p.2]) = b.map fun p => .tup [.num p.1, .num p.2] := NestedKey.tup.inj h
    induction a generalizing b with
    | nil =>
      cases b with
      | nil => rfl
      | cons _ _ => cases h
    | cons x a ih =>
      cases b with
      | nil => cases h
      | cons y b =>
        rw [List.map_cons, List.map_cons] at h
        obtain ⟨h1, h2⟩ := List.cons.inj h
        have h1 := NestedKey.tup.inj h1
        obtain ⟨h3, h4⟩ := List.cons.inj h1
        have h4 := (List.cons.inj h4).1
        rw [ih (b := b) (by unfold keyP; rw [h2]) h2, Prod.ext (NestedKey.num.inj h3) (NestedKey.num.inj h4)]
  · rintro rfl
    rfl
theorem keyT_ps (L : LK) : keyT (.tuple (psD L)) = some (keyP L) := by
  have := keyT_data (keyP_ok L) ⟨_, rfl⟩
  rwa [keyP_data] at this
theorem kEq_ps (a b : LK) : kEq (.tuple (psD a)) (.tuple (psD b)) = decide (a = b) := by
  have := kEq_N (okN_num (keyP_ok a)) (okN_num (keyP_ok b)) ⟨_, rfl⟩ ⟨_, rfl⟩
  rw [keyP_data, keyP_data] at this
  rw [this]
  exact decide_eq_decide.mpr keyP_inj
theorem look_w (Z : List (LK × Nat)) (L : LK) : lookD (tabW Z) (.tuple (psD L)) = (lookL Z L).map fun v : Nat => PyData.int (v : Int) := lookD_enc (fun L : LK => PyData.tuple (psD L)) kEq_ps (fun v : Nat => PyData.int (v : Int)) Z L
theorem put_w (Z : List (LK × Nat)) (L : LK) (v : Nat) : _root_.Dn.putD (tabW Z) (.tuple (psD L)) (.int (v : Nat)) = tabW (putL Z L v) := putD_enc (fun L : LK => PyData.tuple (psD L)) kEq_ps (fun v : Nat => PyData.int (v : Int)) Z L v
def gW (Z : List (LK × Nat)) (x : LK) : Nat := (lookL Z x).getD 0
theorem lookI_w (Z : List (LK × Nat)) (L : LK) : lookI (tabW Z) (.tuple (psD L)) = some (gW Z L : Int) := by
  unfold lookI gW
  rw [look_w]
  cases lookL Z L <;> rfl
def addW (Z : List (LK × Nat)) (x : LK) (v : Nat) : List (LK × Nat) := putL Z x (gW Z x + v)
theorem putw_keys (T : List (LK × Nat)) (k : LK) (v : Nat) : (putL T k v).map (·.1) = if (lookL T k).isSome = true then T.map (·.1) else T.map (·.1) ++ [k] := by
  unfold putL
  split
  · rw [List.map_map]
    refine List.map_congr_left fun e _ => ?_
    show (if e.1 = k then (e.1, v) else e).1 = e.1
    split <;> rfl
  · rw [List.map_append]
    rfl
theorem lookw_none {T : List (LK × Nat)} {k : LK} (h : ¬ (lookL T k).isSome = true) : k ∉ T.map (·.1) := fun z => by
  obtain ⟨e, he, rfl⟩ := List.mem_map.mp z
  unfold lookL at h
  rw [Option.isSome_map, List.find?_isSome] at h
  exact h ⟨e, he, by simp⟩
theorem addw_nd {T : List (LK × Nat)} (h : (T.map (·.1)).Nodup) (k : LK) (v : Nat) : ((addW T k v).map (·.1)).Nodup := by
  unfold addW
  rw [putw_keys]
  split
  · exact h
  · rename_i c
    exact List.nodup_append.mpr ⟨h, List.nodup_cons.mpr ⟨List.not_mem_nil, List.nodup_nil⟩, fun a ha b hb e => by
      rw [List.mem_singleton.mp hb] at e
      exact lookw_none c (e ▸ ha)⟩
theorem addw_len (T : List (LK × Nat)) (k : LK) (v : Nat) : (addW T k v).length ≤ T.length + 1 := by
  unfold addW putL
  split
  · rw [List.length_map]; omega
  · rw [List.length_append, List.length_singleton]; exact Nat.le_refl _
def sumW (f : LK → Nat) (T : List (LK × Nat)) : Nat := (T.map fun e => e.2 * f e.1).sum
theorem sumw_rep (f : LK → Nat) {x : LK} {u v : Nat} : ∀ {L : List (LK × Nat)}, (L.map (·.1)).Nodup → lookL L x = some u → sumW f (L.map fun e => if e.1 = x then (e.1, u + v) else e) = sumW f L + v * f x
  | [], _, h => by cases h
  | e :: L, nd, h => by
    rw [List.map_cons, List.nodup_cons] at nd
    unfold sumW
    rw [List.map_cons, List.map_cons, List.map_cons, List.sum_cons, List.sum_cons]
    by_cases c : e.1 = x
    · have eu : e.2 = u := by
        have h : (List.find? (fun e => decide (e.1 = x)) (e :: L)).map (·.2) = some u := h
        rw [List.find?_cons, decide_eq_true c] at h
        exact Option.some.inj h
      have rest : (L.map fun e => if e.1 = x then (e.1, u + v) else e) = L := by
        have : (L.map fun e => if e.1 = x then (e.1, u + v) else e) = L.map id := List.map_congr_left fun y hy => by
          rw [if_neg fun z => nd.1 (List.mem_map.mpr ⟨y, hy, by rw [c, z]⟩)]
          rfl
        rw [this, List.map_id]
      rw [rest, if_pos c]
      show (u + v) * f e.1 + _ = e.2 * f e.1 + _ + _
      rw [eu, c, Nat.add_mul]
      omega
    · have h : lookL L x = some u := by
        have h : (List.find? (fun e => decide (e.1 = x)) (e :: L)).map (·.2) = some u := h
        rw [List.find?_cons, decide_eq_false c] at h
        exact h
      have ih := sumw_rep f (v := v) nd.2 h
      unfold sumW at ih
      rw [ih, if_neg c]
      omega
theorem sumw_add (f : LK → Nat) {L : List (LK × Nat)} (nd : (L.map (·.1)).Nodup) (x : LK) (v : Nat) : sumW f (addW L x v) = sumW f L + v * f x := by
  unfold addW gW
  cases h : lookL L x with
  | some u =>
    unfold putL
    rw [h, if_pos (show (some u).isSome = true from rfl)]
    exact sumw_rep f nd h
  | none =>
    unfold putL
    rw [h, if_neg (by simp)]
    unfold sumW
    rw [List.map_append, List.sum_append]
    simp
theorem sumw_w {w : LK} : ∀ {T : List (LK × Nat)}, (T.map (·.1)).Nodup → sumW (fun d => if d = w then 1 else 0) T = gW T w
  | [], _ => rfl
  | e :: T, nd => by
    rw [List.map_cons, List.nodup_cons] at nd
    have ih := sumw_w (w := w) nd.2
    unfold sumW at ih ⊢
    rw [List.map_cons, List.sum_cons, ih]
    unfold gW lookL
    rw [List.find?_cons]
    show e.2 * (if e.1 = w then 1 else 0) + _ = _
    by_cases c : e.1 = w
    · rw [decide_eq_true c, if_pos c]
      have : List.find? (fun e => decide (e.1 = w)) T = none := List.find?_eq_none.mpr fun y hy z => nd.1 (List.mem_map.mpr ⟨y, hy, by rw [c]; simpa using z⟩)
      rw [this]
      simp
    · rw [decide_eq_false c, if_neg c]
      simp
/-! ### how many lists of rows leave no turn -/
def leftB (r : List Int) (p : Int × Int) : Bool := decide (r.idxOf p.1 < r.idxOf p.2)
def ckW (E : List (List Int)) : Nat → LK → Nat
  | 0, L => if L = [] then 1 else 0
  | c + 1, L => (E.map fun r => ckW E c (L.filter (leftB r))).sum
end Dn.M73

namespace Dn.M73
open PySem PySem.Spec L2
open PyProof.Rows hiding St
/-- keys that are different, each some of T -/
def KW (T : LK) (Z : List (LK × Nat)) : Prop := (Z.map (·.1)).Nodup ∧ ∀ e ∈ Z, e.1.length ≤ 64 ∧ ∀ p ∈ e.1, p ∈ T
theorem KW.add {T : LK} {Z : List (LK × Nat)} (h : KW T Z) {k : LK} {v : Nat} (h1 : k.length ≤ 64) (h2 : ∀ p ∈ k, p ∈ T) : KW T (addW Z k v) := by
  refine ⟨addw_nd h.1 k v, fun e he => ?_⟩
  unfold addW putL at he
  split at he
  · obtain ⟨e', h', rfl⟩ := List.mem_map.mp he
    have := h.2 e' h'
    split <;> exact this
  · rcases List.mem_append.mp he with he | he
    · exact h.2 e he
    · rw [List.mem_singleton.mp he]; exact ⟨h1, h2⟩
def restB : DenS := dSet 8 (dP pTupOf (osCons (oOf (dLc (.nm 9) (iSeq (oOf (dVar 6))) (dP pLt (osCons (oOf (dM "tuple" pTIndex (oVar 7) (osCons (oOf (dP pIx (osCons (oVar 9) (osCons (oOf (dLit (.int 0))) (osNil))))) (osNil)))) (osCons (oOf (dM "tuple" pTIndex (oVar 7) (osCons (oOf (dP pIx (osCons (oVar 9) (osCons (oOf (dLit (.int 1))) (osNil))))) (osNil)))) (osNil)))) (dVar 9) [9])) (osNil)))
theorem lw_in (Φ : Calls) (E : List (List Int)) (T : LK) (hE : ∀ r ∈ E, ∀ p ∈ T, p.1 ∈ r ∧ p.2 ∈ r) (f : LK → Nat) (Z : List (LK × Nat)) (hZ : KW T Z) (e : LK × Nat) (he : e ∈ Z)
    (s0 s2 s4 s7 s8 : Slot) (L : List (LK × Nat)) (hL : KW T L) (hl : L.length + E.length < 900000) :
    (forL (fB (.nm 7) (dSeq restB (dAddW (tabW Z) 5 8 6)) Φ) (rsD E) [s0, .val (.list (rsD E)), s2, .un, s4, .odc true (tabW L), .val (.tuple (psD e.1)), s7, s8, .un]).wp (fun q => ∃ L' s7 s8, q = (.nx, [s0, .val (.list (rsD E)), s2, .un, s4, .odc true (tabW L'), .val (.tuple (psD e.1)), s7, s8, .un]) ∧ KW T L' ∧ L'.length ≤ L.length + E.length ∧ sumW f L' = sumW f L + e.2 * (E.map fun r => f (e.1.filter (leftB r))).sum) fun _ => False := by
  refine forI_wp (fun j ρ => ∃ L' s7 s8, ρ = [s0, .val (.list (rsD E)), s2, .un, s4, .odc true (tabW L'), .val (.tuple (psD e.1)), s7, s8, .un] ∧ KW T L' ∧ L'.length ≤ L.length + j ∧ sumW f L' = sumW f L + e.2 * ((E.take j).map fun r => f (e.1.filter (leftB r))).sum) ⟨L, s7, s8, rfl, hL, by omega, by simp⟩ (fun ρ ⟨L', s7, s8, h1, h2, h4, h3⟩ => ?_) fun j d ρ hd ⟨L', s7, s8, h1, h2, h4, h3⟩ => ?_
  · rw [List.length_map] at h3 h4
    rw [List.take_length] at h3
    exact ⟨L', s7, s8, by rw [h1], h2, h4, h3⟩
  · subst h1
    have hj : j < E.length := by
      have := (List.getElem?_eq_some_iff.mp hd).1
      rwa [List.length_map] at this
    have ed : d = .tuple (nsD E[j]) := by
      have h := hd
      rw [List.getElem?_map, List.getElem?_eq_getElem hj] at h
      exact (Option.some.inj h).symm
    subst ed
    have mr := hE E[j] (List.getElem_mem hj)
    obtain ⟨k1, k2⟩ := hZ.2 e he
    have tk : ((E.take (j + 1)).map fun r => f (e.1.filter (leftB r))).sum = ((E.take j).map fun r => f (e.1.filter (leftB r))).sum + f (e.1.filter (leftB E[j])) := by
      rw [List.take_succ_eq_append_getElem hj, List.map_append, List.sum_append]
      simp
    have nk := h2.add (k := e.1.filter (leftB E[j])) (v := e.2) (Nat.le_trans (List.length_filter_le _ _) k1) (fun p hp => k2 p (List.mem_filter.mp hp).1)
    have nl := addw_len L' (e.1.filter (leftB E[j])) e.2
    have ns := sumw_add f h2.1 (e.1.filter (leftB E[j])) e.2
    have fin : sumW f (addW L' (e.1.filter (leftB E[j])) e.2) = sumW f L + e.2 * ((E.take (j + 1)).map fun r => f (e.1.filter (leftB r))).sum := by
      rw [ns, h3, tk, Nat.mul_add, Nat.add_assoc]
    have lc : lcL (lcT (.nm 9) (dP pLt (osCons (oOf (dM "tuple" pTIndex (oVar 7) (osCons (oOf (dP pIx (osCons (oVar 9) (osCons (oOf (dLit (.int 0))) (osNil))))) (osNil)))) (osCons (oOf (dM "tuple" pTIndex (oVar 7) (osCons (oOf (dP pIx (osCons (oVar 9) (osCons (oOf (dLit (.int 1))) (osNil))))) (osNil)))) (osNil)))) (dVar 9) [9] Φ) (psD e.1) [s0, .val (.list (rsD E)), s2, .un, s4, .odc true (tabW L'), .val (.tuple (psD e.1)), .val (.tuple (nsD E[j])), s8, .un] = .ok (psD (e.1.filter (leftB E[j])), [s0, .val (.list (rsD E)), s2, .un, s4, .odc true (tabW L'), .val (.tuple (psD e.1)), .val (.tuple (nsD E[j])), s8, .un]) := by
      refine lcL_enc2 prD (leftB E[j]) prD e.1 fun q hq => ?_
      obtain ⟨m1, m2⟩ := mr q (k2 q hq)
      have i1 := x_tidx E[j] q.1 m1
      have i2 := x_tidx E[j] q.2 m2
      unfold leftB
      generalize E[j].idxOf q.1 = A at *
      generalize E[j].idxOf q.2 = B at *
      generalize nsD E[j] = R at *
      by_cases c : A < B
      · simp [prD, i1, i2, c, isT]
      · simp [prD, i1, i2, c, isT]
    have aw := addW_ok (Φ := Φ) (ρ := [s0, .val (.list (rsD E)), s2, .un, s4, .odc true (tabW L'), .val (.tuple (psD e.1)), .val (.tuple (nsD E[j])), .val (.tuple (psD (e.1.filter (leftB E[j])))), .un]) (L := 5) (r := 8) (t := 6) (es := tabW Z) (ls := tabW L') (k := .tuple (psD (e.1.filter (leftB E[j])))) (u := .tuple (psD e.1)) (x := gW L' (e.1.filter (leftB E[j]))) (y := (e.2 : Int)) rfl rfl rfl (by rw [keyT_ps]; rfl) (by rw [keyT_ps]; rfl) (by unfold tabW; rw [List.length_map]; omega) (lookI_w L' _) (by rw [look_w, lookL_of hZ.1 he]; rfl)
    have ad : ((gW L' (e.1.filter (leftB E[j])) : Int) + (e.2 : Int)) = ((gW L' (e.1.filter (leftB E[j])) + e.2 : Nat) : Int) := by omega
    rw [ad, put_w] at aw
    have aw : dAddW (tabW Z) 5 8 6 Φ [s0, .val (.list (rsD E)), s2, .un, s4, .odc true (tabW L'), .val (.tuple (psD e.1)), .val (.tuple (nsD E[j])), .val (.tuple (psD (e.1.filter (leftB E[j])))), .un] = .ok (Fl.nx, [s0, .val (.list (rsD E)), s2, .un, s4, .odc true (tabW (addW L' (e.1.filter (leftB E[j])) e.2)), .val (.tuple (psD e.1)), .val (.tuple (nsD E[j])), .val (.tuple (psD (e.1.filter (leftB E[j])))), .un]) := aw
    have lX : e.1.length ≤ 1000000 := by omega
    have lX' : (psD e.1).length ≤ 1000000 := by rw [List.length_map]; omega
    have lY : (psD (e.1.filter (leftB E[j]))).length ≤ 1000000 := by rw [List.length_map]; have := List.length_filter_le (leftB E[j]) e.1; omega
    refine wp_eq (a := (Fl.nx, [s0, .val (.list (rsD E)), s2, .un, s4, .odc true (tabW (addW L' (e.1.filter (leftB E[j])) e.2)), .val (.tuple (psD e.1)), .val (.tuple (nsD E[j])), .val (.tuple (psD (e.1.filter (leftB E[j])))), .un])) ?_ ⟨_, _, _, rfl, nk, by omega, fin⟩
    clear fin ns nk tk h3 ad
    generalize tabW (addW L' (e.1.filter (leftB E[j])) e.2) = D2 at *
    generalize tabW L' = D at *
    generalize tabW Z = ZZ at *
    generalize psD (e.1.filter (leftB E[j])) = Y at *
    generalize psD e.1 = X at *
    generalize nsD E[j] = R at *
    generalize rsD E = RE at *
    unfold restB
    simp [lX', -x_lcT]
    rw [lc]
    simp [lY, aw]
end Dn.M73

namespace Dn.M73
open PySem PySem.Spec L2
open PyProof.Rows hiding St
/-! ### few rows -/
def facN : Nat → Nat
  | 0 => 1
  | k + 1 => (k + 1) * facN k
theorem flat_mem {α β : Type} (f : α → List β) (c : Nat) : ∀ l : List α, (∀ x ∈ l, (f x).length ≤ c) → (l.flatMap f).length ≤ l.length * c
  | [], _ => by simp
  | x :: l, h => by
    have h1 := h x List.mem_cons_self
    have h2 := flat_mem f c l fun y hy => h y (List.mem_cons_of_mem _ hy)
    rw [List.flatMap_cons, List.length_append, List.length_cons, Nat.succ_mul]
    omega
theorem ext_fac (m : Nat) (ps : List (Int × Int)) : ∀ (k : Nat) (R : List Int), Beg m ps R → R.length + k = m → (ext m ps k R).length ≤ facN k
  | 0, _, _, _ => by simp [ext, facN]
  | k + 1, R, b, h => by
    show ((freeI m ps R).flatMap fun x => ext m ps k (R ++ [x])).length ≤ (k + 1) * facN k
    have h1 := flat_mem (fun x => ext m ps k (R ++ [x])) (facN k) (freeI m ps R) fun x hx => ext_fac m ps k (R ++ [x]) (b.snoc hx) (by rw [List.length_append, List.length_singleton]; omega)
    have nf : (freeI m ps R).Nodup := (upTo_nd m).filter _
    have h2 := nodup_len (freeI m ps R ++ R) (upTo m) (List.nodup_append.mpr ⟨nf, b.nd, fun a ha c hc e => by subst e; exact (mem_free.mp ha).2.1 hc⟩) fun x hx => (List.mem_append.mp hx).elim (fun z => (mem_free.mp z).1) (b.sub x)
    rw [List.length_append, upTo_len] at h2
    have h3 : (freeI m ps R).length ≤ k + 1 := by omega
    exact Nat.le_trans h1 (Nat.mul_le_mul_right _ h3)
theorem rows_24 {m : Nat} (m4 : m ≤ 4) (ps : List (Int × Int)) : (ext m ps m []).length ≤ 24 := by
  have h := ext_fac m ps m [] .nil (by simp)
  have : ∀ m : Nat, m < 5 → facN m ≤ 24 := by decide
  have := this m (by omega)
  omega
/-! ### a turn -/
theorem lw_out (Φ : Calls) (E : List (List Int)) (T : LK) (hE : ∀ r ∈ E, ∀ p ∈ T, p.1 ∈ r ∧ p.2 ∈ r) (f : LK → Nat) (Z : List (LK × Nat)) (hZ : KW T Z) (hl : Z.length * E.length + E.length < 900000) (lE : E.length ≤ 1000)
    (O C : PyData) (s4 s6 s7 s8 : Slot) :
    (dForW 6 3 (fun es => dFor (.nm 7) (iSeq (oOf (dVar 1))) (dSeq restB (dAddW es 5 8 6))) Φ [.val O, .val (.list (rsD E)), .val C, .odc true (tabW Z), s4, .odc true [], s6, s7, s8, .un]).wp (fun q => ∃ L' s6 s7 s8, q = (.nx, [.val O, .val (.list (rsD E)), .val C, .un, s4, .odc true (tabW L'), s6, s7, s8, .un]) ∧ KW T L' ∧ L'.length ≤ Z.length * E.length ∧ sumW f L' = sumW (fun X => (E.map fun r => f (X.filter (leftB r))).sum) Z) fun _ => False := by
  refine forW_wp (es := tabW Z) rfl rfl ?_
  have ek : (tabW Z).map (·.1) = Z.map fun e => PyData.tuple (psD e.1) := by
    unfold tabW
    rw [List.map_map]
    rfl
  rw [ek]
  refine forI_wp (fun j ρ => ∃ L' s6 s7 s8, ρ = [.val O, .val (.list (rsD E)), .val C, .un, s4, .odc true (tabW L'), s6, s7, s8, .un] ∧ KW T L' ∧ L'.length ≤ j * E.length ∧ sumW f L' = sumW (fun X => (E.map fun r => f (X.filter (leftB r))).sum) (Z.take j)) ⟨[], s6, s7, s8, rfl, ⟨List.nodup_nil, fun _ h => nomatch h⟩, Nat.zero_le _, rfl⟩ (fun ρ ⟨L', s6, s7, s8, e, h4, h6, h5⟩ => ?_) fun j d ρ hd ⟨L', s6, s7, s8, e, h4, h6, h5⟩ => ?_
  · rw [List.length_map] at h5 h6
    rw [List.take_length] at h5
    exact ⟨L', s6, s7, s8, by rw [e], h4, h6, h5⟩
  · subst e
    have hj : j < Z.length := by
      have := (List.getElem?_eq_some_iff.mp hd).1
      rwa [List.length_map] at this
    have ed : d = .tuple (psD Z[j].1) := by
      have h := hd
      rw [List.getElem?_map, List.getElem?_eq_getElem hj] at h
      exact (Option.some.inj h).symm
    subst ed
    have mj := List.getElem_mem hj
    have mul : j * E.length ≤ Z.length * E.length := Nat.mul_le_mul_right _ (Nat.le_of_lt hj)
    have lin := lw_in Φ E T hE f Z hZ Z[j] mj (.val O) (.val C) s4 s7 s8 L' h4 (by omega)
    have tk : sumW (fun X => (E.map fun r => f (X.filter (leftB r))).sum) (Z.take (j + 1)) = sumW (fun X => (E.map fun r => f (X.filter (leftB r))).sum) (Z.take j) + Z[j].2 * (E.map fun r => f (Z[j].1.filter (leftB r))).sum := by
      unfold sumW
      rw [List.take_succ_eq_append_getElem hj, List.map_append, List.sum_append]
      simp
    rw [tk, ← h5]
    have le : (rsD E).length ≤ 1000000 := by rw [List.length_map]; omega
    have js : (j + 1) * E.length = j * E.length + E.length := Nat.succ_mul _ _
    rw [js]
    show ((dFor (.nm 7) (iSeq (oOf (dVar 1))) (dSeq restB (dAddW (tabW Z) 5 8 6))) Φ [.val O, .val (.list (rsD E)), .val C, .un, s4, .odc true (tabW L'), .val (.tuple (psD Z[j].1)), s7, s8, .un]).wp _ _
    generalize tabW Z = ZZ at *
    generalize psD Z[j].1 = X at *
    generalize rsD E = RE at *
    rw [x_dFor]
    simp [-x_dFor2]
    refine wp_mono lin ?_ fun _ z => z
    rintro _ ⟨L2, s7', s8', rfl, g1, g3, g2⟩
    exact ⟨L2, ⟨_, _, _, rfl⟩, g1, by omega, g2⟩
theorem r_law_ways (n m : Nat) (ps : List (Int × Int)) (m4 : m ≤ 4) (E : List (List Int)) (lE : E.length ≤ 24) (hE : ∀ r ∈ E, ∀ p ∈ lturnsP m ps, p.1 ∈ r ∧ p.2 ∈ r) (c : Nat) (c4 : c ≤ 4) :
    tx.go (n+3) "_law_ways" [.val (ordD m ps), .val (.list (rsD E)), .val (.int c)] = .ok (.val (.int (ckW E c (lturnsP m ps) : Nat)), [.val (ordD m ps), .val (.list (rsD E)), .val (.int c)]) := by
  rw [go_at tx (d := d__law_ways) rfl]
  refine ok_of_wp ?_
  obtain ⟨_, e1, rfl⟩ := r_law_turns n m ps (by omega)
  have e1 : tx.go (n + 2) "_law_turns" [.val (ordD m ps)] = .ok (.own (psD (lturnsP m ps)), [.val (ordD m ps)]) := e1
  have tl : (lturnsP m ps).length ≤ 64 := turns_len (by omega) ps
  generalize lturnsP m ps = T at *
  generalize ordD (m : Int) ps = O at *
  have lT : (psD T).length ≤ 1000000 := by rw [List.length_map]; omega
  have kT : (keyT (.tuple (psD T))).isSome = true := by rw [keyT_ps]; rfl
  have sc : small62 c = true := small_in (by omega) (by omega)
  have cN : (c : Int).toNat = c := by omega
  have t0 : [(PyData.tuple (psD T), PyData.int 1)] = tabW [(T, 1)] := rfl
  have p24 : ∀ t, t < 4 → 24 ^ t * 24 + 24 < 900000 := by decide
  have ini : KW T [(T, 1)] ∧ [(T, 1)].length ≤ 24 ^ 0 ∧ sumW (ckW E (c - 0)) [(T, 1)] = ckW E c T := ⟨⟨by simp, fun e he => by rw [List.mem_singleton.mp he]; exact ⟨tl, fun _ z => z⟩⟩, Nat.le_refl _, by simp [sumW]⟩
  have bz : ∀ t, t < c → (fun X => (E.map fun r => ckW E (c - (t + 1)) (X.filter (leftB r))).sum) = ckW E (c - t) := fun t ht => by
    rw [show c - t = c - (t + 1) + 1 by omega]
    rfl
  simp [d__law_ways, b__law_ways, e1, lT, kT, sc, t0]
  refine wp_bind' (wp_bind' (forR_wp (fun t ρ => ∃ U s4 s5 s6 s7 s8, ρ = [.val O, .val (.list (rsD E)), .val (.int c), .odc true (tabW U), s4, s5, s6, s7, s8, .un] ∧ KW T U ∧ U.length ≤ 24 ^ t ∧ sumW (ckW E (c - t)) U = ckW E c T) ⟨[(T, 1)], _, _, _, _, _, rfl, ini⟩ (fun ρ ⟨U, s4, s5, s6, s7, s8, e, h4, h6, h5⟩ => ?_) fun t ρ ht ⟨U, s4, s5, s6, s7, s8, e, h4, h6, h5⟩ => ?_))
  · subst e
    rw [Nat.sub_self] at h5
    have h7 : sumW (ckW E 0) U = gW U [] := sumw_w h4.1
    rw [h7] at h5
    have g : (lookD (tabW U) (.tuple [])).getD (.int 0) = .int (ckW E c T : Nat) := by
      have := look_w U []
      have this : lookD (tabW U) (.tuple []) = (lookL U []).map fun v : Nat => PyData.int (v : Int) := this
      rw [this, ← h5]
      unfold gW
      cases lookL U [] <;> rfl
    have k0 : (keyT (.tuple [])).isSome = true := rfl
    generalize tabW U = UU at *
    generalize rsD E = RE at *
    simp [g, k0]
  · subst e
    have q := p24 t (by omega)
    have m2 : U.length * E.length ≤ 24 ^ t * 24 := Nat.mul_le_mul h6 lE
    have lo := fun s4 s6 s7 s8 => lw_out (tx.go (n + 2)) E T hE (ckW E (c - (t + 1))) U h4 (by omega) (by omega) O (.int c) s4 s6 s7 s8
    rw [bz t ht, h5] at lo
    have p1 : 24 ^ (t + 1) = 24 ^ t * 24 := Nat.pow_succ _ _
    rw [p1]
    clear h5 bz
    unfold restB at lo
    generalize rsD E = RE at *
    simp
    refine wp_bind' (wp_mono (lo _ _ _ _) ?_ fun _ z => z)
    rintro _ ⟨L', s6', s7', s8', rfl, g1, g3, g2⟩
    simp
    exact ⟨L', rfl, g1, by omega, g2⟩
end Dn.M73

namespace Dn.M73
open PySem PySem.Spec L2
open PyProof.Rows hiding St
theorem turns_of (m : Nat) (ps : List (Int × Int)) : TurnsOf m ps (turnsP m ps) := fun p => mem_turns
theorem ck_bk (E : List (List Int)) (T : LK) (h : ∀ r ∈ E, ∀ p ∈ T, leftB r p = !trnB r p) : ∀ (c : Nat) (p : Int × Int → Bool), ckW E c (T.filter p) = bkN E (markN T) (2 ^ T.length - 1) c (mkF (fun t => !p t) 0 T)
  | 0, p => by
    show (if T.filter p = [] then 1 else 0) = (if mkF (fun t => !p t) 0 T = 2 ^ T.length - 1 then 1 else 0)
    have e : (T.filter p = []) ↔ (mkF (fun t => !p t) 0 T = 2 ^ T.length - 1) := by
      rw [mk_whole, List.filter_eq_nil_iff, List.all_eq_true]
      exact forall_congr' fun t => imp_congr_right fun _ => by cases p t <;> simp
    by_cases c : T.filter p = []
    · rw [if_pos c, if_pos (e.mp c)]
    · rw [if_neg c, if_neg fun z => c (e.mpr z)]
  | c + 1, p => by
    show (E.map fun r => ckW E c ((T.filter p).filter (leftB r))).sum = (E.map fun r => bkN E (markN T) (2 ^ T.length - 1) c (mkF (fun t => !p t) 0 T ||| markN T r)).sum
    congr 1
    refine List.map_congr_left fun r hr => ?_
    have e1 : (T.filter p).filter (leftB r) = T.filter fun t => p t && !trnB r t := by
      rw [List.filter_filter]
      refine List.filter_congr fun t ht => ?_
      rw [h r hr t ht, Bool.and_comm]
    have e2 : mkF (fun t => !p t) 0 T ||| markN T r = mkF (fun t => !(p t && !trnB r t)) 0 T := by
      have o := mkF_or (fun t => !p t) (trnB r) T 0 0
      have z : (0 : Nat) ||| 0 = 0 := rfl
      rw [z] at o
      unfold markN
      rw [o]
      congr 1
      funext t
      cases p t <;> cases trnB r t <;> rfl
    rw [e1, e2]
    exact ck_bk E T h c fun t => p t && !trnB r t
theorem mk_none {α : Type} : ∀ T : List α, mkF (fun _ => false) 0 T = 0
  | [] => rfl
  | _ :: T => mk_none T
theorem left_trn {m : Nat} {ps : LK} (o : IsOrd m ps) : ∀ r ∈ ext m ps m [], ∀ p ∈ turnsP m ps, leftB r p = !trnB r p := fun r hr p hp => by
  have pm := (in_row o hr).1
  obtain ⟨g, ap⟩ := mem_turns.mp hp
  have m1 : p.1 ∈ r := pm.mem_iff.mpr (mem_upTo.mpr (by omega))
  have m2 : p.2 ∈ r := pm.mem_iff.mpr (mem_upTo.mpr (by omega))
  have ne : p.1 ≠ p.2 := fun e => by
    unfold apartB at ap
    simp [e] at ap
  have ni : r.idxOf p.1 ≠ r.idxOf p.2 := fun e => by
    have a1 := List.getElem_idxOf (List.idxOf_lt_length_of_mem m1)
    have a2 := List.getElem_idxOf (List.idxOf_lt_length_of_mem m2)
    apply ne
    rw [← a1, ← a2]
    congr 1
  unfold leftB trnB
  by_cases c : r.idxOf p.1 < r.idxOf p.2
  · rw [decide_eq_true c, decide_eq_false (by omega)]
    rfl
  · rw [decide_eq_false c, decide_eq_true (by omega)]
    rfl
theorem ways_many {m : Nat} {ps : LK} (o : IsOrd m ps) (c : Nat) : ckW (ext m ps m []) c (lturnsP m ps) = manyL m ps c := by
  have h := ck_bk (ext m ps m []) (turnsP m ps) (left_trn o) c fun _ => true
  have f : (turnsP m ps).filter (fun _ => true) = turnsP m ps := List.filter_eq_self.mpr fun _ _ => rfl
  have z : mkF (fun _ : Int × Int => !true) 0 (turnsP m ps) = 0 := mk_none _
  rw [f, z] at h
  exact h
theorem sum_ind {α : Type} (P : α → Bool) : ∀ E : List α, (E.map fun r => if P r = true then 1 else 0).sum = (E.filter P).length
  | [] => rfl
  | r :: E => by
    rw [List.map_cons, List.sum_cons, sum_ind P E, List.filter_cons]
    cases P r
    · simp
    · simp; omega
def one1 (m : Nat) (ps : LK) (E : List (List Int)) : Nat := (E.filter fun r => decide (toldP m [r] = ps)).length
def two2 (m : Nat) (ps : LK) (E : List (List Int)) (a : List Int) : Nat := (E.filter fun b => decide (toldP m [a, b] = ps)).length
theorem many_1 {m : Nat} {ps : LK} (o : IsOrd m ps) : manyL m ps 1 = one1 m ps (ext m ps m []) := by
  unfold one1
  rw [← sum_ind]
  show ((ext m ps m []).map fun r => bkN (ext m ps m []) (markN (turnsP m ps)) (2 ^ (turnsP m ps).length - 1) 0 (0 ||| markN (turnsP m ps) r)).sum = _
  congr 1
  refine List.map_congr_left fun r hr => ?_
  have tt := told_trn o (turns_of m ps) (rs := [r]) (fun q hq => by rw [List.mem_singleton.mp hq]; exact (in_row o hr).2) (by simp) (fun q hq => by rw [List.mem_singleton.mp hq]; exact (in_row o hr).1)
  have e2 : (fun p => [r].any fun r => trnB r p) = trnB r := by
    funext p
    simp
  rw [e2, ← mk_whole] at tt
  show (if (0 ||| markN (turnsP m ps) r) = 2 ^ (turnsP m ps).length - 1 then 1 else 0) = _
  rw [Nat.zero_or]
  unfold markN
  by_cases c : toldP m [r] = ps
  · rw [if_pos (tt.mp c), if_pos (decide_eq_true c)]
  · rw [if_neg fun z => c (tt.mpr z), if_neg (by rw [decide_eq_false c]; exact Bool.false_ne_true)]
theorem many_2 {m : Nat} {ps : LK} (o : IsOrd m ps) : manyL m ps 2 = ((ext m ps m []).map (two2 m ps (ext m ps m []))).sum := by
  show ((ext m ps m []).map fun a => ((ext m ps m []).map fun b => bkN (ext m ps m []) (markN (turnsP m ps)) (2 ^ (turnsP m ps).length - 1) 0 ((0 ||| markN (turnsP m ps) a) ||| markN (turnsP m ps) b)).sum).sum = _
  congr 1
  refine List.map_congr_left fun a ha => ?_
  unfold two2
  rw [← sum_ind]
  congr 1
  refine List.map_congr_left fun b hb => ?_
  have two : ∀ r ∈ [a, b], r ∈ ext m ps m [] := fun r hr => by
    rcases List.mem_cons.mp hr with rfl | hr
    · exact ha
    · rw [List.mem_singleton.mp hr]; exact hb
  have tt := told_trn o (turns_of m ps) (rs := [a, b]) (fun r hr => (in_row o (two r hr)).2) (by simp) (fun r hr => (in_row o (two r hr)).1)
  have ww := mk_whole (fun p => trnB a p || trnB b p) (turnsP m ps)
  have oo := mkF_or (trnB a) (trnB b) (turnsP m ps) 0 0
  have e1 : (0 ||| markN (turnsP m ps) a) ||| markN (turnsP m ps) b = mkF (fun p => trnB a p || trnB b p) 0 (turnsP m ps) := by
    rw [Nat.zero_or]
    exact oo
  have e2 : (fun p => [a, b].any fun r => trnB r p) = fun p => trnB a p || trnB b p := by
    funext p
    simp
  rw [e2, ← ww] at tt
  show (if ((0 ||| markN (turnsP m ps) a) ||| markN (turnsP m ps) b) = 2 ^ (turnsP m ps).length - 1 then 1 else 0) = _
  rw [e1]
  by_cases c : toldP m [a, b] = ps
  · rw [if_pos (tt.mp c), if_pos (decide_eq_true c)]
  · rw [if_neg fun z => c (tt.mpr z), if_neg (by rw [decide_eq_false c]; exact Bool.false_ne_true)]
end Dn.M73

namespace Dn.M73
open PySem PySem.Spec L2
open PyProof.Rows hiding St
theorem told_at (n m : Nat) (hm : m ≤ 8) (rs : List (List Int)) (l : rs.length ≤ 1000) (pm : ∀ r ∈ rs, r.Perm (upTo m)) : ∃ sl, tx.go (n+1) "_law_told" [.val (.int m), .own (rsD rs)] = .ok (.val (.tuple (psD (toldP m rs))), [.val (.int m), sl]) := by
  obtain ⟨⟨u, v⟩, t1, h1, sl, h2, _⟩ := r_toldS n m rs hm l _ (.inl rfl) fun r hr i hi => (pm r hr).mem_iff.mpr (mem_upTo.mpr (by omega))
  simp only at h1 h2
  subst h1 h2
  exact ⟨sl, t1⟩
theorem x_len' (ds : List PyData) : pLen [.list ds] = some (.val (.int (ds.length : Int))) := rfl
/-- the pairs of rows, gone through -/
theorem r_law_two (n m : Nat) (ps : LK) (hm : m ≤ 8) (E : List (List Int)) (lE : E.length ≤ 1000) (pm : ∀ r ∈ E, r.Perm (upTo m)) : tx.go (n+2) "_law_two" [.val (ordD m ps), .val (.list (rsD E))] = .ok (.val (.int ((E.map (two2 m ps E)).sum : Nat)), [.val (ordD m ps), .val (.list (rsD E))]) := by
  rw [go_at tx (d := d__law_two) rfl]
  refine ok_of_wp ?_
  have i0 := x_ord0 (m : Int) ps
  have i1 := x_ord1 (m : Int) ps
  have le : (rsD E).length ≤ 1000000 := by rw [List.length_map]; omega
  have le' : E.length ≤ 1000000 := by omega
  have eq : ∀ rs, pEq [.tuple (psD (toldP m rs)), .tuple (psD ps)] = some (.val (.bool (decide (toldP m rs = ps)))) := fun rs => x_eqPT _ _
  have told : ∀ a ∈ E, ∀ b ∈ E, ∃ sl, tx.go (n + 1) "_law_told" [.val (.int m), .own [.tuple (nsD a), .tuple (nsD b)]] = .ok (.val (.tuple (psD (toldP m [a, b]))), [.val (.int m), sl]) := fun a ha b hb => told_at n m hm [a, b] (by simp) fun r hr => by
    rcases List.mem_cons.mp hr with rfl | hr
    · exact pm _ ha
    · rw [List.mem_singleton.mp hr]; exact pm _ hb
  generalize ordD (m : Int) ps = O at *
  generalize psD ps = PS at *
  simp [d__law_two, b__law_two]
  refine wp_bind' (wp_bind' (forI_wp (fun j ρ => ∃ s3, ρ = [.val O, .val (.list (rsD E)), .val (.int (((E.take j).map (two2 m ps E)).sum : Nat)), s3, .un]) ⟨_, rfl⟩ (fun ρ ⟨s3, e⟩ => ?_) fun j d ρ hd ⟨s3, e⟩ => ?_))
  · subst e
    rw [List.length_map, List.take_length]
    simp
  · subst e
    have hj : j < E.length := by
      have := (List.getElem?_eq_some_iff.mp hd).1
      rwa [List.length_map] at this
    have ed : d = .tuple (nsD E[j]) := by
      have h := hd
      rw [List.getElem?_map, List.getElem?_eq_getElem hj] at h
      exact (Option.some.inj h).symm
    subst ed
    have mj := List.getElem_mem hj
    have tk : ((E.take (j + 1)).map (two2 m ps E)).sum = ((E.take j).map (two2 m ps E)).sum + two2 m ps E E[j] := by
      rw [List.take_succ_eq_append_getElem hj, List.map_append, List.sum_append]
      simp
    rw [tk]
    have lc : ∀ A : Nat, lcL (lcT (.nm 4) (dP pEq (osCons (oOf (dCall "_law_told" 2 (asExp (dP pIx (osCons (oVar 0) (osCons (oOf (dLit (.int 0))) (osNil)))) (asExp (dLst (fsCons (dVar 3) (fsCons (dVar 4) (fsNil)))) (asNil))))) (osCons (oOf (dP pIx (osCons (oVar 0) (osCons (oOf (dLit (.int 1))) (osNil))))) (osNil)))) (dVar 4) [4] (tx.go (n + 1))) (rsD E) [.val O, .val (.list (rsD E)), .val (.int (A : Int)), .val (.tuple (nsD E[j])), .un] = .ok ((E.filter fun b => decide (toldP m [E[j], b] = ps)).map fun b => .tuple (nsD b), [.val O, .val (.list (rsD E)), .val (.int (A : Int)), .val (.tuple (nsD E[j])), .un]) := fun A => by
      refine lcL_enc2 (fun r => .tuple (nsD r)) (fun b => decide (toldP m [E[j], b] = ps)) (fun r => .tuple (nsD r)) E fun b hb => ?_
      obtain ⟨sl, t1⟩ := told E[j] mj b hb
      have q := eq [E[j], b]
      generalize psD (toldP m [E[j], b]) = P at *
      generalize nsD b = NB at *
      generalize nsD E[j] = NJ at *
      generalize rsD E = RE at *
      by_cases c : toldP m [E[j], b] = ps
      · rw [decide_eq_true c] at q
        simp [i0, i1, t1, q, c]
      · rw [decide_eq_false c] at q
        simp [i0, i1, t1, q, c]
    have ll : ((E.filter fun b => decide (toldP m [E[j], b] = ps)).map fun b => PyData.tuple (nsD b)).length = two2 m ps E E[j] := by
      unfold two2
      rw [List.length_map]
    generalize ((E.filter fun b => decide (toldP m [E[j], b] = ps)).map fun b => PyData.tuple (nsD b)) = FD at *
    generalize ((E.take j).map (two2 m ps E)).sum = A at *
    have lc := lc A
    have ln : pLen [.list FD] = some (.val (.int ((two2 m ps E E[j] : Nat) : Int))) := by rw [x_len', ll]
    generalize two2 m ps E E[j] = B at *
    generalize nsD E[j] = NJ at *
    generalize rsD E = RE at *
    have ad : ((A : Int) + (B : Int)) = ((A + B : Nat) : Int) := by omega
    refine wp_eq (a := (Fl.nx, [.val O, .val (.list RE), .val (.int ((A + B : Nat) : Int)), .val (.tuple NJ), .un])) ?_ ⟨_, rfl⟩
    simp [le, -x_lcT, -Int.natCast_add]
    rw [lc]
    simp [ln, ad, -Int.natCast_add]
def dueD (g : Nat → Nat) (k : Nat) : List PyData := (List.range k).map fun c : Nat => .int ((g (c + 1) : Nat) : Int)
theorem due_at (g : Nat → Nat) (k j : Nat) (h : j < k) : atI (dueD g k) (j : Int) = some (.int ((g (j + 1) : Nat) : Int)) := x_ixn (by unfold dueD; rw [List.getElem?_map, List.getElem?_range h]; rfl)
theorem due_len (g : Nat → Nat) (k : Nat) : (dueD g k).length = k := by unfold dueD; rw [List.length_map, List.length_range]
theorem due_3 (g : Nat → Nat) : mAppend [PyData.int ((g 1 : Nat) : Int), .int ((g 2 : Nat) : Int)] [.int ((g 3 : Nat) : Int)] = some (.none, dueD g 3) := x_app _ _ (by show 2 < 1000000; decide)
theorem due_4 (g : Nat → Nat) : mAppend (dueD g 3) [.int ((g 4 : Nat) : Int)] = some (.none, dueD g 4) := x_app _ _ (by rw [due_len]; decide)
def MI (ns : List Int) (ρ : Env) : Prop := ∃ s1 s2 s3 s4 s5 s6 s7 s8, ρ = [.scr ns, s1, s2, s3, s4, s5, s6, s7, s8, .un, .un]
def bodyA : DenS := dSeq (dSet 5 (dCall "_law_rows_all" 1 (asVar 4 (asNil))))
  (dSeq (dSet 6 (dLst (fsCons (dP pLen (osCons (oOf (dLc (.nm 10) (iSeq (oOf (dVar 5))) (dP pEq (osCons (oOf (dCall "_law_told" 2 (asVar 3 (asExp (dLst (fsCons (dVar 10) (fsNil))) (asNil))))) (osCons (oOf (dP pIx (osCons (oVar 4) (osCons (oOf (dLit (.int 1))) (osNil))))) (osNil)))) (dVar 10) [10])) (osNil))) (fsCons (dCall "_law_two" 2 (asVar 4 (asVar 5 (asNil)))) (fsNil)))))
  (dSeq (dIfS (dP pNe (osCons (oOf (dP pIx (osCons (oVar 6) (osCons (oOf (dLit (.int 1))) (osNil))))) (osCons (oOf (dCall "_law_ways" 3 (asVar 4 (asVar 5 (asExp (dLit (.int 2)) (asNil)))))) (osNil))))
  (dRet (dLit (.bool false)))
  (dSkip))
  (dSeq (dDo (dMut 6 mAppend (fsCons (dCall "_law_ways" 3 (asVar 4 (asVar 5 (asExp (dLit (.int 3)) (asNil))))) (fsNil))))
  (dSeq (dIfS (dP pLt (osCons (oOf (dP pLen (osCons (oVar 5) (osNil)))) (osCons (oOf (dLit (.int 7))) (osNil))))
  (dDo (dMut 6 mAppend (fsCons (dCall "_law_ways" 3 (asVar 4 (asVar 5 (asExp (dLit (.int 4)) (asNil))))) (fsNil))))
  (dSkip))
  (dFor (.nm 7) (iR2 (oOf (dLit (.int 1))) (oOf (dP pAdd (osCons (oOf (dP pLen (osCons (oVar 6) (osNil)))) (osCons (oOf (dLit (.int 1))) (osNil))))))
  (dSeq (dSet 8 (dCall "lists_many" 2 (asVar 4 (asVar 7 (asNil)))))
  (dIfS (dOr (dNot (dCall "_law_whole" 1 (asVar 8 (asNil)))) (dP pNe (osCons (oVar 8) (osCons (oOf (dP pIx (osCons (oVar 6) (osCons (oOf (dP pSub (osCons (oVar 7) (osCons (oOf (dLit (.int 1))) (osNil))))) (osNil))))) (osNil)))))
  (dRet (dLit (.bool false)))
  (dSkip))))))))
theorem b_law_eq : b_law = dSeq (dFor (.nm 1) (iR1 (oOf (dP pMax (osCons (oOf (dLit (.int 1))) (osCons (oOf (dP pMin (osCons (oOf (dScrLen 0)) (osCons (oOf (dLit (.int 2))) (osNil))))) (osNil))))))
  (dSeq (dSet 2 (dCall "_law_box" 2 (asVar 0 (asVar 1 (asNil)))))
  (dSeq (dSet 3 (dP pAdd (osCons (oOf (dLit (.int 1))) (osCons (oOf (dCall "_law_take" 2 (asVar 2 (asExp (dLit (.int 4)) (asNil))))) (osNil)))))
  (dSeq (dSet 4 (dTup (fsCons (dVar 3) (fsCons (dCall "_law_told" 2 (asVar 3 (asExp (dLc (.nm 9) (iR1 (oOf (dLit (.int 2)))) (dYes) (dCall "_law_shuffled" 2 (asVar 2 (asExp (dListR (iR1 (oVar 3))) (asNil)))) [9]) (asNil)))) (fsNil)))))
  bodyA))))
  (dRet (dLit (.bool true))) := rfl
theorem body_ok (n i m : Nat) (ns : List Int) (b : Int) (ps : LK) (m1 : 1 ≤ m) (m4 : m ≤ 4) (m8 : m ≤ 8) (o : IsOrd m ps) (s5 s6 s7 s8 : Slot) : (bodyA (tx.go (n + 10)) [.scr ns, .val (.int (i : Int)), .own [.int b], .val (.int m), .val (ordD m ps), s5, s6, s7, s8, .un, .un]).wp (fun q => q.1 = .nx ∧ MI ns q.2) fun _ => False := by
  have i1 := x_ord1 (m : Int) ps
  obtain ⟨_, e2, srw, rfl, hs⟩ := r_law_rows_all (n + 9) m ps o (by omega)
  have e2 : tx.go (n + 10) "_law_rows_all" [.val (ordD m ps)] = .ok (srw, [.val (ordD m ps)]) := e2
  rw [rows_all] at hs
  have pmE : ∀ r ∈ ext m ps m [], r.Perm (upTo m) := fun r hr => (in_row o hr).1
  have l24 := rows_24 m4 ps
  have mem : ∀ r ∈ ext m ps m [], ∀ p ∈ lturnsP m ps, p.1 ∈ r ∧ p.2 ∈ r := fun r hr p hp => by
    have g := (mem_turns.mp (show p ∈ turnsP m ps from hp)).1
    exact ⟨(pmE r hr).mem_iff.mpr (mem_upTo.mpr (by omega)), (pmE r hr).mem_iff.mpr (mem_upTo.mpr (by omega))⟩
  have lw : ∀ c : Nat, c ≤ 4 → tx.go (n + 10) "_law_ways" [.val (ordD m ps), .val (.list (rsD (ext m ps m []))), .val (.int c)] = .ok (.val (.int (manyL m ps c : Nat)), [.val (ordD m ps), .val (.list (rsD (ext m ps m []))), .val (.int c)]) := fun c c4 => by
    rw [← ways_many o c]
    exact r_law_ways (n + 7) m ps m4 (ext m ps m []) l24 mem c c4
  have w2 : tx.go (n + 10) "_law_ways" [.val (ordD m ps), .val (.list (rsD (ext m ps m []))), .val (.int 2)] = .ok (.val (.int (manyL m ps 2 : Nat)), [.val (ordD m ps), .val (.list (rsD (ext m ps m []))), .val (.int 2)]) := lw 2 (by decide)
  have w3 : tx.go (n + 10) "_law_ways" [.val (ordD m ps), .val (.list (rsD (ext m ps m []))), .val (.int 3)] = .ok (.val (.int (manyL m ps 3 : Nat)), [.val (ordD m ps), .val (.list (rsD (ext m ps m []))), .val (.int 3)]) := lw 3 (by decide)
  have w4 : tx.go (n + 10) "_law_ways" [.val (ordD m ps), .val (.list (rsD (ext m ps m []))), .val (.int 4)] = .ok (.val (.int (manyL m ps 4 : Nat)), [.val (ordD m ps), .val (.list (rsD (ext m ps m []))), .val (.int 4)]) := lw 4 (by decide)
  have tw : tx.go (n + 10) "_law_two" [.val (ordD m ps), .val (.list (rsD (ext m ps m [])))] = .ok (.val (.int (manyL m ps 2 : Nat)), [.val (ordD m ps), .val (.list (rsD (ext m ps m [])))]) := by
    rw [many_2 o]
    exact r_law_two (n + 8) m ps m8 (ext m ps m []) (by omega) pmE
  have lm : ∀ c : Nat, 1 ≤ c → c ≤ 4 → tx.go (n + 10) "lists_many" [.val (ordD m ps), .val (.int c)] = .ok (.val (.int (manyL m ps c : Nat)), [.val (ordD m ps), .val (.int c)]) := fun c c1 c4 => r_lists_many (n + 1) m ps o m4 c c1 c4
  have o1 := many_1 o
  unfold one1 at o1
  have told : ∀ r ∈ ext m ps m [], ∃ sl, tx.go (n + 10) "_law_told" [.val (.int m), .own [.tuple (nsD r)]] = .ok (.val (.tuple (psD (toldP m [r]))), [.val (.int m), sl]) := fun r hr => told_at (n + 9) m m8 [r] (by simp) fun q hq => by
    rw [List.mem_singleton.mp hq]; exact pmE r hr
  have eq : ∀ r, pEq [.tuple (psD (toldP m [r])), .tuple (psD ps)] = some (.val (.bool (decide (toldP m [r] = ps)))) := fun r => x_eqPT _ _
  have whole : ∀ k : Nat, tx.go (n + 10) "_law_whole" [.val (.int (k : Int))] = .ok (.val (.bool true), [.val (.int (k : Int))]) := fun k => r_law_whole (n + 9) (.int k)
  generalize manyL m ps = g at *
  have neN : ∀ k : Nat, pNe [.int (k : Int), .int (k : Int)] = some (.val (.bool false)) := fun k => by simp
  generalize ext m ps m [] = E at *
  have lE6 : (rsD E).length ≤ 1000000 := by rw [List.length_map]; omega
  have lE : (rsD E).length = E.length := List.length_map _
  have i0 := x_ord0 (m : Int) ps
  generalize hO : ordD (m : Int) ps = O at *
  generalize psD ps = PS at *
  have lc : ∀ b : Slot, lcL (lcT (.nm 10) (dP pEq (osCons (oOf (dCall "_law_told" 2 (asVar 3 (asExp (dLst (fsCons (dVar 10) (fsNil))) (asNil))))) (osCons (oOf (dP pIx (osCons (oVar 4) (osCons (oOf (dLit (.int 1))) (osNil))))) (osNil)))) (dVar 10) [10] (tx.go (n + 10))) (rsD E) [.scr ns, .val (.int (i : Int)), b, .val (.int m), .val O, .val (.list (rsD E)), s6, s7, s8, .un, .un] = .ok ((E.filter fun r => decide (toldP m [r] = ps)).map fun r => .tuple (nsD r), [.scr ns, .val (.int (i : Int)), b, .val (.int m), .val O, .val (.list (rsD E)), s6, s7, s8, .un, .un]) := fun b => by
    refine lcL_enc2 (fun r => .tuple (nsD r)) (fun r => decide (toldP m [r] = ps)) (fun r => .tuple (nsD r)) E fun r hr => ?_
    obtain ⟨sl, t1⟩ := told r hr
    have q := eq r
    generalize psD (toldP m [r]) = P at *
    generalize nsD r = NR at *
    generalize rsD E = RE at *
    by_cases c : toldP m [r] = ps
    · rw [decide_eq_true c] at q
      simp [i1, t1, q, c]
    · rw [decide_eq_false c] at q
      simp [i1, t1, q, c]
  have ll : pLen [.list ((E.filter fun r => decide (toldP m [r] = ps)).map fun r => PyData.tuple (nsD r))] = some (.val (.int ((g 1 : Nat) : Int))) := by rw [x_len', List.length_map, o1]
  generalize ((E.filter fun r => decide (toldP m [r] = ps)).map fun r => PyData.tuple (nsD r)) = FD at *
  have last : ∀ (k : Nat) (b : Int) (s7 s8 : Slot), k ≤ 4 → (forL (fB (.nm 7) (dSeq (dSet 8 (dCall "lists_many" 2 (asVar 4 (asVar 7 (asNil)))))
  (dIfS (dOr (dNot (dCall "_law_whole" 1 (asVar 8 (asNil)))) (dP pNe (osCons (oVar 8) (osCons (oOf (dP pIx (osCons (oVar 6) (osCons (oOf (dP pSub (osCons (oVar 7) (osCons (oOf (dLit (.int 1))) (osNil))))) (osNil))))) (osNil)))))
  (dRet (dLit (.bool false)))
  (dSkip))) (tx.go (n + 10))) (rngD 1 k) [.scr ns, .val (.int (i : Int)), .own [.int b], .val (.int m), .val O, .val (.list (rsD E)), .own (dueD g k), s7, s8, .un, .un]).wp (fun q => q.1 = .nx ∧ MI ns q.2) fun _ => False := fun k b s7 s8 k4 => by
    refine forR_wp (fun j ρ => ∃ s7 s8, ρ = [.scr ns, .val (.int (i : Int)), .own [.int b], .val (.int m), .val O, .val (.list (rsD E)), .own (dueD g k), s7, s8, .un, .un]) ⟨_, _, rfl⟩ (fun ρ ⟨s7, s8, e⟩ => ?_) fun j ρ hj ⟨s7, s8, e⟩ => ?_
    · exact ⟨rfl, by rw [e]; exact ⟨_, _, _, _, _, _, _, _, rfl⟩⟩
    · subst e
      have J : (1 : Int) + (j : Int) = ((j + 1 : Nat) : Int) := by omega
      rw [J]
      have l1 := lm (j + 1) (by omega) (by omega)
      have da := due_at g k j hj
      have wh := whole (g (j + 1))
      have ne := neN (g (j + 1))
      have sb : ((j + 1 : Nat) : Int) - 1 = (j : Int) := by omega
      generalize g (j + 1) = K at *
      generalize dueD g k = DD at *
      generalize rsD E = RE at *
      generalize ((j + 1 : Nat) : Int) = J1 at *
      refine wp_eq (a := (Fl.nx, [.scr ns, .val (.int (i : Int)), .own [.int b], .val (.int m), .val O, .val (.list RE), .own DD, .val (.int J1), .val (.int (K : Int)), .un, .un])) ?_ ⟨_, _, rfl⟩
      simp [l1, wh, sb, da]
  have m12 : atI [PyData.int ((g 1 : Nat) : Int), .int ((g 2 : Nat) : Int)] 1 = some (.int ((g 2 : Nat) : Int)) := rfl
  have ap3 := due_3 g
  have ap4 := due_4 g
  have n22 := neN (g 2)
  have dl3 := due_len g 3
  have dl4 := due_len g 4
  have l3 := fun b s7 s8 => last 3 b s7 s8 (by decide)
  have l4 := fun b s7 s8 => last 4 b s7 s8 (by decide)
  clear last told eq lm whole neN lw
  generalize g 1 = M1 at *
  generalize g 2 = M2 at *
  generalize g 3 = M3 at *
  generalize g 4 = M4 at *
  generalize dueD g 3 = D3 at *
  generalize dueD g 4 = D4 at *
  have s4' : small62 4 = true := small_in (by omega) (by omega)
  have s5' : small62 5 = true := small_in (by omega) (by omega)
  have s1' : small62 1 = true := small_in (by omega) (by omega)
  have lE7 : E.length ≤ 1000000 := by omega
  rcases hs with rfl | rfl
  all_goals
    by_cases c7 : (E.length : Int) < 7
    · simp [bodyA, e2, lE6, -x_lcT]
      rw [lc]
      simp [ll, tw, m12, w2, n22, w3, ap3, lE, lE7, c7, w4, ap4, dl4, s1', s5', -x_lcT]
      exact l4 b s7 s8
    · simp [bodyA, e2, lE6, -x_lcT]
      rw [lc]
      simp [ll, tw, m12, w2, n22, w3, ap3, lE, lE7, c7, dl3, s1', s4', -x_lcT]
      exact l3 b s7 s8
theorem main_go (n : Nat) (ns : List Int) : (tx.go (n + 11) "law" [.scr ns]).wp (fun r => r.1 = .val (.bool true)) fun _ => False := by
  rw [go_at tx (d := d_law) rfl]
  obtain ⟨w1, w2⟩ := x_maxmin1 ns.length 2
  have w1 : pMin [.int (ns.length : Int), .int 2] = some (.val (.int (min ns.length 2 : Nat))) := w1
  have t4 : max 1 (min ns.length 2) ≤ 5 := by omega
  generalize max 1 (min ns.length 2) = t at w2 t4
  generalize min ns.length 2 = t' at w1 w2
  have st : small62 t = true := small_in (by omega) (by omega)
  have s2 : small62 2 = true := small_in (by omega) (by omega)
  have l2 : decide ((rngD 0 2).length ≤ 1000000) = true := by rw [rngD_length]; rfl
  simp [d_law, b_law_eq, w1, w2, st]
  refine wp_bind' (wp_bind' (forR_wp (fun i ρ => MI ns ρ) ⟨.un, .un, .un, .un, .un, .un, .un, .un, rfl⟩ (fun ρ ⟨s1, s2, s3, s4, s5, s6, s7, s8, e⟩ => ?_) fun i ρ hi ⟨s1, s2', s3, s4, s5, s6, s7, s8, e⟩ => ?_))
  · subst e; simp
  · subst e
    obtain ⟨⟨v, o⟩, e1, b, h1, h2⟩ := r_box (n + 9) ns i (by omega) (by omega)
    simp only at h1 h2
    subst h1
    subst h2
    have tk := r_take (n + 9) b 4 (by decide) (by decide)
    have q1 := emod_in b 4 (by decide)
    obtain ⟨m, hm⟩ : ∃ m : Nat, (1 + b % 4 : Int) = m := ⟨(1 + b % 4).toNat, by omega⟩
    have m1 : 1 ≤ m := by omega
    have m4 : m ≤ 4 := by omega
    have m8 : m ≤ 8 := by omega
    have sm : small62 m = true := small_in (by omega) (by omega)
    have m6 : m ≤ 1000000 := by omega
    simp [e1, tk, hm, s2]
    rw [l2, guard_true]
    generalize b / 4 = b0
    refine wp_bind' (wp_bind' (wp_bind' (wp_bind' (wp_bind' (wp_bind' (wp_bind' (wp_bind' (wp_bind' (wp_bind' (noX_wp (lcI_wp (fun j acc ρ => ∃ (b : Int) (rs : List (List Int)), ρ = [.scr ns, .val (.int (i : Int)), .own [.int b], .val (.int m), s4, s5, s6, s7, s8, .un, .un] ∧ acc = rsD rs ∧ rs.length = j ∧ ∀ r ∈ rs, r.Perm (upTo m)) ⟨_, [], rfl, rfl, rfl, by simp⟩ (fun out ρ ⟨b, rs, e, ho, hl, hp⟩ => ?fin) (fun j d acc ρ hd ⟨b, rs, e, ho, hl, hp⟩ => ?step))))))))))))
    case step =>
      subst e
      subst ho
      simp [sm, rngD_length, m6]
      rw [rng_upTo]
      obtain ⟨r, e, ys, b', rfl, pm⟩ := r_shuffled (n + 8) b (upTo m) (by rw [upTo_len]; omega)
      simp [e]
      refine ⟨rs ++ [ys], by simp, by simp [hl], fun r hr => ?_⟩
      rcases List.mem_append.mp hr with z | z
      · exact hp r z
      · rw [List.mem_singleton.mp z]; exact pm
    case fin =>
      subst e
      subst ho
      rw [rngD_length] at hl
      obtain ⟨sl, t1⟩ := told_at (n + 9) m m8 rs (by omega) hp
      have t1 : tx.go (n + 10) "_law_told" [.val (.int m), .own (rsD rs)] = .ok (.val (.tuple (psD (toldP m rs))), [.val (.int m), sl]) := t1
      have o : IsOrd m (toldP m rs) := told_ord m1 m8 (by intro z; rw [z] at hl; cases hl)
      have eA : ∀ ps, PyData.tuple [.int (m : Int), .tuple (psD ps)] = ordD m ps := fun _ => rfl
      simp [t1, eA]
      refine wp_mono (body_ok n i m ns b _ m1 m4 m8 o _ _ _ _) ?_ fun _ z => z
      rintro ⟨f, ρ'⟩ ⟨h1, h2⟩
      simp only at h1 h2
      subst h1
      exact h2
theorem main_ok (ns : List Int) (h : ns.length ≤ 63) : (tx.run 40 "law" [.scr ns]).wp (fun r => r.1 = .val (.bool true)) fun _ => False := by
  rw [← go_run]
  exact main_go 29 ns
end Dn.M73

open PySem PySem.W PyProof.Rows
set_option maxHeartbeats 0 in
theorem PySem.Challenge.cw_rowsorder_k73_lists_counted_holds : PySem.Challenge.rw_rowsorder_k73_lists_counted.Holds := by
  w_on; o_law; k_head; (case hw => w_witness2)
  k_fill
  refine Dn.walkG (l := PySem.Challenge.rw_rowsorder_k73_lists_counted) (n := 63) (k := 42) (x := "script") (C := fun w => L2N.CX (PySem.Challenge.rw_rowsorder_k73_lists_counted).prog w) (sp := fun w => Dn.M73.kLaw _) rfl (by decide) rfl ⟨rfl, by decide, by decide⟩ (fun w h Y => PySem.W.kIn_of Y) ?F (fun _ _ a ns hl _ hS => ⟨a, ns, rfl, hS, hl, fun _ => rfl⟩) (fun _ _ _ _ _ h => Dn.noExc h)
  case F =>
    intro w mg fa h KX G hmg
    refine' Dn.M73.all_mk KX G hmg ?fact_a0 ?fact_l0 ?fact_c0 ?fact_k0 ?fact_a1 ?fact_l1 ?fact_c1 ?fact_k1 ?fact_a2 ?fact_l2 ?fact_c2 ?fact_k2 ?fact_a3 ?fact_l3 ?fact_c3 ?fact_k3 ?fact_a4 ?fact_l4 ?fact_c4 ?fact_k4 ?fact_a5 ?fact_l5 ?fact_c5 ?fact_k5 ?fact_a6 ?fact_l6 ?fact_c6 ?fact_k6 ?fact_a7 ?fact_l7 ?fact_c7 ?fact_k7 ?fact_a8 ?fact_l8 ?fact_c8 ?fact_k8 ?fact_a9 ?fact_l9 ?fact_c9 ?fact_k9 ?fact_a10 ?fact_l10 ?fact_c10 ?fact_k10 ?fact_a11 ?fact_l11 ?fact_c11 ?fact_k11 ?fact_a12 ?fact_l12 ?fact_c12 ?fact_k12 ?fact_a13 ?fact_l13 ?fact_c13 ?fact_k13 ?fact_a14 ?fact_l14 ?fact_c14 ?fact_k14 ?fact_a15 ?fact_l15 ?fact_c15 ?fact_k15 ?fact_a16 ?fact_l16 ?fact_c16 ?fact_k16 ?fact_a17 ?fact_l17 ?fact_c17 ?fact_k17 ?fact_a18 ?fact_l18 ?fact_c18 ?fact_k18 ?fact_a19 ?fact_l19 ?fact_c19 ?fact_k19 ?fact_a20 ?fact_l20 ?fact_c20 ?fact_k20 ?fact_a21 ?fact_l21 ?fact_c21 ?fact_k21 ?fact_a22 ?fact_l22 ?fact_c22 ?fact_k22 ?fact_a23 ?fact_l23 ?fact_c23 ?fact_k23 ?fact_g0 ?fact_g1 ?fact_z0 ?fact_z1 ?fact_z2 ?fact_z3 ?fact_z4 ?fact_z5 ?fact_z6 ?fact_z7 ?fact_z8 ?fact_z9 ?fact_z10 ?fact_z11 ?fact_z12 (Dn.M73.main_ok)
    (case fact_a0 => k_is)
    (case fact_l0 => k_is)
    (case fact_c0 => k_is)
    (case fact_k0 => k_is)
    (case fact_a1 => k_is)
    (case fact_l1 => k_is)
    (case fact_c1 => k_is)
    (case fact_k1 => k_is)
    (case fact_a2 => k_is)
    (case fact_l2 => k_is)
    (case fact_c2 => k_is)
    (case fact_k2 => k_is)
    (case fact_a3 => k_is)
    (case fact_l3 => k_is)
    (case fact_c3 => k_is)
    (case fact_k3 => k_is)
    (case fact_a4 => k_is)
    (case fact_l4 => k_is)
    (case fact_c4 => k_is)
    (case fact_k4 => k_is)
    (case fact_a5 => k_is)
    (case fact_l5 => k_is)
    (case fact_c5 => k_is)
    (case fact_k5 => k_is)
    (case fact_a6 => k_is)
    (case fact_l6 => k_is)
    (case fact_c6 => k_is)
    (case fact_k6 => k_is)
    (case fact_a7 => k_is)
    (case fact_l7 => k_is)
    (case fact_c7 => k_is)
    (case fact_k7 => k_is)
    (case fact_a8 => k_is)
    (case fact_l8 => k_is)
    (case fact_c8 => k_is)
    (case fact_k8 => k_is)
    (case fact_a9 => k_is)
    (case fact_l9 => k_is)
    (case fact_c9 => k_is)
    (case fact_k9 => k_is)
    (case fact_a10 => k_is)
    (case fact_l10 => k_is)
    (case fact_c10 => k_is)
    (case fact_k10 => k_is)
    (case fact_a11 => k_is)
    (case fact_l11 => k_is)
    (case fact_c11 => k_is)
    (case fact_k11 => k_is)
    (case fact_a12 => k_is)
    (case fact_l12 => k_is)
    (case fact_c12 => k_is)
    (case fact_k12 => k_is)
    (case fact_a13 => k_is)
    (case fact_l13 => k_is)
    (case fact_c13 => k_is)
    (case fact_k13 => k_is)
    (case fact_a14 => k_is)
    (case fact_l14 => k_is)
    (case fact_c14 => k_is)
    (case fact_k14 => k_is)
    (case fact_a15 => k_is)
    (case fact_l15 => k_is)
    (case fact_c15 => k_is)
    (case fact_k15 => k_is)
    (case fact_a16 => k_is)
    (case fact_l16 => k_is)
    (case fact_c16 => k_is)
    (case fact_k16 => k_is)
    (case fact_a17 => k_is)
    (case fact_l17 => k_is)
    (case fact_c17 => k_is)
    (case fact_k17 => k_is)
    (case fact_a18 => k_is)
    (case fact_l18 => k_is)
    (case fact_c18 => k_is)
    (case fact_k18 => k_is)
    (case fact_a19 => k_is)
    (case fact_l19 => k_is)
    (case fact_c19 => k_is)
    (case fact_k19 => k_is)
    (case fact_a20 => k_is)
    (case fact_l20 => k_is)
    (case fact_c20 => k_is)
    (case fact_k20 => k_is)
    (case fact_a21 => k_is)
    (case fact_l21 => k_is)
    (case fact_c21 => k_is)
    (case fact_k21 => k_is)
    (case fact_a22 => k_is)
    (case fact_l22 => k_is)
    (case fact_c22 => k_is)
    (case fact_k22 => k_is)
    (case fact_a23 => k_is)
    (case fact_l23 => k_is)
    (case fact_c23 => k_is)
    (case fact_k23 => k_is)
    (case fact_g0 => k_is)
    (case fact_g1 => k_is)
    (case fact_z0 => k_is)
    (case fact_z1 => k_is)
    (case fact_z2 => k_is)
    (case fact_z3 => k_is)
    (case fact_z4 => k_is)
    (case fact_z5 => k_is)
    (case fact_z6 => k_is)
    (case fact_z7 => k_is)
    (case fact_z8 => k_is)
    (case fact_z9 => k_is)
    (case fact_z10 => k_is)
    (case fact_z11 => k_is)
    (case fact_z12 => k_is)


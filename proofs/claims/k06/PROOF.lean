import PyProof.Rows.All
import HandS.ForMost
import HandS.ForExc
import HandS.TupSets
import KE.SortData
import HandS.IsInst
import HandS.Wide
import HandS.ExcCtx
import HandS.HotCalls
import HandS.ExcIs
import HandS.ExcInit
import HandS.ExcField
import HandS.TupAny
import HandS.Deep
import HandS.Text
import HandS.AnyAll
import HandS.Strs
import HandS.More
import HandS.Conv
import HandS.WideBits
import HandS.SetFor
import HandS.Zip
import HandS.TupLe
import KE.GoesMore
import HandS.Style
import KE.KDictDisplayH
import HandS.ExcValue
import KE.DataMinMax
import HandS.Flow
import HandS.JoinGen
import HandS.ExcInitHot
import PySem.Challenge.RW_rowsorder_k06_texts_refused
set_option Elab.async false
set_option linter.all false
set_option maxRecDepth 100000
/-! DenW: sets of as many as 64 pairs. -/
namespace Dn
open PySem PySem.Spec L2
open PyProof.Rows hiding St
section
variable {P : Program} {w : World} {A : Around} {E : Value → Shared → Prop} {s : Shared} {a : Addr} {L : List (Addr × List Int)} {es : Array (Int × Value)} {ep : Nat} {t : SetTable}
/-- the set as it stands, however many it has -/
def SetW (P : Program) (w : World) (h : Heap) (a : Addr) (L : List (Addr × List Int)) (es : Array (Int × Value)) (ep : Nat) (t : SetTable) : Prop :=
  ((∃ o, h.get? a = some o ∧ o.ExactSet ∧ o.data = .set es ep t) ∧ es.toList = rowsOf P w L ∧ TabOk t (L.map fun p => thash P w p.2)) ∧ (L.map (·.2)).Nodup ∧ (∀ p ∈ L, IsT P w h p.2 p.1) ∧ (t.plain = true ∧ (w.params.followText "set-order" = true ∨ t.led = true)) ∧ L.length * 5 < t.mask * 3
theorem SetW.of {h : Heap} (R : SetTR P w h a L es ep t) : SetW P w h a L es ep t := ⟨⟨R.ob, R.rows, R.tab⟩, R.nd, R.tup, ⟨R.plain, R.led⟩, R.room⟩
theorem SetW.tr {h : Heap} (R : SetW P w h a L es ep t) (l : L.length < 64) : SetTR P w h a L es ep t := ⟨R.1.1, R.1.2.1, R.1.2.2, R.2.1, R.2.2.1, R.2.2.2.1.1, R.2.2.2.1.2, R.2.2.2.2, l⟩
theorem SetW.keep {h h' : Heap} (R : SetW P w h a L es ep t) (ha : ∀ o, h.get? a = some o → h'.get? a = some o) (ht : ∀ p ∈ L, IsT P w h' p.2 p.1) : SetW P w h' a L es ep t :=
  ⟨⟨R.1.1.imp fun o q => ⟨ha o q.1, q.2⟩, R.1.2⟩, R.2.1, ht, R.2.2.2⟩
theorem SetW.fits {h : Heap} (R : SetW P w h a L es ep t) : es.size = L.length ∧ t.fits es.size = true := by
  have z : es.size = L.length := by
    have q := congrArg List.length R.1.2.1
    rw [Array.length_toList] at q
    rw [q]
    exact List.length_map _
  refine ⟨z, ?_⟩
  have q1 := R.1.2.2.sz
  have q2 := R.2.2.2.2
  rw [List.length_map] at q1
  unfold SetTable.fits SetTable.fill
  rw [R.1.2.2.dm, z, q1]
  simp
  omega
/-- what is there is found -/
theorem there_at (R : SetW P w s.heap a L es ep t) {x : Addr} {k : List Int} (hx : IsT P w s.heap k x) (hm : k ∈ L.map (·.2)) (un : A.units < cLine) {Q : SetFound → Shared → Prop} (hin : Q (.there none) s) : wpAny (model P w) A (setSearch a (.ref x) (thash P w k) true) Q E s := by
  have ft := R.fits
  obtain ⟨⟨⟨o, ho, hex, hd⟩, rows, tab⟩, nd, tup, ⟨pl, ld⟩, room⟩ := R
  obtain ⟨p0, hp0, ek⟩ := List.mem_map.mp hm
  obtain ⟨i0, li0, e0⟩ := List.getElem_of_mem hp0
  have row : ∀ {i : Nat} {p : Addr × List Int}, L[i]? = some p → es[i]? = some (thash P w p.2, Value.ref p.1) := fun {i p} q => by
    have z : es.toList[i]? = (rowsOf P w L)[i]? := by rw [rows]
    rw [Array.getElem?_toList] at z
    rw [z]
    show (L.map _)[i]? = _
    rw [List.getElem?_map, q] <;> rfl
  have hL0 : L[i0]? = some p0 := by rw [List.getElem?_eq_getElem li0, e0]
  have psz : t.place.toList.length = L.length := by
    rw [Array.length_toList, tab.sz]
    exact List.length_map _
  have mk : t.mask ≤ 127 := by
    rcases tab.mok with e | e | e <;> omega
  obtain ⟨K, hKf, hK, hKb⟩ := tab.first (by rw [List.length_map]; omega) (thash P w k)
  have K6 : K < 99999 := by
    have : SetTable.turns t.mask ≤ 142 := by
      unfold SetTable.turns
      omega
    omega
  have j0 := List.getElem?_eq_getElem (l := t.place.toList) (i := i0) (by omega)
  generalize t.place.toList[i0] = jj at j0
  obtain ⟨c0, hc0, ec0⟩ := tab.before hK (i := i0) (j := jj) (by rw [List.getElem?_map, hL0, ← ek] <;> rfl) j0
  generalize hst0 : t.probeStart (thash P w k) = b0
  have wy : ∀ c, way t.mask (thash P w k) c = (nth t.mask b0 c).j := fun c => by rw [← hst0]; rfl
  have dum : ∀ c, (nth t.mask b0 c).dummy = none := fun c => by
    have key : ∀ (n : Nat) (p : SetTable.Probe), p.dummy = none → (nth t.mask p n).dummy = none := fun n => by
      induction n with
      | zero => exact fun p z => z
      | succ n ih => exact fun p z => ih _ (by unfold adv; split <;> exact z)
    exact key c b0 (by rw [← hst0]; rfl)
  have walk : ∀ (f c : Nat) (st : Option SetTable.Probe), st.getD b0 = nth t.mask b0 c → c ≤ c0 → c0 - c < f → wpAny (model P w) A (setSearchFrom a (.ref x) (thash P w k) true f st) Q E s := by
    intro f
    induction f with
    | zero => exact fun c st _ _ z => absurd z (Nat.not_lt_zero _)
    | succ f ih =>
      intro c st hst hc hf
      rw [setSearchFrom_succ]
      refine wpAny_bind (wpAny_setState_of ho hd ft.2 ?_)
      dsimp only
      have g0 : ¬ t.gaveWay = true := by
        unfold SetTable.gaveWay
        rw [mask_odd tab.mok]
        decide
      refine wp_if_neg g0 ?_
      try refine wpAny_bind (wpAny_pure ?_)
      have sh : ∀ q, nth t.mask (nth t.mask b0 c) q = nth t.mask b0 (c + q) := fun q => (nth_add t.mask c b0 q).symm
      have dlt : c0 - c < K - c := by omega
      have spec := go_spec t tab.ris tab.dm (fun i => (es[i]?.map (·.1)).getD 0) (thash P w k) (10 * SetTable.turns t.mask) (K - c) (nth t.mask b0 c) (dum c) (by omega)
        (fun q hq => by rw [sh, ← wy]; exact hKb (c + q) (by omega)) (by rw [sh, ← wy, show c + (K - c) = K by omega]; exact hK)
      have h0 : (fun i => (es[i]?.map (·.1)).getD 0) i0 = thash P w k := by
        show (es[i0]?.map (·.1)).getD 0 = _
        rw [row hL0, ← ek] <;> rfl
      have j1 : t.place.toList[i0]? = some (nth t.mask (nth t.mask b0 c) (c0 - c)).j := by
        rw [sh, ← wy, show c + (c0 - c) = c0 by clear spec; omega, ec0]
        exact j0
      rcases spec with ⟨q, i, hq, hi, hh, hno, hpr⟩ | ⟨hno, _⟩
      · have pr : t.probe (fun i => (es[i]?.map (·.1)).getD 0) (thash P w k) (st.getD (t.probeStart (thash P w k))) = some (.candidate (nth t.mask (nth t.mask b0 c) q).j i (nth t.mask (nth t.mask b0 c) (q + 1))) := by
          rw [hst0, hst]
          exact hpr
        rw [pr]
        dsimp only
        have le : q ≤ c0 - c := Nat.le_of_not_lt fun z => hno (c0 - c) i0 z j1 h0
        have il : i < L.length := by
          have := (List.getElem?_eq_some_iff.mp hi).1
          omega
        obtain ⟨p, hp⟩ : ∃ p, L[i]? = some p := ⟨_, List.getElem?_eq_getElem il⟩
        have pt := tup p (List.mem_of_getElem? hp)
        have rest : wpAny (model P w) A (searchRest a (.ref x) (thash P w k) true f es t (nth t.mask (nth t.mask b0 c) q).j i (nth t.mask (nth t.mask b0 c) (q + 1))) Q E s := by
          unfold searchRest
          rw [row hp]
          dsimp only
          refine wpAny_bind (wpAny_holding (wpAny_eqBool_tuple un pt hx ?_))
          refine wpAny_bind (wpAny_setState_of ho hd ft.2 ?_)
          dsimp only
          by_cases same : p.2 = k
          · exact wp_if_pos (by simp [same]) (wpAny_pure hin)
          · refine wp_if_neg (by simp [same]) ?_
            try refine wpAny_bind (wpAny_pure ?_)
            rw [sameMem]
            dsimp only
            have live := slot_live tab.ris hi
            simp only [if_true, live, row hp]
            refine wpAny_bind (wpAny_isSame_ref_self (wpAny_bind (wpAny_pure ?_)))
            simp only [if_true]
            refine wp_if_neg (by simp [same]) ?_
            have lt : q < c0 - c := Nat.lt_of_le_of_ne le fun z => by
              rw [← z] at j1
              have := slot_live tab.ris j1
              rw [live] at this
              injection this with this
              rw [← this, hp] at hL0
              exact same (by rw [Option.some.inj hL0]; exact ek)
            exact ih (c + (q + 1)) _ (sh (q + 1)) (by omega) (by omega)
        by_cases l : t.led = true
        · refine wp_if_neg (by simp [l]) ?_
          try refine wpAny_bind (wpAny_pure ?_)
          exact rest
        · refine wp_if_pos (by simp [l]) (wpAny_bind (seen_tup hx (fun y hy => ?_) ?_))
          · obtain ⟨e, he, rfl⟩ := List.mem_map.mp hy
            have he1 : e ∈ es.toList := by
              have z : e ∈ es ∧ e.1 = thash P w k := by simpa using he
              simpa using z.1
            rw [rows] at he1
            obtain ⟨p2, hp2, rfl⟩ := List.mem_map.mp he1
            exact ⟨p2.2, p2.1, rfl, tup p2 hp2⟩
          · refine wp_if_neg (by decide) ?_
            try refine wpAny_bind (wpAny_pure ?_)
            exact rest
      · exact absurd h0 (hno (c0 - c) i0 dlt j1)
  unfold setSearch
  exact walk 100000 0 none rfl (Nat.zero_le _) (by omega)
/-- one more: as many as 64, whatever was there -/
theorem addW_at (R : SetW P w s.heap a L es ep t) {x : Addr} {k : List Int} (hx : IsT P w s.heap k x) (un : A.units < cLine) (l : L.length ≤ 64) (l2 : k ∉ L.map (·.2) → L.length < 64) {Q : Bool → Shared → Prop}
    (fin : ∀ b g L' es' ep' t', Heap.SameBut a s.heap g → SetW P w g a L' es' ep' t' → (k ∈ L.map (·.2) → L' = L) → (k ∉ L.map (·.2) → L'.Perm ((x, k) :: L)) → Q b { s with heap := g }) : wpAny (model P w) A (setAddHashed a (.ref x) (thash P w k)) Q E s := by
  by_cases small : L.length + 1 < 64
  · exact add_at (R.tr (by omega)) hx un small fun b g L' es' ep' t' sb R' c1 c2 => fin b g L' es' ep' t' sb (SetW.of R') c1 c2
  have ft := R.fits
  have R0 := R
  obtain ⟨⟨⟨o, ho, hex, hd⟩, rows, tab⟩, nd, tup, ⟨pl, ld⟩, room⟩ := R
  unfold setAddHashed
  rw [show (100000 : Nat) = 99999 + 1 from rfl, setAddHashedIn_succ]
  refine wpAny_holding (wpAny_bind (wpAny_setState_of ho hd ft.2 ?_))
  dsimp only
  refine wp_if_neg (by simp [byScan, Value.scannable]) ?_
  try refine wpAny_bind (wpAny_pure ?_)
  by_cases hm : k ∈ L.map (·.2)
  · exact wpAny_bind (there_at R0 hx hm un (wpAny_pure (fin false s.heap L es ep t (.refl a s.heap) R0 (fun _ => rfl) fun z => absurd hm z)))
  have l3 := l2 hm
  have mk : t.mask = 127 := by
    rcases tab.mok with e | e | e <;> omega
  refine wpAny_bind (search_at (R0.tr l3) hx un (fun z => absurd z hm) fun K _ hK hb => ?_)
  dsimp only
  refine wpAny_bind (wpAny_setState_of ho hd ft.2 ?_)
  dsimp only
  obtain ⟨q1, q2, q3, q4, q5, q6, q7, q8, q9⟩ := tab.put hK hb
  rw [List.length_map] at q9
  rw [← q6] at pl
  rw [← q5] at ld
  have room' : (L.length + 1) * 5 < (t.put (way t.mask (thash P w k) K)).1.mask * 3 := by rw [q4, mk]; omega
  generalize t.put (way t.mask (thash P w k) K) = pt at *
  obtain ⟨u, i⟩ := pt
  dsimp only at *
  subst q1
  generalize SetTable.below t.place (way t.mask (thash P w k) K) = i at *
  have e1 : (SetTable.insertAt es i (thash P w k, Value.ref x)).toList = rowsOf P w (L.take i ++ (x, k) :: L.drop i) := by
    rw [SetTable.toList_insertAt, rows_put, rows]
  have pm := put_perm L i (x, k)
  have e2 : ((L.take i ++ (x, k) :: L.drop i).map fun p => thash P w p.2) = (L.map fun p => thash P w p.2).take i ++ thash P w k :: (L.map fun p => thash P w p.2).drop i := by
    rw [List.map_append, List.map_cons, List.map_take, List.map_drop]
  rw [← e2] at q3
  have e3 : (SetTable.insertAt es i (thash P w k, Value.ref x)).size = L.length + 1 := by
    have z := congrArg List.length e1
    rw [Array.length_toList] at z
    rw [z]
    exact (List.length_map _).trans pm.length_eq
  generalize SetTable.insertAt es i (thash P w k, Value.ref x) = es1 at e1 e3 ⊢
  generalize L.take i ++ (x, k) :: L.drop i = L1 at pm q3 e1
  have nf : ¬ u.tooFull = true := by
    unfold SetTable.tooFull
    rw [decide_eq_true_eq, q9]
    omega
  have sb : Heap.SameBut a s.heap (s.heap.update a (Obj.putSet es1 u)) := .update ..
  have ho1 := store_at (es' := es1) (t' := u) ho hd
  have done : ∀ b, Q b { s with heap := s.heap.update a (Obj.putSet es1 u) } := fun b => by
    refine fin b _ L1 es1 (ep + 1) u sb ⟨⟨⟨_, ho1, ⟨hex.1, hex.2.1, hex.2.2⟩, rfl⟩, e1, q3⟩, ?_, fun p hp => ?_, ⟨pl, ld⟩, by rw [pm.length_eq]; exact room'⟩ (fun z => absurd z hm) fun _ => pm
    · refine (pm.map (·.2)).nodup_iff.mpr ?_
      rw [List.map_cons]
      exact List.nodup_cons.mpr ⟨hm, nd⟩
    · rcases List.mem_cons.mp (pm.mem_iff.mp hp) with e | hp
      · rw [e]; exact isT_same hx ho hd sb
      · exact isT_same (tup p hp) ho hd sb
  first
    | (refine wpAny_bind ?_; refine wp_if_pos pl ?_; refine hashBy_tup hx ?_)
    | refine wp_if_pos pl (wpAny_bind (hashBy_tup hx ?_))
  simp only [if_true]
  refine wpAny_bind (wpAny_storeSet_of ho hd ?_ (by rw [e3, sizeLine_eq]; omega))
  first
    | exact wp_if_neg (by simp [nf]) (wpAny_pure (done true))
    | (refine wpAny_bind ?_; exact wp_if_neg (by simp [nf]) (wpAny_pure (wpAny_pure (done true))))
end
/-! ### sorted -/
theorem perm_map_inv {α β : Type} {f : α → β} {vs ws : List β} (h : vs.Perm ws) : ∀ L : List α, ws = L.map f → ∃ L1 : List α, L1.Perm L ∧ vs = L1.map f := by
  induction h with
  | nil => exact fun L e => ⟨[], by rw [List.map_eq_nil_iff.mp e.symm], rfl⟩
  | cons x _ ih =>
    intro L e
    match L with
    | [] => cases e
    | y :: L =>
      injection e with e1 e2
      obtain ⟨L1, p, q⟩ := ih L e2
      exact ⟨y :: L1, p.cons y, by rw [List.map_cons, q, e1]⟩
  | swap x y l =>
    intro L e
    match L with
    | [] => cases e
    | [_] => cases e
    | u :: v :: L =>
      injection e with e1 e2
      injection e2 with e2 e3
      exact ⟨v :: u :: L, .swap u v L, by rw [List.map_cons, List.map_cons, e1, e2, e3]⟩
  | trans _ _ ih1 ih2 =>
    intro L e
    obtain ⟨L2, p2, q2⟩ := ih2 L e
    obtain ⟨L1, p1, q1⟩ := ih1 L2 q2
    exact ⟨L1, p1.trans p2, q1⟩
/-- a pair's data -/
def encK (q : Addr × List Int) : PyData := .tuple [.int (q.2.getD 0 0), .int (q.2.getD 1 0)]
def leK (p q : Addr × List Int) : Bool := PySem.W.dataLe false encK p q
theorem leK_eq (p q : Addr × List Int) : leK p q = decide (p.2.getD 0 0 < q.2.getD 0 0 ∨ p.2.getD 0 0 = q.2.getD 0 0 ∧ p.2.getD 1 0 ≤ q.2.getD 1 0) := congrFun (congrFun (PySem.W.dataLe_ii (β := Addr × List Int) (fun q => q.2.getD 0 0) (fun q => q.2.getD 1 0)) p) q
theorem each_refs : ∀ L : List (Addr × List Int), PySem.W.EachIs (fun v (b : Addr × List Int) => v = Value.ref b.1) (L.map fun q => Value.ref q.1) L
  | [] => .nil
  | q :: L => .cons rfl (each_refs L)
theorem refs_each : ∀ {vs : List Value} {L : List (Addr × List Int)}, PySem.W.EachIs (fun v (b : Addr × List Int) => v = Value.ref b.1) vs L → vs = L.map fun q => Value.ref q.1
  | _, _, .nil => rfl
  | _, _, .cons h t => by rw [h, refs_each t, List.map_cons]
section
variable {P : Program} {w : World} {A : Around} {E : Value → Shared → Prop} {s : Shared} {a : Addr} {L : List (Addr × List Int)} {es : Array (Int × Value)} {ep : Nat} {t : SetTable}
theorem sorted_setW (R : SetW P w s.heap a L es ep t) (hh : A.handled = none) (un : A.units + 200 < cLine) (l : L.length ≤ 64) (two : ∀ p ∈ L, ∃ x y, p.2 = [x, y]) {Q : Value → Shared → Prop}
    (fin : ∀ u p (out : Array Value) (c : Nat) (L' : List (Addr × List Int)), (∀ b o, s.heap.get? b = some o → u.heap.get? b = some o) → u.gens = s.gens → u.os = s.os → s.heap.objs.size ≤ p → u.heap.get? p = some (seqObj "list" out c) →
      out.toList = L'.map (fun q => Value.ref q.1) → L'.Perm L → L'.Pairwise (fun q r => leK q r = true) → Q (.ref p) u) : wpAny (model P w) A (call (.builtin "sorted") [.ref a]) Q E s := by
  have ft := R.fits
  obtain ⟨⟨⟨o, ho, hex, hd⟩, rows, tab⟩, nd, tup, ⟨pl, ld⟩, room⟩ := R
  refine Calls.call_function_entry kind_sorted plain_sorted entry_sorted (args_sorted1 _) ?_
  unfold Builtin.«sorted»
  refine wpAny_bind (m := checkCount "sorted" 1 1 _) (wpAny_pure ?_)
  refine wpAny_bind (collect_set (A := A.in1) hh ⟨o, ho, hex.1, hd⟩ ft.2 (by rw [ft.1]; unfold scanBound; omega) tab.ris ld fun u vs k1 hz g1 o1 pm => ?_)
  obtain ⟨L1, p1, rfl⟩ := perm_map_inv pm L (f := fun q => Value.ref q.1) (by
    rw [rows]
    show List.map _ (L.map _) = _
    rw [List.map_map] <;> rfl)
  have l1 : L1.length ≤ 64 := by rw [p1.length_eq]; exact l
  refine wpAny_bind (wpAny_newList ?_ (by rw [List.length_map, sizeLine_eq]; omega))
  have hn : (u.heap.push (seqObj "list" (L1.map fun q => Value.ref q.1).toArray 0)).get? u.heap.objs.size = some (seqObj "list" (L1.map fun q => Value.ref q.1).toArray 0) := Heap.get?_push_size _ rfl
  have rd : ∀ q ∈ L1, ∃ as, Reads (u.heap.push (seqObj "list" (L1.map fun q => Value.ref q.1).toArray 0)) (.ref q.1) (encK q) as ∧ u.heap.objs.size ∉ as := fun q hq => by
    have hq := p1.mem_iff.mp hq
    have it := tup q hq
    obtain ⟨x, y, e⟩ := two q hq
    obtain ⟨oq, its, n, h1, h2, h3, h4⟩ := it
    have h1' := k1 q.1 oq h1
    have ne : u.heap.objs.size ≠ q.1 := Nat.ne_of_gt (Heap.lt_size h1')
    rw [e] at h4
    have enc : encK q = .tuple [.int x, .int y] := by unfold encK; rw [e] <;> rfl
    rw [enc]
    refine ⟨[], ?_, by simp⟩
    generalize hv : its.toList = vs at h4
    cases h4 with
    | cons z1 h4 =>
      cases h4 with
      | cons z2 h4 =>
        cases h4
        obtain ⟨t1, rfl⟩ := Value.isInt_shape z1
        obtain ⟨t2, rfl⟩ := Value.isInt_shape z2
        exact .tuple (Heap.get?_push_of_some _ h1') h2 h3 (by rw [hv]; exact .cons (.int x t1) (.cons (.int y t2) .nil))
  have rds : ∀ L2 : List (Addr × List Int), (∀ q ∈ L2, q ∈ L1) → PySem.W.EachIs (fun v (b : Addr × List Int) => ∃ as, Reads (u.heap.push (seqObj "list" (L1.map fun q => Value.ref q.1).toArray 0)) v (encK b) as ∧ u.heap.objs.size ∉ as) (L2.map fun q => Value.ref q.1) L2 := fun L2 => by
    induction L2 with
    | nil => exact fun _ => .nil
    | cons q L2 ih => exact fun h => .cons (rd q (h q List.mem_cons_self)) (ih fun y hy => h y (List.mem_cons_of_mem _ hy))
  have hal : PySem.W.AllAlike (L1.map encK) := fun d hd e he => by
    obtain ⟨p, _, rfl⟩ := List.mem_map.mp hd
    obtain ⟨q, _, rfl⟩ := List.mem_map.mp he
    simp [PySem.W.alike, PySem.W.alikeAll, encK]
  have hk : PySem.W.Sortable (L1.map encK) := .inl fun d hd => by
    obtain ⟨p, _, rfl⟩ := List.mem_map.mp hd
    exact ⟨_, _, rfl⟩
  refine wpAny_bind (wpAny_holding (PySem.W.list_sort_data (s := { u with heap := u.heap.push (seqObj "list" (L1.map fun q => Value.ref q.1).toArray 0) }) (enc := encK) hn (each_refs L1) (rds L1 fun q hq => hq) hal hk (by rw [sizeLine_eq]; omega) (fun b _ => ?_) fun out lo eo => ?_))
  · have : (encK b).depth ≤ 2 := by simp [encK, PyData.depth, PyData.depthAll]
    show A.units + 1 + 1 + (encK b).depth < cLine
    omega
  · obtain ⟨c, hc⟩ := sortedHeap_at (vs := L1.map fun q => Value.ref q.1) (out := out.toArray) hn
    refine wpAny_pure ⟨_, rfl, fin _ u.heap.objs.size out.toArray c (L1.mergeSort leK) (fun b o e => ?_) g1 o1 hz hc ?_ ((List.mergeSort_perm L1 leK).trans p1) ?_⟩
    · have e1 := k1 b o e
      have lt := Heap.lt_size e1
      show (sortedHeap (u.heap.push (seqObj "list" (L1.map fun q => Value.ref q.1).toArray 0)) u.heap.objs.size (L1.map fun q => Value.ref q.1) out.toArray).get? b = some o
      rw [sortedHeap_old (Nat.ne_of_lt lt) (by rw [size_push']; exact Nat.lt_succ_of_lt lt)]
      exact Heap.get?_push_of_some _ e1
    · exact refs_each eo
    · exact List.pairwise_mergeSort (le := leK) (fun x y z h g => by
        rw [leK_eq, decide_eq_true_eq] at *
        omega) (fun x y => by
        rw [leK_eq, leK_eq, Bool.or_eq_true, decide_eq_true_eq, decide_eq_true_eq]
        omega) L1
end
/-! ### as an object of the layer -/
def SetW0 (P : Program) (w : World) (h : Heap) (a : Addr) (L : List (Addr × List Int)) : Prop := L.length ≤ 64 ∧ ∃ (es : Array (Int × Value)) (ep : Nat) (t : SetTable),
  ((∃ o, h.get? a = some o ∧ o.ExactSet ∧ o.data = .set es ep t) ∧ es.toList = rowsOf P w L ∧ TabOk t (L.map fun p => thash P w p.2)) ∧ (L.map (·.2)).Nodup ∧ (t.plain = true ∧ (w.params.followText "set-order" = true ∨ t.led = true)) ∧ L.length * 5 < t.mask * 3
def SetTW (P : Program) (w : World) (a : Addr) (L : List (Addr × List Int)) : HO := .ext fun h => SetW0 P w h a L
section
variable {P : Program} {w : World} {h : Heap} {a : Addr} {L : List (Addr × List Int)} {es : Array (Int × Value)} {ep : Nat} {t : SetTable}
theorem SetW.w0 (R : SetW P w h a L es ep t) (l : L.length ≤ 64) : SetW0 P w h a L := ⟨l, es, ep, t, R.1, R.2.1, R.2.2.2⟩
theorem setTW_new {H : Hp} (R : SetW0 P w h a L) : ObjOk P w H h a (SetTW P w a L) := by
  have ⟨l, es, ep, t, ⟨⟨o, ho, r⟩, q1⟩, q2⟩ := R
  refine ⟨R, ⟨o, ho⟩, fun h1 h2 p k => ?_⟩
  have ⟨l', es', ep', t', ⟨⟨o', ho', r'⟩, z1⟩, z2⟩ := (p : SetW0 P w h1 a L)
  exact ⟨l', es', ep', t', ⟨⟨o', k o' ho', r'⟩, z1⟩, z2⟩
end
/-- sorted(set), the pairs -/
def rSortedW (K : PySem.W.Frag) (P : Program) (w : World) : List V → Hp → VK → Prop := fun vs H Q => ∃ (a : Addr) (L : List (Addr × List Int)), vs = [V.ref a] ∧ H a = some (SetTW P w a L) ∧ (∀ p ∈ L, SqT K H p.1 (p.2.map V.int)) ∧ (∀ p ∈ L, ∃ x y, p.2 = [x, y]) ∧
  ∀ (L' : List (Addr × List Int)) (p : Addr), L'.Perm L → (L'.map (·.2)).Nodup → L'.Pairwise (fun q r => leK q r = true) → H p = none → Q (.ref p) (upd H p (.lst (L'.map fun q => V.ref q.1)))
theorem call_sortedW {X : Cx} (hc : X.calm = true) (hu : X.A.units + 200 < cLine) : CallR X (.builtin "sorted") (rSortedW X.K X.prog X.w) := by
  intro pins s σ H vs us Q I r ⟨a, L, e, ha, hk, two, q⟩
  subst e
  obtain ⟨l, es, ep, t, g1, g2, g3⟩ := (show SetW0 X.prog X.w s.heap a L from (I.hok a _ ha).1)
  have R : SetW X.prog X.w s.heap a L es ep t := ⟨g1, g2, fun p hp => I.isT (hk p hp), g3⟩
  rw [Vals.ref1 r]
  refine sorted_setW R (I.ok.hd hc) hu l two fun u p out c L' k g o hp hg hout pm pw => ?_
  have hlen : (L'.map fun q => V.ref q.1).length ≤ sizeLine := by rw [List.length_map, pm.length_eq, sizeLine_eq]; omega
  have hn : H p = none := I.hok.fresh hp
  have J : Inv X pins σ (upd H p (.lst (L'.map fun q => V.ref q.1))) { s with heap := u.heap, gens := u.gens, drawn := u.drawn, toks := u.toks } :=
    I.call (ch := []) (Un.laid k hp hn) (I.hok.laid k hp ⟨hlen, out.toList, c, by rw [hout]; exact vals_of_refs L', hg⟩) (by rw [g]; exact I.bare) (fun _ z => nomatch z)
  have e : u = { s with heap := u.heap, gens := u.gens, drawn := u.drawn, toks := u.toks } := by
    cases u
    cases s
    cases o
    rfl
  rw [e]
  exact ⟨.ref p, _, J, rfl, q L' p pm ((pm.map (·.2)).nodup_iff.mpr g2) pw hn⟩
end Dn

/-! DenS: set(xs), xs a list or a tuple of pairs, not many of them different. -/
namespace Dn
open PySem PySem.Spec L2
open PyProof.Rows hiding St

section
variable {P : Program} {w : World} {A : Around} {E : Value → Shared → Prop} {s : Shared}
/-- the set's loop, where few items are different -/
theorem fold_few {I : Addr} {fp wr : List Addr} {G : Array GenState → Array GenState → Prop} {n : Nat} {Pv : Nat → Value → Prop} {Sx : Nat → Shared → Prop} {R : Result → Shared → Prop}
    (W : WalksS P w A.in1 I fp wr G n Pv Sx) (D : Addr) (nD : D ∉ fp) (ks : List (Addr × List Int)) (ln : n = ks.length) (few : ∀ L : List (Addr × List Int), (L.map (·.2)).Nodup → (∀ p ∈ L, p ∈ ks) → L.length ≤ 64) (vl : ∀ i v, Pv i v → ∃ p, ks[i]? = some p ∧ v = .ref p.1)
    (g0 : Heap) (kt : ∀ p ∈ ks, IsT P w g0 p.2 p.1) (d0 : g0.get? D = none) (w0 : ∀ b ∈ wr, g0.get? b = none) (un : A.in1.units < cLine) :
    ∀ (m i : Nat) (s : Shared), n - i = m → i ≤ n → Sx i s → (∀ b o, g0.get? b = some o → s.heap.get? b = some o) → (∃ L es ep t, SetW P w s.heap D L es ep t ∧ Got ks i L) →
      (∀ s' L es ep t, Moved (D :: wr) G s s' → SetW P w s'.heap D L es ep t → Got ks n L → (∀ b o, g0.get? b = some o → s'.heap.get? b = some o) → R (.ok (.ret .none)) s') →
      codeAny (model P w) A (.builtin "set.update.loop" ⟨[.ref D, .ref I], []⟩) R s := by
  have nw : D ∉ wr := fun z => nD (W.sub _ z)
  have up : ∀ b ∈ wr, b ∈ D :: wr := fun b z => List.mem_cons_of_mem _ z
  have stay : ∀ {a b : Shared}, Moved wr G a b → (∀ c o, g0.get? c = some o → a.heap.get? c = some o) → ∀ c o, g0.get? c = some o → b.heap.get? c = some o := fun mv k c o e =>
    mv.heap c o (fun z => by rw [w0 c z] at e; cases e) (k c o e)
  intro m
  induction m with
  | zero =>
    intro i s em le st k ⟨L, es, ep, t, S, got⟩ fin
    obtain rfl : i = n := by omega
    refine codeAny_builtin F.entry_set_update_loop ?_
    rw [Around.under_plainId F.plain_set_update_loop _]
    show wpAny _ A.in1 (pyNext (.ref I) >>= _) _ _ s
    refine wpAny_bind (W.done s _ _ st fun u mv => ?_)
    show wpAny _ A.in1 (ret Value.none) _ _ u
    have k' := stay mv k
    exact wpAny_pure (fin u L es ep t (mv.mono up) (S.keep (fun o e => mv.heap D o nw e) fun p hp => isT_keep (kt p (List.mem_of_mem_take (got.sub p hp))) k') got k')
  | succ m ih =>
    intro i s em le st k ⟨L, es, ep, t, S, got⟩ fin
    have lt : i < n := by omega
    refine codeAny_builtin F.entry_set_update_loop ?_
    rw [Around.under_plainId F.plain_set_update_loop _]
    show wpAny _ A.in1 (pyNext (.ref I) >>= _) _ _ s
    refine wpAny_bind (W.item i s _ _ lt st fun v u pv st' mv => ?_)
    obtain ⟨p, hp, ev⟩ := vl i v pv
    subst ev
    have k' := stay mv k
    have inL : ∀ q ∈ L, q ∈ ks := fun q z => List.mem_of_mem_take (got.sub q z)
    have S' : SetW P w u.heap D L es ep t := S.keep (fun o e => mv.heap D o nw e) fun q z => isT_keep (kt q (inL q z)) k'
    have px : IsT P w u.heap p.2 p.1 := isT_keep (kt p (List.mem_of_getElem? hp)) k'
    show wpAny _ A.in1 (holding [Value.ref p.1] (setAdd D (.ref p.1)) >>= _) _ _ u
    refine wpAny_bind (wpAny_holding ?_)
    unfold setAdd
    refine wpAny_holding (wpAny_bind (wpAny_pyHash_tuple un px ?_))
    have inK : p ∈ ks := List.mem_of_getElem? hp
    refine addW_at (s := { u with toks := u.toks + (p.2.length + 1) }) S' px un (few L S.2.1 inL) (fun hm => ?_) fun b g' L' es' ep' t' sb S2 c1 c2 => ?_
    case refine_1 =>
      have z := few (p :: L) (by rw [List.map_cons]; exact List.nodup_cons.mpr ⟨hm, S.2.1⟩) fun q hq => (List.mem_cons.mp hq).elim (fun e => by rw [e]; exact inK) (inL q)
      rw [List.length_cons] at z
      exact z
    have got' : Got ks (i + 1) L' := by
      by_cases c : p.2 ∈ L.map (·.2)
      · rw [c1 c]; exact got.same hp c
      · exact got.more hp (c2 c)
    have k2 : ∀ b o, g0.get? b = some o → g'.get? b = some o := fun b o e => (sb.2 b (fun z => by rw [z, d0] at e; cases e)).trans (k' b o e)
    refine wpAny_pure ⟨plainId_quiet F.plain_set_update_loop _, ih (i + 1) _ (by omega) lt (W.frame _ u _ _ st' (Nat.le_add_right _ _) fun b z o e => ?_) k2 ⟨L', es', ep', t', S2, got'⟩ fun u2 L2 es2 ep2 t2 mv2 S3 got2 k3 => ?_⟩
    · rw [sb.2 b (fun y : b = D => nD (by rw [← y]; exact z))]; exact e
    · refine fin u2 L2 es2 ep2 t2 (Moved.trans W.gtrans ((mv.mono up).then_heap (Nat.le_add_right _ _) fun b o z e => ?_) mv2) S3 got2 k3
      rw [sb.2 b (fun y : b = D => z (by rw [y]; exact List.mem_cons_self))]; exact e

set_option maxHeartbeats 3200000 in
theorem set_of_list {l : Addr} {items : Array Value} (ks : List (Addr × List Int)) {Q : Value → Shared → Prop} (hh : A.handled = none) (src : s.heap.IsList l items) (itm : items.toList = ks.map fun p => Value.ref p.1)
    (kt : ∀ p ∈ ks, IsT P w s.heap p.2 p.1) (few : ∀ L : List (Addr × List Int), (L.map (·.2)).Nodup → (∀ p ∈ L, p ∈ ks) → L.length ≤ 64) (un : A.units + 3 < cLine)
    (fin : ∀ (g : Heap) (tk : Nat) L es ep t, SetW P w g s.heap.objs.size L es ep t → Got ks ks.length L → (∀ b o, s.heap.get? b = some o → g.get? b = some o) → Q (.ref s.heap.objs.size) { s with heap := g, toks := tk }) :
    wpAny (model P w) A (call (.type "set") [.ref l]) Q E s := by
  have sz : items.size = ks.length := by rw [← Array.length_toList, itm, List.length_map]
  obtain ⟨cm, tm, mro⟩ := F.called_set.mro
  have hmade := F.called_set.made
  have hsub := F.called_set.sub
  refine wpAny_call (codeAny_of_tree ?_)
  show wpAny _ _ (callAny (.type "set") _) _ _ _
  refine wpAny_pure ⟨Code.quiet_builtin _ (by decide +kernel), codeAny_builtin F.entry_type_call ?_⟩
  rw [Around.under_plain (weight_type_call_type "set" [.ref l] []) rfl]
  have a1 := F.called_set.notType
  have a2 := F.called_set.canCreate
  have a3 := F.typeCall_set_1 (.ref l)
  repeat (any_goals (first | assumption | wp_step))
  refine codeAny_mono (code_set_led1 (.ref l) (E := E) (Q₁ := fun obj s₁ => obj = .ref s.heap.objs.size ∧ s₁ = { s with heap := s.heap.push { cls := .type "set", dict := none, data := .set #[] 0 (.fresh 0 0 (!w.params.followText "set-order")) } }) ⟨rfl, rfl⟩) fun r s₁ hr => ?_
  cases r with
  | error e => exact hr
  | ok fl =>
    cases fl with
    | ret obj =>
      obtain ⟨rfl, rfl⟩ := hr
      have gS : (s.heap.push { cls := .type "set", dict := none, data := .set #[] 0 (.fresh 0 0 (!w.params.followText "set-order")) }).get? s.heap.objs.size = some { cls := .type "set", dict := none, data := .set #[] 0 (.fresh 0 0 (!w.params.followText "set-order")) } := Heap.get?_push_size _ rfl
      have gT : Shared.TypeIs { s with heap := s.heap.push { cls := .type "set", dict := none, data := .set #[] 0 (.fresh 0 0 (!w.params.followText "set-order")) } } (.ref s.heap.objs.size) "set" := ⟨_, gS, rfl⟩
      have a4 := F.called_set.init.lookup
      have a5 := F.called_set.init.bind (.ref s.heap.objs.size)
      repeat (any_goals (first | assumption | wp_step))
      refine codeAny_mono (codeAny_call_builtin (R := wants (fun r s₂ => r = .none ∧ ∃ g tk L es ep t, s₂ = { s with heap := g, toks := tk } ∧ SetW P w g s.heap.objs.size L es ep t ∧ Got ks ks.length L ∧ (∀ b o, s.heap.get? b = some o → g.get? b = some o)) E) F.called_set.init.plain F.entry_set_init (check_set_init_1 gT ?_)) fun r₂ s₂ hr₂ => ?_
      · obtain ⟨⟨ocls, odict, odata, oslots⟩, ol, kcl, kn, kdt⟩ := src
        simp only at kcl kdt
        subst kcl; subst kdt
        have ol' : (s.heap.push { cls := .type "set", dict := none, data := .set #[] 0 (.fresh 0 0 (!w.params.followText "set-order")) }).get? l = some { cls := .type "list", dict := odict, data := .seq items kn, slots := oslots } := Heap.get?_push_of_some _ ol
        have b1 := F.sub_list_set
        have b2 := F.sub_list_frozenset
        have b3 : (Value.type "list" == Value.type "dict") = false := by decide
        have src1 : (s.heap.push { cls := .type "set", dict := none, data := .set #[] 0 (.fresh 0 0 (!w.params.followText "set-order")) }).IsList l items := ⟨_, ol', rfl, kn, rfl⟩
        unfold Builtin.«set.__init__» noKeywords Builtin.Frozenset.updateFrom
        generalize pI : pyIter = PI
        wp_walk
        subst pI
        refine wpAny_pyIter_list src1 ?_
        refine wpAny_bind (wpAny_runValue ?_)
        have lS : l < s.heap.objs.size := Heap.lt_size ol
        have h3 : A.in1.in1.in1.handled = none := by simp [hh]
        have sz1 : (s.heap.push { cls := .type "set", dict := none, data := .set #[] 0 (.fresh 0 0 (!w.params.followText "set-order")) }).objs.size = s.heap.objs.size + 1 := Heap.size_push ..
        have neI : l ≠ (s.heap.push { cls := .type "set", dict := none, data := .set #[] 0 (.fresh 0 0 (!w.params.followText "set-order")) }).objs.size := by rw [sz1]; exact Nat.ne_of_lt (Nat.lt_succ_of_lt lS)
        have nS : s.heap.objs.size ∉ [(s.heap.push { cls := .type "set", dict := none, data := .set #[] 0 (.fresh 0 0 (!w.params.followText "set-order")) }).objs.size, l] := by
          rw [sz1]
          simp only [List.mem_cons, List.not_mem_nil, or_false, not_or]
          exact ⟨Nat.ne_of_lt (Nat.lt_succ_self _), Nat.ne_of_gt lS⟩
        have vl : ∀ (i : Nat) (v : Value), items[i]? = some v → ∃ p, ks[i]? = some p ∧ v = .ref p.1 := fun i v hv => by
          have q : items.toList[i]? = some v := by rw [Array.getElem?_toList]; exact hv
          rw [itm, List.getElem?_map] at q
          obtain ⟨p, hp, e⟩ := Option.map_eq_some_iff.mp q
          exact ⟨p, hp, e.symm⟩
        have no : ∀ b, s.heap.objs.size ≤ b → s.heap.get? b = none := fun b hb => by
          cases q : s.heap.get? b with
          | none => rfl
          | some o => exact absurd (Nat.lt_of_lt_of_le (Heap.lt_size q) hb) (Nat.lt_irrefl _)
        refine fold_few ((Walks.list h3 _ l neI items).toS) s.heap.objs.size nS ks sz few vl s.heap kt (no _ (Nat.le_refl _)) (fun b hb => no b (by
            rw [List.mem_singleton.mp hb, sz1]; exact Nat.le_succ _)) un (items.size - 0) 0 _ (by omega) (Nat.zero_le _)
          ⟨⟨_, Heap.get?_push_size _ rfl, rfl, rfl⟩, (src1.push _)⟩ (fun b o e => Heap.get?_push_of_some _ (Heap.get?_push_of_some _ e)) ?c0 ?c1
        case c0 => exact ⟨[], #[], 0, _, SetW.of (setTR_fresh ((Heap.get?_push_of_some _ gS).trans rfl)), Got.zero ks⟩
        case c1 =>
          intro u L es ep t mv S' got' kp
          obtain ⟨g, g2, d', tk', os'⟩ := u
          obtain rfl : g2 = s.gens := mv.gens
          obtain rfl : d' = s.drawn := mv.drawn
          obtain rfl : os' = s.os := mv.os
          show wpAny _ _ _ _ _ _
          refine wpAny_pure ?_
          show wpAny _ _ (ret Value.none) _ _ _
          rw [sz] at got'
          exact wpAny_pure ⟨rfl, g, tk', L, es, ep, t, rfl, S', got', kp⟩
      · cases r₂ with
        | error e => exact hr₂
        | ok fl₂ =>
          cases fl₂ with
          | ret r =>
            obtain ⟨rfl, g, tk, L, es, ep, t, rfl, S', got', k'⟩ := hr₂
            repeat (any_goals (first | assumption | wp_step))
            exact fin _ _ _ _ _ _ S' got' k'
          | _ => exact hr₂.elim
    | _ => exact hr.elim

set_option maxHeartbeats 3200000 in
theorem set_of_tuple {l : Addr} {items : Array Value} (ks : List (Addr × List Int)) {Q : Value → Shared → Prop} (hh : A.handled = none) (src : s.heap.IsTuple l items) (itm : items.toList = ks.map fun p => Value.ref p.1)
    (kt : ∀ p ∈ ks, IsT P w s.heap p.2 p.1) (few : ∀ L : List (Addr × List Int), (L.map (·.2)).Nodup → (∀ p ∈ L, p ∈ ks) → L.length ≤ 64) (un : A.units + 3 < cLine)
    (fin : ∀ (g : Heap) (tk : Nat) L es ep t, SetW P w g s.heap.objs.size L es ep t → Got ks ks.length L → (∀ b o, s.heap.get? b = some o → g.get? b = some o) → Q (.ref s.heap.objs.size) { s with heap := g, toks := tk }) :
    wpAny (model P w) A (call (.type "set") [.ref l]) Q E s := by
  have sz : items.size = ks.length := by rw [← Array.length_toList, itm, List.length_map]
  obtain ⟨cm, tm, mro⟩ := F.called_set.mro
  have hmade := F.called_set.made
  have hsub := F.called_set.sub
  refine wpAny_call (codeAny_of_tree ?_)
  show wpAny _ _ (callAny (.type "set") _) _ _ _
  refine wpAny_pure ⟨Code.quiet_builtin _ (by decide +kernel), codeAny_builtin F.entry_type_call ?_⟩
  rw [Around.under_plain (weight_type_call_type "set" [.ref l] []) rfl]
  have a1 := F.called_set.notType
  have a2 := F.called_set.canCreate
  have a3 := F.typeCall_set_1 (.ref l)
  repeat (any_goals (first | assumption | wp_step))
  refine codeAny_mono (code_set_led1 (.ref l) (E := E) (Q₁ := fun obj s₁ => obj = .ref s.heap.objs.size ∧ s₁ = { s with heap := s.heap.push { cls := .type "set", dict := none, data := .set #[] 0 (.fresh 0 0 (!w.params.followText "set-order")) } }) ⟨rfl, rfl⟩) fun r s₁ hr => ?_
  cases r with
  | error e => exact hr
  | ok fl =>
    cases fl with
    | ret obj =>
      obtain ⟨rfl, rfl⟩ := hr
      have gS : (s.heap.push { cls := .type "set", dict := none, data := .set #[] 0 (.fresh 0 0 (!w.params.followText "set-order")) }).get? s.heap.objs.size = some { cls := .type "set", dict := none, data := .set #[] 0 (.fresh 0 0 (!w.params.followText "set-order")) } := Heap.get?_push_size _ rfl
      have gT : Shared.TypeIs { s with heap := s.heap.push { cls := .type "set", dict := none, data := .set #[] 0 (.fresh 0 0 (!w.params.followText "set-order")) } } (.ref s.heap.objs.size) "set" := ⟨_, gS, rfl⟩
      have a4 := F.called_set.init.lookup
      have a5 := F.called_set.init.bind (.ref s.heap.objs.size)
      repeat (any_goals (first | assumption | wp_step))
      refine codeAny_mono (codeAny_call_builtin (R := wants (fun r s₂ => r = .none ∧ ∃ g tk L es ep t, s₂ = { s with heap := g, toks := tk } ∧ SetW P w g s.heap.objs.size L es ep t ∧ Got ks ks.length L ∧ (∀ b o, s.heap.get? b = some o → g.get? b = some o)) E) F.called_set.init.plain F.entry_set_init (check_set_init_1 gT ?_)) fun r₂ s₂ hr₂ => ?_
      · obtain ⟨⟨ocls, odict, odata, oslots⟩, ol, kcl, kn, kdt⟩ := src
        simp only at kcl kdt
        subst kcl; subst kdt
        have ol' : (s.heap.push { cls := .type "set", dict := none, data := .set #[] 0 (.fresh 0 0 (!w.params.followText "set-order")) }).get? l = some { cls := .type "tuple", dict := odict, data := .seq items kn, slots := oslots } := Heap.get?_push_of_some _ ol
        have b1 := F.sub_tuple_set
        have b2 := F.sub_tuple_frozenset
        have b3 : (Value.type "tuple" == Value.type "dict") = false := by decide
        have src1 : (s.heap.push { cls := .type "set", dict := none, data := .set #[] 0 (.fresh 0 0 (!w.params.followText "set-order")) }).IsTuple l items := ⟨_, ol', rfl, kn, rfl⟩
        unfold Builtin.«set.__init__» noKeywords Builtin.Frozenset.updateFrom
        generalize pI : pyIter = PI
        wp_walk
        subst pI
        refine wpAny_pyIter_tuple src1 ?_
        refine wpAny_bind (wpAny_runValue ?_)
        have lS : l < s.heap.objs.size := Heap.lt_size ol
        have h3 : A.in1.in1.in1.handled = none := by simp [hh]
        have sz1 : (s.heap.push { cls := .type "set", dict := none, data := .set #[] 0 (.fresh 0 0 (!w.params.followText "set-order")) }).objs.size = s.heap.objs.size + 1 := Heap.size_push ..
        have neI : l ≠ (s.heap.push { cls := .type "set", dict := none, data := .set #[] 0 (.fresh 0 0 (!w.params.followText "set-order")) }).objs.size := by rw [sz1]; exact Nat.ne_of_lt (Nat.lt_succ_of_lt lS)
        have nS : s.heap.objs.size ∉ [(s.heap.push { cls := .type "set", dict := none, data := .set #[] 0 (.fresh 0 0 (!w.params.followText "set-order")) }).objs.size, l] := by
          rw [sz1]
          simp only [List.mem_cons, List.not_mem_nil, or_false, not_or]
          exact ⟨Nat.ne_of_lt (Nat.lt_succ_self _), Nat.ne_of_gt lS⟩
        have vl : ∀ (i : Nat) (v : Value), items[i]? = some v → ∃ p, ks[i]? = some p ∧ v = .ref p.1 := fun i v hv => by
          have q : items.toList[i]? = some v := by rw [Array.getElem?_toList]; exact hv
          rw [itm, List.getElem?_map] at q
          obtain ⟨p, hp, e⟩ := Option.map_eq_some_iff.mp q
          exact ⟨p, hp, e.symm⟩
        have no : ∀ b, s.heap.objs.size ≤ b → s.heap.get? b = none := fun b hb => by
          cases q : s.heap.get? b with
          | none => rfl
          | some o => exact absurd (Nat.lt_of_lt_of_le (Heap.lt_size q) hb) (Nat.lt_irrefl _)
        refine fold_few ((Walks.tuple h3 _ l neI items).toS) s.heap.objs.size nS ks sz few vl s.heap kt (no _ (Nat.le_refl _)) (fun b hb => no b (by
            rw [List.mem_singleton.mp hb, sz1]; exact Nat.le_succ _)) un (items.size - 0) 0 _ (by omega) (Nat.zero_le _)
          ⟨⟨_, Heap.get?_push_size _ rfl, rfl, rfl⟩, (src1.push _)⟩ (fun b o e => Heap.get?_push_of_some _ (Heap.get?_push_of_some _ e)) ?c0 ?c1
        case c0 => exact ⟨[], #[], 0, _, SetW.of (setTR_fresh ((Heap.get?_push_of_some _ gS).trans rfl)), Got.zero ks⟩
        case c1 =>
          intro u L es ep t mv S' got' kp
          obtain ⟨g, g2, d', tk', os'⟩ := u
          obtain rfl : g2 = s.gens := mv.gens
          obtain rfl : d' = s.drawn := mv.drawn
          obtain rfl : os' = s.os := mv.os
          show wpAny _ _ _ _ _ _
          refine wpAny_pure ?_
          show wpAny _ _ (ret Value.none) _ _ _
          rw [sz] at got'
          exact wpAny_pure ⟨rfl, g, tk', L, es, ep, t, rfl, S', got', kp⟩
      · cases r₂ with
        | error e => exact hr₂
        | ok fl₂ =>
          cases fl₂ with
          | ret r =>
            obtain ⟨rfl, g, tk, L, es, ep, t, rfl, S', got', k'⟩ := hr₂
            repeat (any_goals (first | assumption | wp_step))
            exact fin _ _ _ _ _ _ S' got' k'
          | _ => exact hr₂.elim
    | _ => exact hr.elim
end
end Dn

/-! Den1: values by content, slots, what a run of a text gives, and what stands for it in the heap. -/
namespace Dn
open PySem PySem.Spec L2
open PyProof.Rows hiding St

/-! ### slots -/
/-- a name's content: unset; a thing that never changes again; a list, a dict of its own; the script; a thing of a kind of its own -/
inductive Slot where
  | un | val (d : PyData) | own (ds : List PyData) | odc (t : Bool) (es : List (PyData × PyData)) | scr (ns : List Int) | obj (k : Nat) (ds : List PyData)
abbrev Env := List Slot
def Slot.isOwn : Slot → Bool
  | .own _ => true
  | .odc _ _ => true
  | .obj _ _ => true
  | _ => false

/-! ### outcomes -/
structure Exc where
  cls : Str
  arg : Option PyData
/-- any: whichever number comes; exs: a refusal, told with the slots as they stand -/
inductive Out (α : Type) where
  | ok (a : α) | exc (x : Exc) | stuck | any (g : Nat → Out α) | exs (x : Exc) (ρ : Env)
namespace Out
def bindR {α β : Type} : Out α → (α → Out β) → Out β
  | .ok a, f => f a
  | .exc x, _ => .exc x
  | .stuck, _ => .stuck
  | .any g, f => .any fun n => bindR (g n) f
  | .exs x ρ, _ => .exs x ρ
/-- not by recursion: so it is quickly looked at -/
def bind {α β : Type} (c : Out α) (f : α → Out β) : Out β := match c with
  | .ok a => f a
  | .exc x => .exc x
  | .stuck => .stuck
  | .any g => .any fun n => bindR (g n) f
  | .exs x ρ => .exs x ρ
theorem bindR_eq {α β : Type} (c : Out α) (f : α → Out β) : bindR c f = bind c f := by
  cases c <;> rfl
instance : Monad Out where
  pure := .ok
  bind := Out.bind
def wp {α : Type} (c : Out α) (P : α → Prop) (E : Exc → Prop) : Prop := match c with
  | .ok a => P a
  | .exc x => E x
  | .stuck => False
  | .any _ => False
  | .exs _ _ => False
/-- .. where a number may come, a refusal may be told with the slots -/
def wpx {α : Type} : Out α → (α → Prop) → (Exc → Prop) → (Exc → Env → Prop) → Prop
  | .ok a, P, _, _ => P a
  | .exc x, _, E, _ => E x
  | .stuck, _, _, _ => False
  | .any g, P, E, S => ∀ n, wpx (g n) P E S
  | .exs x ρ, _, _, S => S x ρ
end Out
@[simp] theorem bind_ok {α β : Type} (a : α) (f : α → Out β) : (Out.ok a >>= f) = f a := rfl
@[simp] theorem bind_exc {α β : Type} (x : Exc) (f : α → Out β) : ((Out.exc x : Out α) >>= f) = .exc x := rfl
@[simp] theorem bind_stuck {α β : Type} (f : α → Out β) : ((Out.stuck : Out α) >>= f) = .stuck := rfl
@[simp] theorem pure_ok {α : Type} (a : α) : (pure a : Out α) = .ok a := rfl
theorem wp_bind {α β : Type} {c : Out α} {f : α → Out β} {P : β → Prop} {E : Exc → Prop} (h : (c >>= f).wp P E) : c.wp (fun a => (f a).wp P E) E := by
  cases c with
  | ok a => exact h
  | exc x => exact h
  | stuck => exact h
  | any g => exact h
  | exs x ρ => exact h
theorem wp_mono {α : Type} {c : Out α} {P P' : α → Prop} {E E' : Exc → Prop} (h : c.wp P E) (hP : ∀ a, P a → P' a) (hE : ∀ x, E x → E' x) : c.wp P' E' := by
  cases c with
  | ok a => exact hP a h
  | exc x => exact hE x h
  | stuck => exact h
  | any g => exact h
  | exs x ρ => exact h
theorem wpx_bind {α β : Type} {c : Out α} {f : α → Out β} {P : β → Prop} {E : Exc → Prop} {S : Exc → Env → Prop} (h : (c.bind f).wpx P E S) : c.wpx (fun a => (f a).wpx P E S) E S := by
  rw [← Out.bindR_eq] at h
  induction c with
  | ok a => exact h
  | exc x => exact h
  | stuck => exact h
  | any g ih => exact fun n => ih n (h n)
  | exs x ρ => exact h
theorem wpx_mono {α : Type} {c : Out α} {P P' : α → Prop} {E E' : Exc → Prop} {S S' : Exc → Env → Prop} (h : c.wpx P E S) (hP : ∀ a, P a → P' a) (hE : ∀ x, E x → E' x) (hS : ∀ x ρ, S x ρ → S' x ρ) : c.wpx P' E' S' := by
  induction c with
  | ok a => exact hP a h
  | exc x => exact hE x h
  | stuck => exact h
  | any g ih => exact fun n => ih n (h n)
  | exs x ρ => exact hS x ρ h
/-- nothing of that kind -/
def calm' {α : Type} : Out α → Out α
  | .ok a => .ok a
  | .exc x => .exc x
  | _ => .stuck
def guard' {α : Type} (b : Bool) (c : Out α) : Out α := if b then c else .stuck
theorem wp_guard {α : Type} {b : Bool} {c : Out α} {P : α → Prop} {E : Exc → Prop} (h : (guard' b c).wp P E) : b = true ∧ c.wp P E := by
  unfold guard' at h
  cases b with
  | true => exact ⟨rfl, h⟩
  | false => exact h.elim
@[simp] theorem guard_true {α : Type} (c : Out α) : guard' true c = c := rfl

/-! ### what stands in the heap -/
def Ex (H H' : Hp) : Prop := ∀ a o, H a = some o → H' a = some o
theorem Ex.refl (H : Hp) : Ex H H := fun _ _ h => h
theorem Ex.trans {H H1 H2 : Hp} (a : Ex H H1) (b : Ex H1 H2) : Ex H H2 := fun x o h => b x o (a x o h)
theorem Ex.new {H : Hp} {p : Addr} {o : HO} (h : H p = none) : Ex H (upd H p o) := fun a u e => by
  rw [upd_ne (ne_of_none e h)]
  exact e
theorem Ex.put {H H' : Hp} {p : Addr} {o : HO} (e : Ex H H') (h : H p = none) : Ex H (upd H' p o) := fun a u ha => by
  rw [upd_ne (ne_of_none ha h)]
  exact e a u ha
theorem Ex.free {H H' : Hp} (e : Ex H H') {p : Addr} (h : H' p = none) : H p = none := by
  cases q : H p with
  | none => rfl
  | some o => rw [e p o q] at h; cases h
theorem Ex.rd {H H' : Hp} {a : Addr} {u : HO} (e : Ex H H') (h : Rd H a u) : Rd H' a u := by
  rcases h with h | ⟨o, h⟩
  · exact .inl (e a _ h)
  · exact .inr ⟨o, e a _ h⟩
theorem Ex.sqL {K : PySem.W.Frag} {H H' : Hp} {a : Addr} {xs : List V} (e : Ex H H') (h : SqL K H a xs) : SqL K H' a xs := by
  rcases h with h | h
  · exact .inl (e.rd h)
  · exact .inr h
def keyD : Key → PyData
  | .inl i => .int i
  | .inr s => .str s
mutual
inductive Rp (K : PySem.W.Frag) (H : Hp) : PyData → V → Prop
  | non : Rp K H .none .non
  | bl (b : Bool) : Rp K H (.bool b) (.bl b)
  | int (i : Int) : Rp K H (.int i) (.int i)
  | str (x : Str) : Rp K H (.str x) (.str x)
  | lst {a : Addr} {vs : List V} {ds : List PyData} : H a = some (.lst vs) → RpAll K H ds vs → Rp K H (.list ds) (.ref a)
  | tup {a : Addr} {o : Obj} {vs : List V} {ds : List PyData} : H a = some (.frz o (.tup vs)) → o.dict = none → RpAll K H ds vs → Rp K H (.tuple ds) (.ref a)
  | dK {a : Addr} {kvs : List (Key × V)} {es : List (PyData × PyData)} : H a = some (.dK kvs) → RpK K H es kvs → Rp K H (.dict es) (.ref a)
  | dT {a : Addr} {o : Obj} {kvs : List (Key × V)} {es : List (PyData × PyData)} : H a = some (.frz o (.dK kvs)) → RpK K H es kvs → Rp K H (.dict es) (.ref a)
inductive RpAll (K : PySem.W.Frag) (H : Hp) : List PyData → List V → Prop
  | nil : RpAll K H [] []
  | cons {v : V} {vs : List V} {d : PyData} {ds : List PyData} : Rp K H d v → RpAll K H ds vs → RpAll K H (d :: ds) (v :: vs)
inductive RpK (K : PySem.W.Frag) (H : Hp) : List (PyData × PyData) → List (Key × V) → Prop
  | nil : RpK K H [] []
  | cons {k : Key} {v : V} {vs : List (Key × V)} {d : PyData} {ds : List (PyData × PyData)} : Rp K H d v → RpK K H ds vs → RpK K H ((keyD k, d) :: ds) ((k, v) :: vs)
end
section
variable {K : PySem.W.Frag} {H H' : Hp}
mutual
theorem Rp.mono (e : Ex H H') : ∀ (d : PyData) (v : V), Rp K H d v → Rp K H' d v
  | .none, _, h => by cases h; exact .non
  | .bool b, _, h => by cases h; exact .bl b
  | .int i, _, h => by cases h; exact .int i
  | .str x, _, h => by cases h; exact .str x
  | .list ds, _, h => by
    cases h with
    | lst hs ha => exact .lst (e _ _ hs) (RpAll.mono e ds _ ha)
  | .tuple ds, _, h => by
    cases h with
    | tup hs hd ha => exact .tup (e _ _ hs) hd (RpAll.mono e ds _ ha)
  | .dict es, _, h => by
    cases h with
    | dK hs ha => exact .dK (e _ _ hs) (RpK.mono e es _ ha)
    | dT hs ha => exact .dT (e _ _ hs) (RpK.mono e es _ ha)
theorem RpAll.mono (e : Ex H H') : ∀ (ds : List PyData) (vs : List V), RpAll K H ds vs → RpAll K H' ds vs
  | [], _, h => by cases h; exact .nil
  | d :: ds, _, h => by
    cases h with
    | cons h1 h2 => exact .cons (Rp.mono e d _ h1) (RpAll.mono e ds _ h2)
theorem RpK.mono (e : Ex H H') : ∀ (ds : List (PyData × PyData)) (vs : List (Key × V)), RpK K H ds vs → RpK K H' ds vs
  | [], _, h => by cases h; exact .nil
  | (kd, d) :: ds, _, h => by
    cases h with
    | cons h1 h2 => exact .cons (Rp.mono e d _ h1) (RpK.mono e ds _ h2)
end
end

/-! ### dicts whose keys are tuples of whole numbers, by their own entries -/
def entI (x : List Int × Addr × Value) : DictEntry := ⟨reduceHash (Builtin.Tuple.tupleHashOf (x.1.map hashInt)), .ref x.2.1, x.2.2⟩
def TabI (a : Addr) (kvs : List (List Int × Addr × V)) (h : Heap) : Prop := kvs.length ≤ sizeLine ∧ (a == sysModules) = false ∧ ∃ xs : List (List Int × Addr × Value),
  Paired (fun (p : List Int × Addr × V) (q : List Int × Addr × Value) => p.1 = q.1 ∧ p.2.1 = q.2.1 ∧ RelV p.2.2 q.2.2) kvs xs ∧
  ∃ o es ep, h.get? a = some o ∧ o.ExactDict ∧ o.data = .dict es ep ∧ es.toList = xs.map entI ∧ (xs.map (·.1)).Nodup
def tabO (a : Addr) (kvs : List (List Int × Addr × V)) : HO := .ext (TabI a kvs)
inductive RpI (K : PySem.W.Frag) (H : Hp) : List (PyData × PyData) → List (List Int × Addr × V) → Prop
  | nil : RpI K H [] []
  | cons {k : List Int} {b : Addr} {v : V} {vs : List (List Int × Addr × V)} {d : PyData} {ds : List (PyData × PyData)} : Rp K H (.tuple (k.map .int)) (.ref b) → Rp K H d v → RpI K H ds vs → RpI K H ((.tuple (k.map .int), d) :: ds) ((k, b, v) :: vs)
theorem RpI.mono {K : PySem.W.Frag} {H H' : Hp} (e : Ex H H') : ∀ {ds : List (PyData × PyData)} {vs : List (List Int × Addr × V)}, RpI K H ds vs → RpI K H' ds vs
  | _, _, .nil => .nil
  | _, _, .cons h0 h1 h2 => .cons (Rp.mono e _ _ h0) (Rp.mono e _ _ h1) (RpI.mono e h2)

/-! ### things of kinds of their own -/
/-- a desk's class, as the module names it -/
def deskF (v1 v2 v3 : V) : List (Str × V) := [("order", v1), ("kept", v2), ("past", v3)]
/-- 0: a desk (its address, its past's, its order, its rows); 1: a desk's past (its address, what it holds); 2: a list of two desks -/
def ObjIs (K : PySem.W.Frag) (F : Hp) (a : Addr) (o : HO) : Nat → List PyData → Prop
  | 0, [.int c, .int p, d1, d2] => c = (a : Int) ∧ ∃ (C dx b q : Addr) (v1 v2 : V), PySem.W.nsIn K mainGlobals "Desk" = some (some (.ref C)) ∧ o = .ins C dx (deskF v1 v2 (.ref q)) ∧ F dx = some (.own b) ∧ p = (q : Int) ∧ Rp K F d1 v1 ∧ Rp K F d2 v2
  | 1, .int p :: ds => p = (a : Int) ∧ ∃ vs, o = .lst vs ∧ RpAll K F ds vs
  | 2, [.int b, .int c] => ∃ x y : Addr, b = (x : Int) ∧ c = (y : Int) ∧ o = .lst [.ref x, .ref y]
  | _, _ => False
theorem ObjIs.mono {K : PySem.W.Frag} {F F' : Hp} {a : Addr} {o : HO} {k : Nat} {ds : List PyData} (e : Ex F F') (h : ObjIs K F a o k ds) : ObjIs K F' a o k ds := by
  unfold ObjIs at h ⊢
  split at h
  · obtain ⟨h0, C, dx, b, q, v1, v2, h1, h2, h3, h4, h5, h6⟩ := h
    exact ⟨h0, C, dx, b, q, v1, v2, h1, h2, e _ _ h3, h4, h5.mono e, h6.mono e⟩
  · obtain ⟨h0, vs, h1, h2⟩ := h
    exact ⟨h0, vs, h1, h2.mono e⟩
  · exact h
  · exact h.elim

/-! ### a slot's content in the heap -/
/-- an own object's content -/
def OwnIs (K : PySem.W.Frag) (F : Hp) (a : Addr) (o : HO) : Slot → Prop
  | .own ds => ∃ vs, o = .lst vs ∧ RpAll K F ds vs
  | .odc false es => ∃ kvs, o = .dK kvs ∧ RpK K F es kvs
  | .odc true es => ∃ a kvs, o = tabO a kvs ∧ RpI K F es kvs
  | .obj k ds => ObjIs K F a o k ds
  | _ => False
theorem OwnIs.mono {K : PySem.W.Frag} {F F' : Hp} {a : Addr} {o : HO} {s : Slot} (e : Ex F F') (h : OwnIs K F a o s) : OwnIs K F' a o s := by
  cases s with
  | own ds => obtain ⟨vs, r, q⟩ := h; exact ⟨vs, r, q.mono e⟩
  | odc t es =>
    cases t with
    | false => obtain ⟨vs, r, q⟩ := h; exact ⟨vs, r, q.mono e⟩
    | true => obtain ⟨a, vs, r, q⟩ := h; exact ⟨a, vs, r, q.mono e⟩
  | obj k ds => exact ObjIs.mono e h
  | un => exact h
  | val d => exact h
  | scr ns => exact h
/-- frozen -/
def Slot.ice : Slot → Slot
  | .own ds => .val (.list ds)
  | .odc false es => .val (.dict es)
  | s => s
/-- it may be frozen -/
def Slot.soft : Slot → Bool
  | .odc true _ => false
  | .obj _ _ => false
  | _ => true
theorem OwnIs.ice {K : PySem.W.Frag} {F : Hp} {o : HO} {s : Slot} {a : Addr} (hF : F a = some o) (h : OwnIs K F a o s) (hs : s.soft = true) : ∃ d, s.ice = .val d ∧ Rp K F d (.ref a) := by
  cases s with
  | own ds => obtain ⟨vs, rfl, q⟩ := h; exact ⟨_, rfl, .lst hF q⟩
  | odc t es =>
    cases t with
    | false => obtain ⟨vs, rfl, q⟩ := h; exact ⟨_, rfl, .dK hF q⟩
    | true => cases hs
  | obj k ds => cases hs
  | un => exact h.elim
  | val d => exact h.elim
  | scr ns => exact h.elim

/-! ### the frame: what a run keeps -/
/-- K the written part; F0, H0: the frozen and the whole heap at the frame's entry; L i a: the object at a is lent to it by its slot i; vs: the first slots' values, which stay -/
structure Bd where
  K : PySem.W.Frag
  F0 : Hp
  H0 : Hp
  L : Nat → Addr → Prop
  vs : List V
def Bd.La (B : Bd) (a : Addr) : Prop := ∃ i, B.L i a
/-- the frame's promises to its caller -/
structure Kept (B : Bd) (F H : Hp) : Prop where
  ff : Ex B.F0 F
  ex : Ex F H
  keep : ∀ a o, B.H0 a = some o → ¬ B.La a → H a = some o
  nof : ∀ a, B.H0 a ≠ none → B.F0 a = none → ¬ B.La a → F a = none
  live : ∀ a, B.H0 a ≠ none → H a ≠ none
/-- the slots -/
structure Sl (B : Bd) (F H : Hp) (ρ : Env) (σ : St) : Prop where
  len : ρ.length = σ.length
  val : ∀ (i : Nat) (d : PyData), ρ[i]? = some (Slot.val d) → ∃ v, σ[i]? = some (some v) ∧ Rp B.K F d v
  scr : ∀ (i : Nat) (ns : List Int), ρ[i]? = some (Slot.scr ns) → ∃ a, σ[i]? = some (some (.ref a)) ∧ SqL B.K F a (ns.map V.int)
  own : ∀ (i : Nat) (s : Slot), ρ[i]? = some s → s.isOwn = true → ∃ a o, σ[i]? = some (some (.ref a)) ∧ F a = none ∧ H a = some o ∧ OwnIs B.K F a o s ∧ (B.L i a ∨ B.H0 a = none)
  par : ∀ (i : Nat) (v : V), B.vs[i]? = some v → σ[i]? = some (some v)
  dis : ∀ (i j : Nat) (s t : Slot) (a : Addr), i ≠ j → ρ[i]? = some s → s.isOwn = true → ρ[j]? = some t → t.isOwn = true → σ[i]? = some (some (.ref a)) → σ[j]? ≠ some (some (.ref a))
structure Rel (B : Bd) (F H : Hp) (ρ : Env) (σ : St) : Prop where
  kept : Kept B F H
  sl : Sl B F H ρ σ
/-- a result: v stands for s; an own one stands apart from the slots -/
def Res (B : Bd) (F H : Hp) (ρ : Env) (σ : St) (s : Slot) (v : V) : Prop := match s with
  | .val d => Rp B.K F d v
  | .un => False
  | .scr _ => False
  | s => ∃ a o, v = .ref a ∧ F a = none ∧ H a = some o ∧ OwnIs B.K F a o s ∧ B.H0 a = none ∧ ∀ (i : Nat) (t : Slot), ρ[i]? = some t → t.isOwn = true → σ[i]? ≠ some (some (.ref a))

section
variable {B : Bd} {F H F' H' : Hp} {ρ ρ' : Env} {σ σ' : St} {s : Slot} {v : V} {a : Addr} {o : HO}
theorem own_of_ownIs {K : PySem.W.Frag} (h : OwnIs K F a o s) : s.isOwn = true := by
  cases s <;> first | rfl | exact h.elim
theorem Res.of_own (hs : s.isOwn = true) : Res B F H ρ σ s v ↔ ∃ a o, v = .ref a ∧ F a = none ∧ H a = some o ∧ OwnIs B.K F a o s ∧ B.H0 a = none ∧ ∀ (i : Nat) (t : Slot), ρ[i]? = some t → t.isOwn = true → σ[i]? ≠ some (some (.ref a)) := by
  cases s <;> first | exact Iff.rfl | cases hs

/-- new objects in the heap, nothing else -/
theorem Kept.grow (k : Kept B F H) (e : Ex H H') : Kept B F H' := ⟨k.ff, k.ex.trans e, fun a o h n => e _ _ (k.keep a o h n), k.nof, fun a h => by
  have := k.live a h
  cases q : H a with
  | none => exact absurd q this
  | some o => rw [e a o q]; exact fun z => by cases z⟩
theorem Sl.grow (k : Sl B F H ρ σ) (e : Ex H H') : Sl B F H' ρ σ := ⟨k.len, k.val, k.scr, fun i s h hs => let ⟨a, o, h1, h2, h3, h4, h5⟩ := k.own i s h hs; ⟨a, o, h1, h2, e _ _ h3, h4, h5⟩, k.par, k.dis⟩
theorem Rel.grow (k : Rel B F H ρ σ) (e : Ex H H') : Rel B F H' ρ σ := ⟨k.kept.grow e, k.sl.grow e⟩
theorem Res.grow (h : Res B F H ρ σ s v) (e : Ex H H') : Res B F H' ρ σ s v := by
  cases s with
  | val d => exact h
  | un => exact h
  | scr _ => exact h
  | own ds => obtain ⟨a, o, h1, h2, h3, h4⟩ := h; exact ⟨a, o, h1, h2, e _ _ h3, h4⟩
  | odc t es => obtain ⟨a, o, h1, h2, h3, h4⟩ := h; exact ⟨a, o, h1, h2, e _ _ h3, h4⟩
  | obj k ds => obtain ⟨a, o, h1, h2, h3, h4⟩ := h; exact ⟨a, o, h1, h2, e _ _ h3, h4⟩
/-- an object that is none of the caller's is frozen -/
theorem Kept.freeze (k : Kept B F H) (hF : F a = none) (hH : H a = some o) (hn : B.La a ∨ B.H0 a = none) : Kept B (upd F a o) H := by
  refine ⟨k.ff.trans (.new hF), fun b u h => ?_, k.keep, fun b h1 h2 h3 => ?_, k.live⟩
  · by_cases e : b = a
    · subst e; rw [upd_same] at h; rw [← h]; exact hH
    · rw [upd_ne e] at h; exact k.ex _ _ h
  · by_cases e : b = a
    · subst e
      rcases hn with z | z
      · exact absurd z h3
      · exact absurd z h1
    · rw [upd_ne e]; exact k.nof b h1 h2 h3
/-- .. where no slot owns it -/
theorem Sl.freeze (k : Sl B F H ρ σ) (hF : F a = none) (hd : ∀ (i : Nat) (t : Slot), ρ[i]? = some t → t.isOwn = true → σ[i]? ≠ some (some (.ref a))) : Sl B (upd F a o) H ρ σ := by
  have e : Ex F (upd F a o) := .new hF
  refine ⟨k.len, fun i d h => ?_, fun i ns h => ?_, fun i s h hs => ?_, k.par, k.dis⟩
  · obtain ⟨v, h1, h2⟩ := k.val i d h; exact ⟨v, h1, h2.mono e⟩
  · obtain ⟨v, h1, h2⟩ := k.scr i ns h; exact ⟨v, h1, e.sqL h2⟩
  · obtain ⟨b, u, h1, h2, h3, h4, h5⟩ := k.own i s h hs
    have ne : b ≠ a := fun z => by subst z; exact hd i s h hs h1
    exact ⟨b, u, h1, by rw [upd_ne ne]; exact h2, h3, h4.mono e, h5⟩
/-- a result frozen -/
theorem Res.freeze (k : Rel B F H ρ σ) (h : Res B F H ρ σ s v) (sf : s.soft = true) : ∃ F' d, Rel B F' H ρ σ ∧ Ex F F' ∧ s.ice = .val d ∧ Rp B.K F' d v := by
  cases hs : s.isOwn with
  | true =>
    obtain ⟨a, o, rfl, hF, hH, hO, h0, hd⟩ := (Res.of_own hs).mp h
    have e : Ex F (upd F a o) := .new hF
    obtain ⟨d, e1, e2⟩ := (hO.mono e).ice (upd_same (H := F) (a := a) (o := o)) sf
    exact ⟨upd F a o, d, ⟨k.kept.freeze hF hH (.inr h0), k.sl.freeze hF hd⟩, e, e1, e2⟩
  | false =>
    cases s with
    | val d => exact ⟨F, d, k, .refl F, rfl, h⟩
    | un => exact h.elim
    | scr _ => exact h.elim
    | own _ => cases hs
    | odc _ _ => cases hs
    | obj _ _ => cases hs
theorem set_get {α : Type} {l : List α} {i j : Nat} {x y : α} (h : (l.set i x)[j]? = some y) : (j = i ∧ y = x ∧ i < l.length) ∨ (j ≠ i ∧ l[j]? = some y) := by
  by_cases e : j = i
  · subst e
    by_cases hl : j < l.length
    · rw [List.getElem?_set_self hl] at h; exact .inl ⟨rfl, (Option.some.inj h).symm, hl⟩
    · rw [List.getElem?_eq_none (by rw [List.length_set]; omega)] at h; cases h
  · rw [List.getElem?_set_ne (Ne.symm e)] at h; exact .inr ⟨e, h⟩
/-- a slot that owns is frozen where it stands -/
theorem Rel.iceAt (k : Rel B F H ρ σ) {i : Nat} (h : ρ[i]? = some s) (hs : s.isOwn = true) (sf : s.soft = true) : ∃ F' d v, Rel B F' H (ρ.set i s.ice) σ ∧ Ex F F' ∧ s.ice = .val d ∧ σ[i]? = some (some v) ∧ Rp B.K F' d v := by
  obtain ⟨a, o, h1, h2, h3, h4, h5⟩ := k.sl.own i s h hs
  have e : Ex F (upd F a o) := .new h2
  obtain ⟨d, e1, e2⟩ := (h4.mono e).ice (upd_same (H := F) (a := a) (o := o)) sf
  have dis : ∀ (j : Nat) (t : Slot), (ρ.set i s.ice)[j]? = some t → t.isOwn = true → ρ[j]? = some t ∧ j ≠ i := fun j t q qs => by
    rcases set_get q with ⟨_, z, _⟩ | ⟨z1, z2⟩
    · rw [z, e1] at qs; cases qs
    · exact ⟨z2, z1⟩
  refine ⟨upd F a o, d, .ref a, ⟨k.kept.freeze h2 h3 (h5.imp (fun z => ⟨i, z⟩) id), ?_⟩, e, e1, h1, e2⟩
  refine ⟨by rw [List.length_set]; exact k.sl.len, fun j d' q => ?_, fun j ns q => ?_, fun j t q qs => ?_, k.sl.par, fun j m t u b ne q qs q' qs' e3 => ?_⟩
  · rcases set_get q with ⟨z, z2, _⟩ | ⟨z, z2⟩
    · rw [e1] at z2
      cases z2
      rw [z]
      exact ⟨_, h1, e2⟩
    · obtain ⟨v, q1, q2⟩ := k.sl.val j d' z2
      exact ⟨v, q1, q2.mono e⟩
  · rcases set_get q with ⟨z, z2, _⟩ | ⟨z, z2⟩
    · rw [e1] at z2; cases z2
    · obtain ⟨v, q1, q2⟩ := k.sl.scr j ns z2
      exact ⟨v, q1, e.sqL q2⟩
  · obtain ⟨q', ne⟩ := dis j t q qs
    obtain ⟨b, u, g1, g2, g3, g4, g5⟩ := k.sl.own j t q' qs
    have nb : b ≠ a := fun z => by subst z; exact k.sl.dis j i t s b ne q' qs h hs g1 h1
    exact ⟨b, u, g1, by rw [upd_ne nb]; exact g2, g3, g4.mono e, g5⟩
  · obtain ⟨g, _⟩ := dis j t q qs
    obtain ⟨g', _⟩ := dis m u q' qs'
    exact k.sl.dis j m t u b ne g qs g' qs' e3
end
end Dn

/-! DenG: defs called where no repr is under way: their promise, from their bodies, at a call, at the law's own call. -/
namespace Dn
open PySem PySem.Spec L2
open PyProof.Rows hiding St
/-- a def's promise to callers that stand in no repr -/
structure FnG (P : Program) (w : World) (K : PySem.W.Frag) (mg : Str → Option Value) (base : Heap) (C : CXT) (k : Nat) (f : Addr) (fd : FuncData) (ps : List Str) (sp : Sp) : Prop where
  len : ∀ us H Q E, sp us H Q E → us.length = ps.length
  run : ∀ (A : Around), A.guards = some [] → ∀ (outer : List PySem.Env) (s : Shared) (H : Hp) (args : Args) (us : List Value) (vs : List V) (Q : VK) (E : XK),
    Room k A → Env0 P w K mg base A outer s H → BindsTo s fd args (ps.zip us) → Vals vs us → sp vs H Q E → codeAny (model P w) A (.call (.ref f) args) (CR C outer P w H s Q E) s
section
variable {P : Program} {w : World} {K : PySem.W.Frag} {mg : Str → Option Value} {base : Heap} {C : CXT} {k : Nat} {f : Addr} {fd : FuncData} {ps N : List Str} {sp sp' : Sp}
theorem FnG.imp (F : FnG P w K mg base C k f fd ps sp) (h : ∀ us H Q E, sp' us H Q E → sp us H Q E) : FnG P w K mg base C k f fd ps sp' :=
  ⟨fun us H Q E q => F.len us H Q E (h _ _ _ _ q), fun A g outer s H args us vs Q E r e b v q => F.run A g outer s H args us vs Q E r e b v (h _ _ _ _ q)⟩
/-- from the body -/
theorem FnG.of_body {x qual : Str} {st : Stmt} (F : Fun K x qual st f fd) (S : FnScope N ps (defScope st)) (len : ∀ us H Q E, sp us H Q E → us.length = ps.length)
    (body : ∀ (cv : Value) (A : Around) (outer : List PySem.Env) (s : Shared) (H : Hp) (us : List V) (Q : VK) (E : XK), A.guards = some [] → Room k (A.deeper (envOfC qual (defScope st) s.heap.objs.size f cv)) → sp us H Q E →
      ∃ t, PSs (cxOf C P w K mg base N qual (defScope st) f cv A outer s H E) (defBody st) t ∧ t { nx := fun _ H' => Q .non H', rt := Q } (start N us) H) : FnG P w K mg base C (k + 1) f fd ps sp := by
  obtain ⟨oc, od, kV, doc, pm, an, cv, ct, osl, rfl, lk, code⟩ := F.ex
  refine ⟨len, fun A g outer s H args us vs Q E room e0 bind rel sat => ?_⟩
  have old := fun b o e => (e0.bs b o e).1
  have inK := e0.mod.kin.keeps old
  have far := e0.mod.nolimit.keeps old
  have kinds : ∀ y ∈ ps.zip us, (defScope st).names.lookup y.1 = some .local ∨ ((defScope st).names.lookup y.1 = some .cell ∧ ((cellsFrom (s.heap.objs.size + 1) (defScope st).names []).lookup y.1).isSome = true) := by
    intro y hy
    have my := (List.of_mem_zip (show (y.1, y.2) ∈ ps.zip us from hy)).1
    exact (S.par y.1 my).imp id fun q => ⟨q, PySem.W.cellsFrom_some _ _ _ (.inl q)⟩
  refine codeAny_call_function room.depth (inK _ _ lk) rfl S.co S.gen rfl (PySem.W.codeRec_of inK code) (bind _ _ _ _ (wpAny_newFunctionEnv_cells S.kind kinds fun env he s1 enter => ?_))
  subst he
  obtain ⟨t, ht, hq⟩ := body cv A outer s H vs Q E g (room.deeper _) sat
  have J : Inv (cxOf C P w K mg base N qual (defScope st) f cv A outer s H E) [] (start N vs) H s1 := inv_start S room.hd e0 (len _ _ _ _ sat) rel enter
  refine ⟨far.keeps enter.toInCall.keep, codeAny_func (wpAny_mono (ht.run [] s1 (start N vs) H _ J hq) (fun fl s' hs => ?_) fun _ _ hs => hs)⟩
  cases fl with
  | brk => exact hs.elim fun _ z => z.elim fun _ z => z.2.elim
  | cont => exact hs.elim fun _ z => z.elim fun _ z => z.2.elim
  | next =>
    obtain ⟨σ', H', I, q⟩ := hs
    exact ⟨.non, H', I.os, I.bare, I.base, I.hok, rfl, q⟩
  | ret u =>
    obtain ⟨v, σ', H', I, rv, q⟩ := hs
    exact ⟨v, H', I.os, I.bare, I.base, I.hok, rv, q⟩
end
/-- the call of a def by its name -/
theorem pe_callG {X : Cx} {k : Nat} {f : Addr} {fd : FuncData} {ps : List Str} {sp : Sp} {E : St → XK} {x : Str} {p pos : Pos} {e : Expr} {es : List Expr} {t : TA} {C : CXT} (F : FnG X.prog X.w X.K X.mg X.base C k f fd ps sp) (g : X.A.guards = some []) (room : Room k X.A)
    (hg : Gl X x) (hm : X.mg x = some (.ref f)) (hk : PySem.W.keepIn X.K (.ref f) = true) (hb : L2.Binds X.K fd ps []) (hx : ∀ σ, PassesAt C X σ (E σ)) (ha : PA X (e :: es) t) (hd : (x == ("__debug__" : Str)) = false)
    (hs : starEach (e :: es) X.env = (false, eval e X.env) :: starEach es X.env) (hp : (backTo pos (starEach es X.env)).any (·.1) = false) : PE X (.Call (.Name x p) (e :: es) [] pos) (tCallS sp E t) := by
  constructor
  intro pins s σ H Q I h
  refine wpAny_Call_Name_kw (ld_glob I hg hm (PySem.W.callWith_K (h₀ := X.base) I.ok.mod.kin hk (thn (ha.run pos pins s σ H _ I h) fun us s1 z => ?_) hs hp) hd)
  obtain ⟨vs, H1, I1, rel, q⟩ := z
  have b := hb s1 us I1.kIn (by rw [List.append_nil, ← rel.length]; exact F.len _ _ _ _ q)
  rw [List.append_nil] at b
  refine ⟨I1.kIn, wpAny_call (codeAny_mono (F.run X.A g X.stack s1 H1 ⟨us, []⟩ us vs Q (E σ) room I1.env0 b rel q) fun r s' hq => ?_)⟩
  match r, hq with
  | .error err, hq => exact hx σ pins H1 s1 err s' I1 hq
  | .ok (.ret u), hq => exact I1.after hq
  | .ok .next, hq => exact hq.elim
  | .ok .brk, hq => exact hq.elim
  | .ok .cont, hq => exact hq.elim
/-- the law's own call: before it nothing but the script is known -/
theorem lawG {P : Program} {w : World} {K : PySem.W.Frag} {mg mb : Str → Option Value} {C : CXT} {k : Nat} {fa a : Addr} {fd : FuncData} {x : Str} {sp : Sp} {s : Shared} {vs : List Value} {ns : List Int}
    (inK : K.In s.heap) (gns : s.heap.Ns mainGlobals mg) (bns : s.heap.Ns builtinsNs mb) (boot : ∀ y : Str, y ≠ "__name__" → mb y = bootBuiltins y) (nl : s.heap.NoLimit) (gens : s.gens = #[])
    (obj : s.heap.get? a = some { cls := .type "list", data := .seq vs.toArray }) (iv : IntsAre vs ns) (short : ns.length ≤ sizeLine) (room : Room k callerA)
    (F : ∀ base : Heap, K.In base → base.Ns mainGlobals mg → FnG P w K mg base C k fa fd [x] sp) (bind : ∀ (s : Shared) (u : Value), BindsTo s fd ⟨[u], []⟩ [(x, u)])
    (good : ∀ H : Hp, Only H → SqL K H a (ns.map V.int) → sp [.ref a] H (fun v _ => v = .bl true) fun _ _ _ => False)
    (none' : ∀ H e s', C [] H s (fun _ _ _ => False) e s' → False) :
    codeAny (model P w) callerA (.call (.ref fa) ⟨[.ref a], []⟩) (fun r s' => r = .ok (.ret (.bool true)) ∧ OldK s.heap s'.heap ∧ s'.os = s.os ∧ AllBare s'.gens) s := by
  have vi := vals_ints iv
  have from_ : ∀ H : Hp, (∀ b, H b = none ∨ (b = a ∧ ∃ o xs, H b = some (.frz o (.lst xs)))) → SqL K H a (ns.map V.int) → HOk P w H s.heap → (H a ≠ none → K.lookup a = none) →
      codeAny (model P w) callerA (.call (.ref fa) ⟨[.ref a], []⟩) (fun r s' => r = .ok (.ret (.bool true)) ∧ OldK s.heap s'.heap ∧ s'.os = s.os ∧ AllBare s'.gens) s := by
    intro H only sq ok out
    have only' : Only H := fun b => (only b).imp id fun q => q.2
    have no : ∀ {b : Addr}, b ≠ a → H b = none := fun {b} ne => (only b).elim id fun q => absurd q.1 ne
    have dict : ∀ {b : Addr} {o : Obj} {es : Array DictEntry} {ep : Nat}, s.heap.get? b = some o → o.data = .dict es ep → H b = none := by
      intro b o es ep e d
      refine no fun z => ?_
      rw [z, obj] at e
      cases e
      cases (show Data.seq vs.toArray _ = Data.dict es ep from d)
    have nsB : ∀ {b : Addr} {m : Str → Option Value}, s.heap.Ns b m → (hidT s.heap H).Ns b m := by
      rintro b m ⟨o, es, ep, e, d, r⟩
      exact ⟨o, es, ep, hidT_get e (dict e d), d, r⟩
    have kB : K.In (hidT s.heap H) := by
      intro b o e
      refine hidT_get (inK b o e) ?_
      rcases only b with z | ⟨rfl, _, _, z⟩
      · exact z
      · rw [out (by rw [z]; exact fun y => nomatch y)] at e
        cases e
    have mod : Mod K mg (hidT s.heap H) := by
      obtain ⟨mc, n1, n2⟩ := nl
      exact ⟨kB, nsB gns, ⟨mb, nsB bns, boot⟩, mc, nsB n1, n2⟩
    have e0 : Env0 P w K mg (hidT s.heap H) callerA [] s H := ⟨rfl, mod, fun b o => of_hidT, Nat.le_of_eq (hidT_size _ _), trivial, fun b z => absurd (show b ∈ ([] : List Addr) from z) List.not_mem_nil, ok, .of_eq gens⟩
    refine codeAny_mono ((F _ kB (nsB gns)).run callerA rfl [] s H ⟨[.ref a], []⟩ [.ref a] [.ref a] _ _ room e0 (bind s (.ref a)) (.cons rfl .nil) (good H only' sq)) fun r s' h => ?_
    match r, h with
    | .error e, h => exact (none' H e s' h).elim
    | .ok .next, h => exact h.elim
    | .ok .brk, h => exact h.elim
    | .ok .cont, h => exact h.elim
    | .ok (.ret u), ⟨v, H', os, bare, un, ok', rv, q⟩ =>
      have q : v = .bl true := q
      subst q
      have e : u = Value.bool true := rv
      subst e
      refine ⟨rfl, OldK.of_keep fun b o e => ?_, os, bare⟩
      rcases only b with z | ⟨_, ob, xs, z⟩
      · exact un.keep b o e z (fun y => absurd (show b ∈ ([] : List Addr) from y) List.not_mem_nil) List.not_mem_nil
      · have h1 := (ok b _ z).1
        have h2 := (ok' b _ (un.frzs b ob _ z)).1
        rw [e] at h1
        cases h1
        exact h2
  have size : vs.toArray.size ≤ sizeLine := by rw [List.size_toArray, iv.length]; exact short
  by_cases lk : K.lookup a = none
  · let ob : Obj := { cls := .type "list", data := .seq vs.toArray }
    let H : Hp := fun b => if b = a then some (.frz ob (.lst (ns.map V.int))) else none
    have at_ : H a = some (.frz ob (.lst (ns.map V.int))) := if_pos rfl
    refine from_ H (fun b => ?_) (.inl (.inr ⟨ob, at_⟩)) (fun b u z => ?_) fun _ => lk
    · by_cases e : b = a
      · exact .inr ⟨e, ob, _, if_pos e⟩
      · exact .inl (if_neg e)
    · have e : b = a := Decidable.byContradiction fun e => by
        have := (if_neg e : H b = none).symm.trans z
        cases this
      subst e
      have := at_.symm.trans z
      cases this
      exact ⟨obj, by rw [List.length_map]; exact short, vs, _, vi, obj⟩
  · obtain ⟨o, lk⟩ := Option.ne_none_iff_exists'.mp lk
    have e := inK a o lk
    rw [obj] at e
    cases e
    exact from_ (fun _ => none) (fun _ => .inl rfl) (.inr ⟨_, vs.toArray, _, lk, rfl, rfl, rfl, size, by simpa using vi⟩) (fun b u z => by cases (show (none : Option HO) = some u from z)) fun z => absurd rfl z
/-- what the head leaves, from the law's promise -/
theorem walkG {l : PySem.W.OpenLaw} {n k : Nat} {q : Program} {loose : List Str} {XP : (Str → Option Value) → Heap → Prop} {YP : World → Heap → Prop} {d : DefRec} {K : Params → PySem.W.Frag} {C : World → CXT} {sp : World → Sp} {x : Str}
    (most : l.most = some n) (n2 : n ≤ sizeLine) (nodef : d.params.defaults = []) (room : Room k callerA) (inY : ∀ (w : World) (h : Heap), YP w h → (K w.params).In h)
    (F : ∀ (w : World) (mg : Str → Option Value) (fa : Addr) (h : Heap), (K w.params).In h → h.Ns mainGlobals mg → mg d.name = some (.ref fa) →
      ∃ fd : FuncData, (∀ (s : Shared) (u : Value), BindsTo s fd ⟨[u], []⟩ [(x, u)]) ∧ ∀ base : Heap, (K w.params).In base → base.Ns mainGlobals mg → FnG l.prog w (K w.params) mg base (C w) k fa fd [x] (sp w))
    (good : ∀ (w : World) (H : Hp) (a : Addr) (ns : List Int), ns.length ≤ n → Only H → SqL (K w.params) H a (ns.map V.int) → sp w [.ref a] H (fun v _ => v = .bl true) fun _ _ _ => False)
    (none' : ∀ (w : World) (H : Hp) (s : Shared) (e : Value) (s' : Shared), C w [] H s (fun _ _ _ => False) e s' → False) :
    PySem.W.WalkO q loose XP YP l.row.toRowW d [] (fun f vs => PySem.call f vs) := by
  refine Att.attach_call most nodef fun w s₀ s₁ mg mb fa o pm cd doc a vs ns G Y ho hd hcd hmg obj iv len gens => ?_
  have inK := inY w _ Y
  obtain ⟨fd, bind, ok⟩ := F w mg fa _ inK G.T.g hmg
  exact lawG inK G.T.g G.T.b G.T.builtins G.T.nolimit gens obj iv (Nat.le_trans len n2) room ok bind (fun H h1 h2 => good w H a ns len h1 h2) fun H e s' => none' w H s₁ e s'
end Dn

/-! Den2: the judgements; names, constants, displays, operations on values, tests, calls. -/
namespace Dn
open PySem PySem.Spec L2
open PyProof.Rows hiding St

/-! ### growth by new things -/
structure Grow (F H F' H' : Hp) : Prop where
  ff : Ex F F'
  hh : Ex H H'
  fh : Ex F' H'
  ap : ∀ a, H a ≠ none → F a = none → F' a = none
theorem Grow.refl {F H : Hp} (e : Ex F H) : Grow F H F H := ⟨.refl F, .refl H, e, fun _ _ h => h⟩
theorem Grow.new {F H : Hp} {p : Addr} {o : HO} (e : Ex F H) (h : H p = none) : Grow F H (upd F p o) (upd H p o) := by
  refine ⟨.new (e.free h), .new h, fun a u q => ?_, fun a h1 h2 => ?_⟩
  · by_cases z : a = p
    · subst z; rw [upd_same] at q ⊢; exact q
    · rw [upd_ne z] at q ⊢; exact e _ _ q
  · by_cases z : a = p
    · subst z; exact absurd h h1
    · rw [upd_ne z]; exact h2
theorem Grow.trans {F H F1 H1 F2 H2 : Hp} (a : Grow F H F1 H1) (b : Grow F1 H1 F2 H2) : Grow F H F2 H2 :=
  ⟨a.ff.trans b.ff, a.hh.trans b.hh, b.fh, fun x h1 h2 => b.ap x (fun z => by
    cases q : H x with
    | none => exact h1 q
    | some o => rw [a.hh x o q] at z; cases z) (a.ap x h1 h2)⟩
section
variable {B : Bd} {F H F' H' : Hp} {ρ : Env} {σ : St}
theorem some_of_ne {o : Option HO} (h : o ≠ none) : ∃ u, o = some u := by
  cases o with
  | none => exact absurd rfl h
  | some u => exact ⟨u, rfl⟩
theorem Ex.live {H H' : Hp} (e : Ex H H') {a : Addr} (h : H a ≠ none) : H' a ≠ none := by
  obtain ⟨o, q⟩ := some_of_ne h
  rw [e a o q]
  exact fun z => by cases z
theorem Rel.add (k : Rel B F H ρ σ) (g : Grow F H F' H') : Rel B F' H' ρ σ := by
  refine ⟨⟨k.kept.ff.trans g.ff, g.fh, fun a o h n => g.hh _ _ (k.kept.keep a o h n), fun a h1 h2 h3 => g.ap a (k.kept.live a h1) (k.kept.nof a h1 h2 h3), fun a h => g.hh.live (k.kept.live a h)⟩,
    ⟨k.sl.len, fun i d h => ?_, fun i ns h => ?_, fun i s h hs => ?_, k.sl.par, k.sl.dis⟩⟩
  · obtain ⟨v, h1, h2⟩ := k.sl.val i d h; exact ⟨v, h1, h2.mono g.ff⟩
  · obtain ⟨v, h1, h2⟩ := k.sl.scr i ns h; exact ⟨v, h1, g.ff.sqL h2⟩
  · obtain ⟨a, o, h1, h2, h3, h4, h5⟩ := k.sl.own i s h hs
    exact ⟨a, o, h1, g.ap a (by rw [h3]; exact fun z => by cases z) h2, g.hh _ _ h3, h4.mono g.ff, h5⟩
end

/-! ### the weakest conditions themselves as readings -/
section
variable {X : Cx}
def wE (X : Cx) (e : Expr) : TE := fun σ H Q => ∀ pins s, Inv X pins σ H s → wpAny (model X.prog X.w) X.A (eval e X.env) (EP X pins σ Q) X.xe s
theorem pe_w {e : Expr} : PE X e (wE X e) := ⟨fun pins s σ H Q I h => h pins s I⟩
theorem _root_.L2.PE.w {e : Expr} {t : TE} {σ : St} {H : Hp} {Q : VK} (h : PE X e t) (q : t σ H Q) : wE X e σ H Q := fun pins s I => h.run pins s σ H Q I q
def wT (X : Cx) (e : Expr) : TT := fun σ H Q => ∀ pins s, Inv X pins σ H s → wpAny (model X.prog X.w) X.A (isTrue e X.env (eval e X.env)) (TP X pins σ Q) X.xe s
theorem pt_w {e : Expr} : PT X e (wT X e) := ⟨fun pins s σ H Q I h => h pins s I⟩
theorem _root_.L2.PT.w {e : Expr} {t : TT} {σ : St} {H : Hp} {Q : Bool → Hp → Prop} (h : PT X e t) (q : t σ H Q) : wT X e σ H Q := fun pins s I => h.run pins s σ H Q I q
def wW (X : Cx) (e : Expr) : TT := fun σ H Q => ∀ (whole : Sem Value) pins s, Inv X pins σ H s → wpAny (model X.prog X.w) X.A (isTrue e X.env whole) (TP X pins σ Q) X.xe s
theorem _root_.L2.PW.w {e : Expr} {t : TT} {σ : St} {H : Hp} {Q : Bool → Hp → Prop} (h : PW X e t) (q : t σ H Q) : wW X e σ H Q := fun wh pins s I => h.run wh pins s σ H Q I q
def wA (X : Cx) (es : List Expr) : TA := fun σ H Q => ∀ pos pins s, Inv X pins σ H s → wpAny (model X.prog X.w) X.A (spliced (backTo pos (starEach es X.env))) (AP X pins σ Q) X.xe s
theorem _root_.L2.PA.w {es : List Expr} {t : TA} {σ : St} {H : Hp} {Q : List V → Hp → Prop} (h : PA X es t) (q : t σ H Q) : wA X es σ H Q := fun pos pins s I => h.run pos pins s σ H Q I q
def wEs (X : Cx) : List Expr → TA
  | [], _, H, Q => Q [] H
  | e :: es, σ, H, Q => wE X e σ H fun x H1 => wEs X es σ H1 fun xs H2 => Q (x :: xs) H2
theorem wE.mono {e : Expr} {σ : St} {H : Hp} {Q Q' : VK} (h : wE X e σ H Q) (q : ∀ v H', Q v H' → Q' v H') : wE X e σ H Q' := fun pins s I =>
  thn (h pins s I) fun u s' ⟨v, H', I', r, z⟩ => ⟨v, H', I', r, q v H' z⟩
theorem wEs.mono : ∀ {es : List Expr} {σ : St} {H : Hp} {Q Q' : List V → Hp → Prop}, wEs X es σ H Q → (∀ v H', Q v H' → Q' v H') → wEs X es σ H Q'
  | [], _, _, _, _, h, q => q _ _ h
  | _ :: _, _, _, _, _, h, q => wE.mono h fun _ _ z => wEs.mono z fun _ _ y => q _ _ y
def wS (X : Cx) (st : Stmt) : TS := fun D σ H => ∀ pins s, Inv X pins σ H s → wpAny (model X.prog X.w) X.A (exec st X.env) (SP X pins D) X.xe s
theorem ps_w {st : Stmt} : PS X st (wS X st) := ⟨fun pins s σ H D I h => h pins s I⟩
theorem _root_.L2.PS.w {st : Stmt} {t : TS} {σ : St} {H : Hp} {D : Ends} (h : PS X st t) (q : t D σ H) : wS X st D σ H := fun pins s I => h.run pins s σ H D I q
def wSs (X : Cx) (st : List Stmt) : TS := fun D σ H => ∀ pins s, Inv X pins σ H s → wpAny (model X.prog X.w) X.A (execs st X.env) (SP X pins D) X.xe s
theorem pss_w {st : List Stmt} : PSs X st (wSs X st) := ⟨fun pins s σ H D I h => h pins s I⟩
theorem _root_.L2.PSs.w {st : List Stmt} {t : TS} {σ : St} {H : Hp} {D : Ends} (h : PSs X st t) (q : t D σ H) : wSs X st D σ H := fun pins s I => h.run pins s σ H D I q
end

/-! ### the text's place -/
abbrev Calls := Str → List Slot → Out (Slot × List Slot)
/-- what is known of a text's names -/
structure Ctx where
  N : List Str
  sc : Scope
  np : Nat
  fns : List (Str × Nat)
  gints : List (Str × Int)
  gstrs : List (Str × Str)
  blts : List Str
  exs : List (Str × Str)
  /-- defs and methods that take a desk first: the name, how many are handed over, the method's own name -/
  dk : List (Str × Nat × Option Str)
  /-- classes of refusals with an __init__ of their own -/
  ini : List Str

/-- lent objects -/
def lent (as : List Slot) (vs : List V) : Nat → Addr → Prop := fun i a => ∃ s : Slot, as[i]? = some s ∧ s.isOwn = true ∧ vs[i]? = some (.ref a)
/-- a callee's ground -/
abbrev bdOf (K : PySem.W.Frag) (F H : Hp) (as : List Slot) (vs : List V) : Bd := ⟨K, F, H, lent as vs, vs⟩
/-- what an argument has become -/
def OutIs (K : PySem.W.Frag) (F H : Hp) (a : Addr) (s : Slot) : Prop := (∃ d, s = .val d ∧ Rp K F d (.ref a)) ∨ (s.isOwn = true ∧ ∃ o, F a = none ∧ H a = some o ∧ OwnIs K F a o s)
/-- a call's result: H the heap at the call -/
def RetIs (K : PySem.W.Frag) (H F' H' : Hp) (s : Slot) (v : V) : Prop := (∃ d, s = .val d ∧ Rp K F' d v) ∨ (s.isOwn = true ∧ ∃ a o, v = .ref a ∧ F' a = none ∧ H' a = some o ∧ OwnIs K F' a o s ∧ H a = none)
/-- how an exception is told -/
def XcIs (mg : Str → Option Value) (x : Exc) (cls : Value) (d : Option Addr) (K : PySem.W.Frag) (F : Hp) (H : Hp) : Prop := mg x.cls = some cls ∧ match x.arg with
  | none => d = none
  | some v => ∃ a u, d = some a ∧ H a = some (.xd [("at", u)]) ∧ Rp K F v u
structure Back (K : PySem.W.Frag) (F H : Hp) (as : List Slot) (vs : List V) (F' H' : Hp) (r : Slot) (outs : List Slot) (v : V) : Prop where
  kept : Kept (bdOf K F H as vs) F' H'
  outs : ∀ (i : Nat) (s : Slot) (a : Addr), as[i]? = some s → s.isOwn = true → vs[i]? = some (.ref a) → ∃ s', outs[i]? = some s' ∧ OutIs K F' H' a s'
  ret : RetIs K H F' H' r v
/-- a def's promise by what it gives -/
def SpF (mg : Str → Option Value) (K : PySem.W.Frag) (n : Nat) (φ : List Slot → Out (Slot × List Slot)) : Sp := fun vs H Q E =>
  vs.length = n ∧ ∃ (F : Hp) (as : List Slot), Ex F H ∧ as.length = n ∧ Sl (bdOf K F H as vs) F H as (vs.map some) ∧ (∀ s ∈ as, s ≠ .un) ∧
    (φ as).wp (fun r => ∀ v F' H', Back K F H as vs F' H' r.1 r.2 v → Q v H') (fun x => ∀ F' H' cls d, Kept (bdOf K F H as vs) F' H' → XcIs mg x cls d K F' H' → E cls d H')

/-- what arguments have become when a refusal leaves -/
def OutsOk (K : PySem.W.Frag) (F H : Hp) (as : List Slot) (vs : List V) (outs : List Slot) : Prop := ∀ (i : Nat) (s : Slot) (a : Addr), as[i]? = some s → s.isOwn = true → vs[i]? = some (.ref a) → ∃ s', outs[i]? = some s' ∧ OutIs K F H a s'
/-- .. where k things stand beside those that are handed over (a desk's past) -/
def SpD (mg : Str → Option Value) (K : PySem.W.Frag) (n k : Nat) (φ : List Slot → Out (Slot × List Slot)) : Sp := fun vs H Q E =>
  vs.length = n ∧ ∃ (qs : List V) (F : Hp) (as : List Slot), qs.length = k ∧ Ex F H ∧ as.length = n + k ∧ Sl (bdOf K F H as (vs ++ qs)) F H as ((vs ++ qs).map some) ∧ (∀ s ∈ as, s ≠ .un) ∧
    (φ as).wpx (fun r => ∀ v F' H', Back K F H as (vs ++ qs) F' H' r.1 r.2 v → Q v H') (fun x => ∀ F' H' cls d, Kept (bdOf K F H as (vs ++ qs)) F' H' → XcIs mg x cls d K F' H' → E cls d H')
      (fun x outs => ∀ F' H' cls d, Kept (bdOf K F H as (vs ++ qs)) F' H' → OutsOk K F' H' as (vs ++ qs) outs → XcIs mg x cls d K F' H' → E cls d H')
/-- a desk, made -/
def spInit (C : Addr) : Sp := fun vs H Q _ => ∃ (p dx : Addr), vs = [.ref p] ∧ H p = some (.ins C dx []) ∧ H dx = some (.own p) ∧ p ≠ dx ∧
  ∀ (H' : Hp) (q l t1 t2 : Addr) (o1 o2 : Obj), H q = none → H l = none → H t1 = none → H t2 = none → q ≠ l → q ≠ t1 → q ≠ t2 → l ≠ t1 → l ≠ t2 → t1 ≠ t2 → o1.dict = none → o2.dict = none →
    H' p = some (.ins C dx (deskF (.ref t1) (.ref l) (.ref q))) → H' q = some (.lst []) → H' l = some (.lst []) → H' t1 = some (.frz o1 (.tup [.int 1, .ref t2])) → H' t2 = some (.frz o2 (.tup [])) → (∀ b o, H b = some o → b ≠ p → H' b = some o) → Q .non H'
/-- what is known of desks -/
def DeskCtx (l : List (Str × Nat × Option Str)) (Φ : Calls) (X : Cx) : Prop := ∃ (C f0 : Addr) (fd0 : FuncData), PySem.W.nsIn X.K mainGlobals "Desk" = some (some (.ref C)) ∧ X.mg "Desk" = some (.ref C) ∧ Cls X.K C ∧ NoAttr X.K C "order" ∧ NoAttr X.K C "kept" ∧ NoAttr X.K C "past" ∧
  Mk X.K C f0 ∧ Binds X.K fd0 ["self"] [] ∧ FnG X.prog X.w X.K X.mg X.base (L2N.CX X.prog X.w) 1 f0 fd0 ["self"] (spInit C) ∧ Room 2 X.A ∧
  (∀ p ∈ l, p.2.2 = none → ∃ (f : Addr) (fd : FuncData) (ps : List Str) (k : Nat), X.mg p.1 = some (.ref f) ∧ ps.length = p.2.1 ∧ PySem.W.keepIn X.K (.ref f) = true ∧ Binds X.K fd ps [] ∧ FnG X.prog X.w X.K X.mg X.base (L2N.CX X.prog X.w) k f fd ps (SpD X.mg X.K p.2.1 1 (Φ p.1)) ∧ Room k X.A) ∧
  (∀ p ∈ l, ∀ m, p.2.2 = some m → ∃ (f : Addr) (fd : FuncData) (ps : List Str) (k : Nat), Meth X.K C m f ∧ ps.length = p.2.1 ∧ Binds X.K fd ps [] ∧ FnG X.prog X.w X.K X.mg X.base (L2N.CX X.prog X.w) k f fd ps (SpD X.mg X.K p.2.1 1 (Φ p.1)) ∧ Room k X.A)

/-- what a class of the text's own refusals says -/
structure ExF (K : PySem.W.Frag) (C : Addr) : Prop where
  ok : PySem.W.excIn K C [.type "ValueError", .type "Exception", .type "BaseException", .type "object"] "ValueError.__new__" = true
  kp : PySem.W.keepIn K (.ref C) = true
  bs : PySem.W.subIn K (.ref C) (.type "BaseException") = some true
  tp : PySem.W.typeIn K (.ref C) = some (.type "type")
  is : ExcC K C
/-- the def that tells a refusal's mark -/
def FnM (P : Program) (w : World) (K : PySem.W.Frag) (mg : Str → Option Value) (base : Heap) (f : Addr) (fd : FuncData) (exs : List (Str × Str)) : Prop := ∀ p ∈ exs, ∀ D : Addr, mg p.1 = some (.ref D) →
  ∀ (A : Around) (outer : List PySem.Env) (s : Shared) (H : Hp) (q : Addr × Obj) (args : Args) (Q : VK) (E : XK), L2H.RoomH 1 A → L2H.Hot1 A q → L2H.PinOk outer H s q → Env0 P w K mg base A outer s H → BindsTo s fd args [("e", .ref q.1)] →
    q.2.cls = .ref D → q.2.dict = none → (∃ vs, q.2.data = .fields vs) → (∀ H', Ex H H' → Q (.str p.2) H') → codeAny (model P w) A (.call (.ref f) args) (CR (L2N.CX P w) outer P w H s Q E) s
/-- what the suite behind a refusal calls: the def that tells the mark -/
def HotM (P : Program) (w : World) (K : PySem.W.Frag) (mg : Str → Option Value) (base : Heap) (exs : List (Str × Str)) : Prop := ∃ (f : Addr) (fd : FuncData) (R : Addr),
  mg "_law_marks" = some (.ref f) ∧ PySem.W.keepIn K (.ref f) = true ∧ Binds K fd ["e"] [] ∧ mg "RankError" = some (.ref R) ∧ (∀ p ∈ exs, ∀ C : Addr, mg p.1 = some (.ref C) → PySem.W.exmOne K (.ref C) (.ref R) = some true) ∧ FnM P w K mg base f fd exs
/-- the refusals, by their places -/
def asksL : List Str := ["NoOrder", "NoMany", "NoPairs", "Ring", "NoThing", "NoRow", "NoRows", "NoNumber", "NoChain", "NoTurns", "NoPoints", "NoKind", "TooMany", "Bare", "NoLine", "NoText"]
def placeOf (x : Str) : Int := ((asksL.idxOf x : Nat) : Int)
/-- the def that says whether a refusal is of the class at a place, and no other -/
def FnL (P : Program) (w : World) (K : PySem.W.Frag) (mg : Str → Option Value) (base : Heap) (f : Addr) (fd : FuncData) (exs : List (Str × Str)) : Prop := ∀ p ∈ exs, ∀ D : Addr, mg p.1 = some (.ref D) →
  ∀ (A : Around) (outer : List PySem.Env) (s : Shared) (H : Hp) (q : Addr × Obj) (args : Args) (Q : VK) (E : XK) (k : Int) (u : Value), L2H.RoomH 2 A → L2H.Hot1 A q → L2H.PinOk outer H s q → Env0 P w K mg base A outer s H → RelV (.int k) u → BindsTo s fd args [("e", .ref q.1), ("place", u)] →
    q.2.cls = .ref D → q.2.dict = none → (∃ vs, q.2.data = .fields vs) → (∀ H', Ex H H' → Q (.bl (decide (k = placeOf p.1))) H') → codeAny (model P w) A (.call (.ref f) args) (CR (L2N.CX P w) outer P w H s Q E) s
def HotL (P : Program) (w : World) (K : PySem.W.Frag) (mg : Str → Option Value) (base : Heap) (exs : List (Str × Str)) : Prop := ∃ (f : Addr) (fd : FuncData) (R : Addr),
  mg "_law_only" = some (.ref f) ∧ PySem.W.keepIn K (.ref f) = true ∧ Binds K fd ["e", "place"] [] ∧ mg "RankError" = some (.ref R) ∧ (∀ p ∈ exs, ∀ C : Addr, mg p.1 = some (.ref C) → PySem.W.exmOne K (.ref C) (.ref R) = some true) ∧ FnL P w K mg base f fd exs
/-- refusals that are told by their places bear no mark -/
def kindL (exs : List (Str × Str)) : Bool := exs.all fun p => p.2 == ("" : Str)
def HotOk (P : Program) (w : World) (K : PySem.W.Frag) (mg : Str → Option Value) (base : Heap) (exs : List (Str × Str)) : Prop := if kindL exs = true then HotL P w K mg base exs else HotM P w K mg base exs
theorem HotOk.m {P : Program} {w : World} {K : PySem.W.Frag} {mg : Str → Option Value} {base : Heap} {exs : List (Str × Str)} (k : kindL exs = false) : HotOk P w K mg base exs = HotM P w K mg base exs := if_neg (by rw [k]; decide)
theorem HotOk.l {P : Program} {w : World} {K : PySem.W.Frag} {mg : Str → Option Value} {base : Heap} {exs : List (Str × Str)} (k : kindL exs = true) : HotOk P w K mg base exs = HotL P w K mg base exs := if_pos k
/-! ### refusals with an __init__ of their own -/
def spIni (C : Addr) (f : Str) : Sp := fun vs H Q _ => ∃ (p : Addr) (v : V), vs = [.ref p, v] ∧ H p = some (exo p C none) ∧ ∀ dx, H dx = none → dx ≠ p → Q .non (upd (upd H dx (exd dx [(f, v)])) p (exo p C (some dx)))
/-- the def that tells the mark of a refusal that has its dict -/
def FnMD (P : Program) (w : World) (K : PySem.W.Frag) (mg : Str → Option Value) (base : Heap) (f : Addr) (fd : FuncData) (D : Addr) (m : Str) : Prop :=
  ∀ (A : Around) (outer : List PySem.Env) (s : Shared) (H : Hp) (q : Addr × Obj) (args : Args) (Q : VK) (E : XK) (dd : Addr) (od : Obj), L2H.RoomH 1 A → L2H.Hot1 A q → L2H.PinOk outer H s q → Env0 P w K mg base A outer s H → BindsTo s fd args [("e", .ref q.1)] →
    q.2.cls = .ref D → q.2.dict = some dd → s.heap.get? dd = some od → (∃ vs, q.2.data = .fields vs) → (∀ H', Ex H H' → Q (.str m) H') → codeAny (model P w) A (.call (.ref f) args) (CR (L2N.CX P w) outer P w H s Q E) s
/-- a def of one whole number, called while a refusal is held -/
def FnWH (P : Program) (w : World) (K : PySem.W.Frag) (mg : Str → Option Value) (base : Heap) (f : Addr) (fd : FuncData) (y : Str) (b : Bool) : Prop :=
  ∀ (A : Around) (outer : List PySem.Env) (s : Shared) (H : Hp) (q : Addr × Obj) (args : Args) (Q : VK) (E : XK) (k : Int) (u : Value), L2H.RoomH 1 A → L2H.Hot1 A q → L2H.PinOk outer H s q → Env0 P w K mg base A outer s H → RelV (.int k) u → BindsTo s fd args [(y, u)] →
    (∀ H', Ex H H' → Q (.bl b) H') → codeAny (model P w) A (.call (.ref f) args) (CR (L2N.CX P w) outer P w H s Q E) s
def HotI (P : Program) (w : World) (K : PySem.W.Frag) (mg : Str → Option Value) (base : Heap) (C : Addr) : Prop := ∃ (fM fW R : Addr) (dM dW : FuncData), mg "_law_marks" = some (.ref fM) ∧ PySem.W.keepIn K (.ref fM) = true ∧ Binds K dM ["e"] [] ∧ FnMD P w K mg base fM dM C "text" ∧
  mg "_law_whole" = some (.ref fW) ∧ PySem.W.keepIn K (.ref fW) = true ∧ Binds K dW ["thing"] [] ∧ FnWH P w K mg base fW dW "thing" true ∧ mg "RankError" = some (.ref R) ∧ PySem.W.exmOne K (.ref C) (.ref R) = some true
def IniOk (P : Program) (w : World) (K : PySem.W.Frag) (mg : Str → Option Value) (base : Heap) (x : Str) : Prop := ∃ (C fI : Addr) (fd : FuncData), mg x = some (.ref C) ∧ OexC K C ∧ PySem.W.findIn K (.ref C) "__init__" = some (some (.ref fI)) ∧ PySem.W.typeIn K (.ref fI) = some (.type "function") ∧
  FnG P w K mg base (L2N.CX P w) 1 fI fd ["self", "at"] (spIni C "at") ∧ Binds K fd ["self", "at"] [] ∧ XfC K C ∧ PySem.W.findIn K (.ref C) "at" = some none ∧ HotI P w K mg base C

structure CtxOk (Γ : Ctx) (Φ : Calls) (X : Cx) : Prop where
  nm : X.N = Γ.N
  sc : X.env.scope = Γ.sc
  nd : Γ.N.Nodup
  calm : X.calm = true
  room : Room 0 X.A
  grd : X.A.guards = some []
  fns : ∀ p ∈ Γ.fns, ∃ (f : Addr) (fd : FuncData) (ps : List Str) (k : Nat), X.mg p.1 = some (.ref f) ∧ ps.length = p.2 ∧ PySem.W.keepIn X.K (.ref f) = true ∧ Binds X.K fd ps [] ∧ FnG X.prog X.w X.K X.mg X.base (L2N.CX X.prog X.w) k f fd ps (SpF X.mg X.K p.2 (Φ p.1)) ∧ Room k X.A
  gints : ∀ p ∈ Γ.gints, ∃ t, X.mg p.1 = some (.int p.2 t)
  gstrs : ∀ p ∈ Γ.gstrs, ∃ t, X.mg p.1 = some (.str p.2 t)
  blt : ∀ x ∈ Γ.blts, X.mg x = none
  exs : ∀ p ∈ Γ.exs, ∃ C : Addr, X.mg p.1 = some (.ref C) ∧ ExF X.K C
  hot : Γ.exs ≠ [] → L2H.RoomH 2 X.A ∧ HotOk X.prog X.w X.K X.mg X.base Γ.exs
  dk : Γ.dk ≠ [] → DeskCtx Γ.dk Φ X
  ini : ∀ x ∈ Γ.ini, IniOk X.prog X.w X.K X.mg X.base x ∧ Room 2 X.A ∧ L2H.RoomH 2 X.A

theorem takesN {X : Cx} : L2N.Takes X (fun _ _ _ _ => False) := fun _ _ x => by
  obtain ⟨_, _, _, _, _, _, _, _, _, _, _, _, _, _, _, _, z⟩ := x
  exact z.elim
/-! ### judgements -/
abbrev Den := Calls → Env → Out (Slot × Env)
abbrev DenO := Calls → Env → Out (PyData × Env)
abbrev DenOs := Calls → Env → Out (List PyData × Env)
/-- behind an expression -/
def EvP (B : Bd) (F H : Hp) (σ : St) (p : Bool) (Q : VK) : Slot × Env → Prop := fun r => ∀ v F' H', Rel B F' H' r.2 σ → Ex F F' → (p = true → Ex H H') → Res B F' H' r.2 σ r.1 v → Q v H'
def ExP (X : Cx) (B : Bd) (F : Hp) (σ : St) (W : WX) : Exc → Prop := fun x => ∀ F' H' cls d, Kept B F' H' → Ex F F' → XcIs X.mg x cls d X.K F' H' → W cls d σ H'
/-- an operand: its top stands in H, its parts in F -/
def Bp (K : PySem.W.Frag) (F H : Hp) (d : PyData) (v : V) : Prop := Rp K F d v ∨ ∃ a o s, v = .ref a ∧ H a = some o ∧ OwnIs K F a o s ∧ s.ice = .val d
inductive BpAll (K : PySem.W.Frag) (F H : Hp) : List PyData → List V → Prop
  | nil : BpAll K F H [] []
  | cons {d : PyData} {ds : List PyData} {v : V} {vs : List V} : Bp K F H d v → BpAll K F H ds vs → BpAll K F H (d :: ds) (v :: vs)
theorem Bp.mono {K : PySem.W.Frag} {F H F' H' : Hp} {d : PyData} {v : V} (f : Ex F F') (h : Ex H H') (b : Bp K F H d v) : Bp K F' H' d v := by
  rcases b with b | ⟨a, o, s, h1, h2, h3, h4⟩
  · exact .inl (b.mono f)
  · exact .inr ⟨a, o, s, h1, h _ _ h2, h3.mono f, h4⟩
/-- m: it may be borrowed -/
def Vp (m : Bool) (K : PySem.W.Frag) (F H : Hp) (d : PyData) (v : V) : Prop := if m = true then Bp K F H d v else Rp K F d v
theorem Vp.mono {m : Bool} {K : PySem.W.Frag} {F H F' H' : Hp} {d : PyData} {v : V} (f : Ex F F') (h : m = true → Ex H H') (b : Vp m K F H d v) : Vp m K F' H' d v := by
  cases m with
  | true => exact Bp.mono f (h rfl) b
  | false => exact Rp.mono f _ _ b
theorem Vp.bp {m : Bool} {K : PySem.W.Frag} {F H : Hp} {d : PyData} {v : V} (b : Vp m K F H d v) : Bp K F H d v := by
  cases m with
  | true => exact b
  | false => exact .inl b
def OpP (B : Bd) (F H : Hp) (σ : St) (p m : Bool) (Q : VK) : PyData × Env → Prop := fun r => ∀ v F' H', Rel B F' H' r.2 σ → Ex F F' → (p = true → Ex H H') → Vp m B.K F' H' r.1 v → Q v H'
def OpsP (B : Bd) (F H : Hp) (σ : St) (p : Bool) (Q : List V → Hp → Prop) : List PyData × Env → Prop := fun r => ∀ vs F' H', Rel B F' H' r.2 σ → Ex F F' → (p = true → Ex H H') → BpAll B.K F' H' r.1 vs → Q vs H'

/-- e means d -/
def SndE (Γ : Ctx) (e : Expr) (d : Den) (p : Bool) : Prop := ∀ (X : Cx) (Φ : Calls) (B : Bd) (F H : Hp) (ρ : Env) (σ : St) (Q : VK) (W : WX), CtxOk Γ Φ X → B.K = X.K → L2N.Takes X W → Rel B F H ρ σ →
  (d Φ ρ).wp (EvP B F H σ p Q) (ExP X B F σ W) → wE X e σ H Q
def SndO (Γ : Ctx) (e : Expr) (d : DenO) (p m : Bool) : Prop := ∀ (X : Cx) (Φ : Calls) (B : Bd) (F H : Hp) (ρ : Env) (σ : St) (Q : VK) (W : WX), CtxOk Γ Φ X → B.K = X.K → L2N.Takes X W → Rel B F H ρ σ →
  (d Φ ρ).wp (OpP B F H σ p m Q) (ExP X B F σ W) → wE X e σ H Q
def SndOs (Γ : Ctx) (es : List Expr) (d : DenOs) (p : Bool) : Prop := ∀ (X : Cx) (Φ : Calls) (B : Bd) (F H : Hp) (ρ : Env) (σ : St) (Q : List V → Hp → Prop) (W : WX), CtxOk Γ Φ X → B.K = X.K → L2N.Takes X W → Rel B F H ρ σ →
  (d Φ ρ).wp (OpsP B F H σ p Q) (ExP X B F σ W) → wEs X es σ H Q
/-- as a test -/
def SndT (Γ : Ctx) (e : Expr) (d : Den) (p : Bool) : Prop := ∀ (X : Cx) (Φ : Calls) (B : Bd) (F H : Hp) (ρ : Env) (σ : St) (Q : Bool → Hp → Prop) (W : WX), CtxOk Γ Φ X → B.K = X.K → L2N.Takes X W → Rel B F H ρ σ →
  (d Φ ρ).wp (fun r => ∃ b, r.1 = .val (.bool b) ∧ ∀ F' H', Rel B F' H' r.2 σ → Ex F F' → (p = true → Ex H H') → Q b H') (ExP X B F σ W) → wT X e σ H Q

section
variable {X : Cx} {B : Bd} {F F' H H' : Hp} {σ : St} {W : WX} {ρ : Env}
theorem ExP.mono (e : Ex F F') : ∀ x, ExP X B F σ W x → ExP X B F' σ W x := fun x h F2 H2 c d k e2 i => h F2 H2 c d k (e.trans e2) i
end

/-! ### names, constants -/
def dVar (i : Nat) : Den := fun _ ρ => match ρ[i]? with
  | some (.val d) => .ok (.val d, ρ)
  | some (.own ds) => .ok (.val (.list ds), ρ.set i (.val (.list ds)))
  | some (.odc false es) => .ok (.val (.dict es), ρ.set i (.val (.dict es)))
  | _ => .stuck
def dLit (d : PyData) : Den := fun _ ρ => .ok (.val d, ρ)
/-- a name as an operand: as it stands -/
def oVar (i : Nat) : DenO := fun _ ρ => match ρ[i]? with
  | some (.val d) => .ok (d, ρ)
  | some (.own ds) => .ok (.list ds, ρ)
  | some (.odc false es) => .ok (.dict es, ρ)
  | _ => .stuck
def oOf (d : Den) : DenO := fun Φ ρ => (d Φ ρ).bind fun r => match r.1 with
  | .val x => .ok (x, r.2)
  | .own ds => .ok (.list ds, r.2)
  | .odc false es => .ok (.dict es, r.2)
  | _ => .stuck

def visB (sc : Scope) (x : Str) : Bool := sc.names.lookup x == some .local || sc.names.lookup x == some .cell || sc.names.lookup x == some .free
theorem vis_of {sc : Scope} {x : Str} (h : visB sc x = true) : Vis sc x := by
  unfold visB at h
  simp only [Bool.or_eq_true, beq_iff_eq] at h
  rcases h with (h | h) | h
  · exact .inl h
  · exact .inr (.inl h)
  · exact .inr (.inr h)
def okName (x : Str) : Bool := !(x == ("__debug__" : Str)) && !(x == ("__classdict__" : Str)) && !(x == ("__name__" : Str))
theorem okName_d {x : Str} (h : okName x = true) : (x == ("__debug__" : Str)) = false := by
  unfold okName at h
  simp only [Bool.and_eq_true, Bool.not_eq_true'] at h
  exact h.1.1
theorem okName_c {x : Str} (h : okName x = true) : (x == ("__classdict__" : Str)) = false := by
  unfold okName at h
  simp only [Bool.and_eq_true, Bool.not_eq_true'] at h
  exact h.1.2
theorem okName_n {x : Str} (h : okName x = true) : x ≠ "__name__" := by
  unfold okName at h
  simp only [Bool.and_eq_true, Bool.not_eq_true'] at h
  intro e
  subst e
  simp at h

section
variable {Γ : Ctx} {x : Str} {pos : Pos} {i : Nat}
theorem snd_var (hN : Γ.N[i]? = some x) (hv : visB Γ.sc x = true) (hx : okName x = true) : SndE Γ (.Name x pos) (dVar i) true := by
  intro X Φ B F H ρ σ Q W C hK T R h
  have P : PE X (.Name x pos) (tVar i) := pe_var (by rw [C.nm]; exact hN) (by rw [C.sc]; exact vis_of hv) (okName_d hx) (okName_c hx)
  unfold dVar at h
  cases e : ρ[i]? with
  | none => rw [e] at h; exact h.elim
  | some s =>
    rw [e] at h
    cases s with
    | val d =>
      obtain ⟨v, h1, h2⟩ := R.sl.val i d e
      exact P.w ⟨v, h1, h v F H R (.refl F) (fun _ => .refl H) h2⟩
    | own ds =>
      obtain ⟨F', d, v, R', e1, e2, e3, e4⟩ := R.iceAt e rfl rfl
      cases e2
      exact P.w ⟨v, e3, h v F' H R' e1 (fun _ => .refl H) e4⟩
    | odc t es =>
      cases t with
      | true => exact h.elim
      | false =>
        obtain ⟨F', d, v, R', e1, e2, e3, e4⟩ := R.iceAt e rfl rfl
        cases e2
        exact P.w ⟨v, e3, h v F' H R' e1 (fun _ => .refl H) e4⟩
    | un => exact h.elim
    | obj _ _ => exact h.elim
    | scr ns => exact h.elim
theorem snd_oVar (hN : Γ.N[i]? = some x) (hv : visB Γ.sc x = true) (hx : okName x = true) : SndO Γ (.Name x pos) (oVar i) true true := by
  intro X Φ B F H ρ σ Q W C hK T R h
  have P : PE X (.Name x pos) (tVar i) := pe_var (by rw [C.nm]; exact hN) (by rw [C.sc]; exact vis_of hv) (okName_d hx) (okName_c hx)
  unfold oVar at h
  cases e : ρ[i]? with
  | none => rw [e] at h; exact h.elim
  | some s =>
    rw [e] at h
    cases s with
    | val d =>
      obtain ⟨v, h1, h2⟩ := R.sl.val i d e
      exact P.w ⟨v, h1, h v F H R (.refl F) (fun _ => .refl H) (.inl h2)⟩
    | own ds =>
      obtain ⟨a, o, e1, e2, e3, e4, e5⟩ := R.sl.own i _ e rfl
      exact P.w ⟨_, e1, h _ F H R (.refl F) (fun _ => .refl H) (.inr ⟨a, o, _, rfl, e3, e4, rfl⟩)⟩
    | odc t es =>
      cases t with
      | true => exact h.elim
      | false =>
        obtain ⟨a, o, e1, e2, e3, e4, e5⟩ := R.sl.own i _ e rfl
        exact P.w ⟨_, e1, h _ F H R (.refl F) (fun _ => .refl H) (.inr ⟨a, o, _, rfl, e3, e4, rfl⟩)⟩
    | un => exact h.elim
    | obj _ _ => exact h.elim
    | scr ns => exact h.elim
theorem snd_oOf {e : Expr} {d : Den} {p : Bool} (h : SndE Γ e d p) : SndO Γ e (oOf d) p false := by
  intro X Φ B F H ρ σ Q W C hK T R hq
  refine h X Φ B F H ρ σ Q W C hK T R (wp_mono (wp_bind (c := d Φ ρ) hq) (fun r q v F' H' R' e1 e2 hr => ?_) fun _ q => q)
  obtain ⟨s, ρ'⟩ := r
  have sf : s.soft = true := by
    cases s with
    | odc t es =>
      cases t with
      | true => exact q.elim
      | false => rfl
    | obj _ _ => exact q.elim
    | _ => rfl
  obtain ⟨F2, x, R2, e3, e4, e5⟩ := hr.freeze R' sf
  cases s with
  | val y => cases e4; exact q v F2 H' R2 (e1.trans e3) e2 e5
  | own ds => cases e4; exact q v F2 H' R2 (e1.trans e3) e2 e5
  | odc t es =>
    cases t with
    | true => cases sf
    | false => cases e4; exact q v F2 H' R2 (e1.trans e3) e2 e5
  | obj _ _ => cases sf
  | un => exact hr.elim
  | scr ns => exact hr.elim
def litOf : Const → Option PyData
  | .none => some .none
  | .bool b => some (.bool b)
  | .int i => some (.int i)
  | .str s => some (.str s)
  | _ => none
theorem snd_lit {c : Const} {d : PyData} {k : Nat} (hc : litOf c = some d) : SndE Γ (.Constant c k pos) (dLit d) true := by
  intro X Φ B F H ρ σ Q W C hK T R h
  have h' := fun v (r : Rp B.K F d v) => h v F H R (.refl F) (fun _ => .refl H) r
  cases c with
  | none => cases hc; exact PE.w pe_non (h' _ .non)
  | bool b => cases hc; exact PE.w pe_bl (h' _ (.bl b))
  | int i => cases hc; exact PE.w pe_int (h' _ (.int i))
  | str s => cases hc; exact PE.w pe_str (h' _ (.str s))
  | _ => cases hc
/-- a whole number, a text of the module -/
theorem snd_gint {n : Int} (hm : (x, n) ∈ Γ.gints) (hg : Γ.sc.names.lookup x = some .globalImplicit) (hx : okName x = true) : SndE Γ (.Name x pos) (dLit (.int n)) true := by
  intro X Φ B F H ρ σ Q W C hK T R h
  obtain ⟨t, e⟩ := C.gints _ hm
  exact PE.w (pe_glob (v := .int n) (by show X.env.scope.names.lookup x = _; rw [C.sc]; exact hg) e ⟨t, rfl⟩ (okName_d hx)) (h _ F H R (.refl F) (fun _ => .refl H) (.int n))
theorem snd_gstr {n : Str} (hm : (x, n) ∈ Γ.gstrs) (hg : Γ.sc.names.lookup x = some .globalImplicit) (hx : okName x = true) : SndE Γ (.Name x pos) (dLit (.str n)) true := by
  intro X Φ B F H ρ σ Q W C hK T R h
  obtain ⟨t, e⟩ := C.gstrs _ hm
  exact PE.w (pe_glob (v := .str n) (by show X.env.scope.names.lookup x = _; rw [C.sc]; exact hg) e ⟨t, rfl⟩ (okName_d hx)) (h _ F H R (.refl F) (fun _ => .refl H) (.str n))
end

/-! ### lists of operands -/
def plainE : Expr → Bool
  | .Starred _ _ => false
  | _ => true
theorem star_of {e : Expr} {es : List Expr} {env : PySem.Env} (h : plainE e = true) : starEach (e :: es) env = (false, eval e env) :: starEach es env := by
  cases e <;> first | rfl | cases h
theorem plain_any {pos : Pos} {env : PySem.Env} : ∀ {es : List Expr}, es.all plainE = true → (backTo pos (starEach es env)).any (·.1) = false
  | [], _ => rfl
  | e :: es, h => by
    rw [List.all_cons, Bool.and_eq_true] at h
    rw [star_of h.1]
    show (false || (backTo pos (starEach es env)).any (·.1)) = false
    rw [plain_any h.2]
    rfl
theorem pa_ws {X : Cx} : ∀ {es : List Expr}, es.all plainE = true → PA X es (wEs X es)
  | [], _ => pa_nil
  | e :: es, h => by
    rw [List.all_cons, Bool.and_eq_true] at h
    exact pa_cons pe_w (pa_ws h.2) (star_of h.1)
def osNil : DenOs := fun _ ρ => .ok ([], ρ)
def osCons (a : DenO) (r : DenOs) : DenOs := fun Φ ρ => (a Φ ρ).bind fun x => (r Φ x.2).bind fun y => .ok (x.1 :: y.1, y.2)
section
variable {Γ : Ctx} {e : Expr} {es : List Expr} {a : DenO} {r : DenOs} {p m p' : Bool}
theorem snd_osNil : SndOs Γ [] osNil true := by
  intro X Φ B F H ρ σ Q W C hK T R h
  exact h [] F H R (.refl F) (fun _ => .refl H) .nil
theorem snd_osCons (h1 : SndO Γ e a p m) (h2 : SndOs Γ es r p') (hp : (p' || !m) = true) : SndOs Γ (e :: es) (osCons a r) (p && p') := by
  intro X Φ B F H ρ σ Q W C hK T R h
  refine h1 X Φ B F H ρ σ _ W C hK T R (wp_mono (wp_bind (c := a Φ ρ) h) (fun x q v F1 H1 R1 e1 e2 hv => ?_) fun _ q => q)
  refine h2 X Φ B F1 H1 x.2 σ _ W C hK T R1 (wp_mono (wp_bind (c := r Φ x.2) q) (fun y q' vs F2 H2 R2 e3 e4 hvs => ?_) (ExP.mono e1))
  refine q' (v :: vs) F2 H2 R2 (e1.trans e3) (fun z => ?_) (.cons (Vp.bp (m := m) (hv.mono e3 fun hm => ?_)) hvs)
  · rw [Bool.and_eq_true] at z
    exact (e2 z.1).trans (e4 z.2)
  · rw [hm] at hp
    simp only [Bool.not_true, Bool.or_false] at hp
    exact e4 hp
end

/-! ### lists of frozen things -/
def fsNil : DenOs := fun _ ρ => .ok ([], ρ)
def fsCons (a : Den) (r : DenOs) : DenOs := fun Φ ρ => (oOf a Φ ρ).bind fun x => (r Φ x.2).bind fun y => .ok (x.1 :: y.1, y.2)
def FsP (B : Bd) (F H : Hp) (σ : St) (p : Bool) (Q : List V → Hp → Prop) : List PyData × Env → Prop := fun r => ∀ vs F' H', Rel B F' H' r.2 σ → Ex F F' → (p = true → Ex H H') → RpAll B.K F' r.1 vs → Q vs H'
def SndFs (Γ : Ctx) (es : List Expr) (d : DenOs) (p : Bool) : Prop := ∀ (X : Cx) (Φ : Calls) (B : Bd) (F H : Hp) (ρ : Env) (σ : St) (Q : List V → Hp → Prop) (W : WX), CtxOk Γ Φ X → B.K = X.K → L2N.Takes X W → Rel B F H ρ σ →
  (d Φ ρ).wp (FsP B F H σ p Q) (ExP X B F σ W) → wEs X es σ H Q
section
variable {Γ : Ctx} {e : Expr} {es : List Expr} {a : Den} {r : DenOs} {p p' : Bool} {pos : Pos}
theorem snd_fsNil : SndFs Γ [] fsNil true := by
  intro X Φ B F H ρ σ Q W C hK T R h
  exact h [] F H R (.refl F) (fun _ => .refl H) .nil
theorem snd_fsCons (h1 : SndE Γ e a p) (h2 : SndFs Γ es r p') : SndFs Γ (e :: es) (fsCons a r) (p && p') := by
  intro X Φ B F H ρ σ Q W C hK T R h
  refine snd_oOf h1 X Φ B F H ρ σ _ W C hK T R (wp_mono (wp_bind (c := oOf a Φ ρ) h) (fun x q v F1 H1 R1 e1 e2 hv => ?_) fun _ q => q)
  refine h2 X Φ B F1 H1 x.2 σ _ W C hK T R1 (wp_mono (wp_bind (c := r Φ x.2) q) (fun y q' vs F2 H2 R2 e3 e4 hvs => ?_) (ExP.mono e1))
  refine q' (v :: vs) F2 H2 R2 (e1.trans e3) (fun z => ?_) (.cons (Rp.mono e3 _ _ hv) hvs)
  rw [Bool.and_eq_true] at z
  exact (e2 z.1).trans (e4 z.2)
/-- (a, b, ..) | [a, b, ..] -/
def dTup (a : DenOs) : Den := fun Φ ρ => (a Φ ρ).bind fun x => guard' (decide (x.1.length ≤ 1000)) (.ok (.val (.tuple x.1), x.2))
def dLst (a : DenOs) : Den := fun Φ ρ => (a Φ ρ).bind fun x => guard' (decide (x.1.length ≤ 1000)) (.ok (.own x.1, x.2))
theorem RpAll.length {K : PySem.W.Frag} {H : Hp} : ∀ {ds : List PyData} {vs : List V}, RpAll K H ds vs → ds.length = vs.length
  | [], _, h => by cases h; rfl
  | _ :: _, _, h => by
    cases h with
    | cons _ h2 => exact congrArg Nat.succ (RpAll.length h2)
theorem le_line {n : Nat} (h : n ≤ 1000000) : n ≤ sizeLine := Nat.le_trans h (by decide)
theorem lt_line {n : Nat} (h : n ≤ 1000000) : n < sizeLine := Nat.lt_of_le_of_lt h (by decide)
end
/-! ### operations on values -/
/-- what an operation's outcome must be good for -/
def PQ (K : PySem.W.Frag) (F H : Hp) (Q : VK) : Slot → Prop
  | .val d => ∀ v F' H', Grow F H F' H' → Rp K F' d v → Q v H'
  | .own ds => ∀ p vs, H p = none → RpAll K F ds vs → Q (.ref p) (upd H p (.lst vs))
  | .odc false es => ∀ p kvs, H p = none → RpK K F es kvs → Q (.ref p) (upd H p (.dK kvs))
  | .odc true es => ∀ p kvs, H p = none → RpI K F es kvs → Q (.ref p) (upd H p (tabO p kvs))
  | _ => True
/-- an operation on values -/
abbrev Prim := List PyData → Option Slot
def Rule (K : PySem.W.Frag) (r : List V → Hp → VK → Prop) (f : Prim) : Prop := ∀ (F H : Hp) (ds : List PyData) (vs : List V) (Q : VK) (s : Slot), Ex F H → BpAll K F H ds vs → f ds = some s → PQ K F H Q s → r vs H Q
def opt {α : Type} (o : Option α) : Out α := match o with
  | some a => .ok a
  | none => .stuck
@[simp] theorem opt_some {α : Type} (a : α) : opt (some a) = .ok a := rfl
/-- an operation on operands -/
def dP (f : Prim) (a : DenOs) : Den := fun Φ ρ => (a Φ ρ).bind fun x => (opt (f x.1)).bind fun s => .ok (s, x.2)
section
variable {X : Cx} {B : Bd} {F H F0 H0 : Hp} {ρ : Env} {σ : St} {Q : VK} {W : WX} {p : Bool}
/-- new things do no harm -/
theorem pq_of {s : Slot} (R : Rel B F H ρ σ) (e1 : Ex F0 F) (e2 : p = true → Ex H0 H) (h : EvP B F0 H0 σ p Q (s, ρ)) : PQ B.K F H Q s := by
  have nw : ∀ {a : Addr}, H a = none → B.H0 a = none := fun {a} hp => by
    cases q : B.H0 a with
    | none => rfl
    | some o => exact absurd hp (R.kept.live a (by rw [q]; exact fun z => by cases z))
  have ap : ∀ {a : Addr}, H a = none → ∀ (i : Nat) (t : Slot), ρ[i]? = some t → t.isOwn = true → σ[i]? ≠ some (some (.ref a)) := fun {a} hp i t q qs z => by
    obtain ⟨b, o, g1, g2, g3, _⟩ := R.sl.own i t q qs
    rw [g1] at z
    cases z
    rw [hp] at g3; cases g3
  cases s with
  | val d => exact fun v F' H' g r => h v F' H' (R.add g) (e1.trans g.ff) (fun z => (e2 z).trans g.hh) r
  | own ds => exact fun q vs hp r => h _ F _ (R.grow (.new hp)) e1 (fun z => (e2 z).trans (.new hp)) ⟨q, _, rfl, R.kept.ex.free hp, upd_same, ⟨vs, rfl, r⟩, nw hp, ap hp⟩
  | odc t es =>
    cases t with
    | false => exact fun q vs hp r => h _ F _ (R.grow (.new hp)) e1 (fun z => (e2 z).trans (.new hp)) ⟨q, _, rfl, R.kept.ex.free hp, upd_same, ⟨vs, rfl, r⟩, nw hp, ap hp⟩
    | true => exact fun q vs hp r => h _ F _ (R.grow (.new hp)) e1 (fun z => (e2 z).trans (.new hp)) ⟨q, _, rfl, R.kept.ex.free hp, upd_same, ⟨q, vs, rfl, r⟩, nw hp, ap hp⟩
  | un => exact trivial
  | obj _ _ => exact trivial
  | scr ns => exact trivial
end
section
variable {Γ : Ctx} {es : List Expr} {a : DenOs} {p : Bool} {pos : Pos}
/-- a tuple display, its object known (so it has no dict of its own) -/
def tTupF (t : TA) : TE := fun σ H Q => t σ H fun xs H1 => xs.length ≤ sizeLine ∧ ∀ p o, H1 p = none → o.dict = none → Q (.ref p) (upd H1 p (.frz o (.tup xs)))
theorem laid_tup {X : Cx} {pins : List (Addr × Obj)} {σ : St} {H : Hp} {s : Shared} {us : List Value} {xs : List V} {t' : Nat} (I : Inv X pins σ H s) (r : Vals xs us) (z : xs.length ≤ sizeLine) :
    Inv X pins σ (upd H s.heap.objs.size (.frz { cls := .type "tuple", data := .seq us.toArray } (.tup xs))) { s with heap := s.heap.push { cls := .type "tuple", data := .seq us.toArray }, toks := t' } :=
  I.laid (t' := t') (fun b u e => Heap.get?_push_of_some _ e) (Nat.le_refl _) ⟨Heap.get?_push_size _ rfl, z, us, r, ⟨_, Heap.get?_push_size _ rfl, rfl, _, rfl⟩⟩
theorem pe_tupF {X : Cx} {t : TA} {x1 : Nat} (h : PA X es t) : PE X (.Tuple es x1 pos) (tTupF t) := by
  refine ⟨fun pins s σ H Q I hq => ?_⟩
  refine wpAny_Tuple_spliced (thn (h.run pos pins s σ H _ I hq) fun us s1 ⟨xs, H1, I1, r, z, q⟩ => ⟨by rw [← r.length]; exact z, ?_⟩)
  exact ⟨.ref s1.heap.objs.size, _, laid_tup (t' := s1.toks) I1 r z, rfl, q _ _ (I1.hok.fresh (Nat.le_refl _)) rfl⟩
theorem snd_tup {k : Nat} (h : SndFs Γ es a p) (he : es.all plainE = true) : SndE Γ (.Tuple es k pos) (dTup a) p := by
  intro X Φ B F H ρ σ Q W C hK T R hq
  refine PE.w (pe_tupF (pa_ws he)) ?_
  refine h X Φ B F H ρ σ _ W C hK T R (wp_mono (wp_bind (c := a Φ ρ) hq) (fun x q vs F1 H1 R1 e1 e2 hv => ?_) fun _ q => q)
  obtain ⟨hl, q⟩ := wp_guard q
  have hl := of_decide_eq_true hl
  refine ⟨le_line (by have := hv.length; omega), fun t o ht ho => ?_⟩
  exact pq_of R1 e1 e2 q _ _ _ (Grow.new (o := .frz o (.tup vs)) R1.kept.ex ht) (.tup upd_same ho (hv.mono (.new (R1.kept.ex.free ht))))
theorem snd_lst (h : SndFs Γ es a p) (he : es.all plainE = true) : SndE Γ (.List es pos) (dLst a) p := by
  intro X Φ B F H ρ σ Q W C hK T R hq
  refine PE.w (pe_lst (pa_ws he)) ?_
  refine h X Φ B F H ρ σ _ W C hK T R (wp_mono (wp_bind (c := a Φ ρ) hq) (fun x q vs F1 H1 R1 e1 e2 hv => ?_) fun _ q => q)
  obtain ⟨hl, q⟩ := wp_guard q
  have hl := of_decide_eq_true hl
  refine ⟨le_line (by have := hv.length; omega), fun t ht => ?_⟩
  exact pq_of R1 e1 e2 q _ _ ht hv
end

/-! ### where an operation stands in the text -/
def rr2 (r : R2) : List V → Hp → VK → Prop := fun vs H Q => ∃ x y, vs = [x, y] ∧ r x y H Q
def rr1 (r : V → Hp → VK → Prop) : List V → Hp → VK → Prop := fun vs H Q => ∃ x, vs = [x] ∧ r x H Q
def rrm (r : V → List V → Hp → VK → Prop) : List V → Hp → VK → Prop := fun vs H Q => ∃ x xs, vs = x :: xs ∧ r x xs H Q
section
variable {Γ : Ctx} {f : Prim} {d : DenOs} {p : Bool} {pos apos ppos : Pos} {a b c : Expr} {es : List Expr}
theorem ops_run {r : PySem.W.Frag → List V → Hp → VK → Prop} {X : Cx} {Φ : Calls} {B : Bd} {F H : Hp} {ρ : Env} {σ : St} {Q : VK} {W : WX} (hr : ∀ K, Rule K (r K) f) (h : SndOs Γ es d p) (C : CtxOk Γ Φ X) (hK : B.K = X.K) (T : L2N.Takes X W) (R : Rel B F H ρ σ)
    (hq : (dP f d Φ ρ).wp (EvP B F H σ p Q) (ExP X B F σ W)) : wEs X es σ H fun vs H' => r X.K vs H' Q := by
  refine h X Φ B F H ρ σ _ W C hK T R (wp_mono (wp_bind (c := d Φ ρ) hq) (fun x q vs F1 H1 R1 e1 e2 hv => ?_) fun _ q => q)
  rw [← hK]
  cases g : f x.1 with
  | some s =>
    rw [g] at q
    exact hr B.K F1 H1 x.1 vs Q s R1.kept.ex hv g (pq_of R1 e1 e2 q)
  | none => rw [g] at q; exact q.elim
theorem two_w {X : Cx} {r : R2} {σ : St} {H : Hp} {Q : VK} (h : wEs X [a, b] σ H fun vs H' => rr2 r vs H' Q) : tOp r (wE X a) (wE X b) σ H Q :=
  wE.mono h fun x H1 h1 => wE.mono h1 fun y H2 ⟨x', y', e, q⟩ => by cases e; exact q
theorem snd_bin {op : Operator} {r : PySem.W.Frag → R2} (ho : ∀ (X : Cx), X.calm = true → Room 0 X.A → OpR X (binaryOp op) (r X.K)) (hr : ∀ K, Rule K (rr2 (r K)) f) (h : SndOs Γ [a, b] d p) : SndE Γ (.BinOp a op b pos) (dP f d) p := by
  intro X Φ B F H ρ σ Q W C hK T R hq
  exact PE.w (pe_op (ho X C.calm C.room) pe_w pe_w) (two_w (ops_run (r := fun K => rr2 (r K)) hr h C hK T R hq))
theorem snd_un {op : UnaryOp} {r : V → Hp → VK → Prop} (ho : ∀ (X : Cx), UnR X (unaryOp op) r) (hr : ∀ K, Rule K (rr1 r) f) (h : SndOs Γ [a] d p) : SndE Γ (.UnaryOp op a pos) (dP f d) p := by
  intro X Φ B F H ρ σ Q W C hK T R hq
  refine PE.w (pe_un (ho X) pe_w) ?_
  exact wE.mono (ops_run (r := fun _ => rr1 r) hr h C hK T R hq) fun x H1 ⟨x', e, q⟩ => by cases e; exact q
def notSet : Expr → Bool
  | .Set _ _ _ => false
  | _ => true
theorem nomark' {op : CmpOp} {b : Expr} (h : notSet b = true) : behindInMarks op b = false := by
  cases b <;> first | rfl | cases h
/-- one comparison, as a value and as a test -/
theorem snd_cmp {op : CmpOp} {r : PySem.W.Frag → R2} (ho : ∀ (X : Cx), X.calm = true → Room 0 X.A → OpR X (compareOp op) (r X.K)) (hr : ∀ K, Rule K (rr2 (r K)) f) (h : SndOs Γ [a, b] d p) (hb : notSet b = true) : SndE Γ (.Compare a [op] [b] pos) (dP f d) p := by
  intro X Φ B F H ρ σ Q W C hK T R hq
  exact PE.w (pe_cmpR (ho X C.calm C.room) pe_w pe_w (nomark' hb)) (two_w (ops_run (r := fun K => rr2 (r K)) hr h C hK T R hq))
/-- a test from a value, whatever gives it -/
theorem evp_test {B : Bd} {F H : Hp} {σ : St} {p : Bool} {Q : Bool → Hp → Prop} {r : Slot × Env} (h : ∃ b, r.1 = .val (.bool b) ∧ ∀ F' H', Rel B F' H' r.2 σ → Ex F F' → (p = true → Ex H H') → Q b H') : EvP B F H σ p (fun x H' => ∃ k, x = .bl k ∧ Q k H') r := by
  obtain ⟨b, e, q⟩ := h
  intro v F' H' R e1 e2 hr
  rw [e] at hr
  cases (show Rp B.K F' (.bool b) v from hr)
  exact ⟨b, rfl, q F' H' R e1 e2⟩
theorem snd_cmpT {op : CmpOp} {r : PySem.W.Frag → R2} (ho : ∀ (X : Cx), X.calm = true → Room 0 X.A → OpR X (compareOp op) (r X.K)) (hr : ∀ K, Rule K (rr2 (r K)) f) (h : SndOs Γ [a, b] d p) (hb : notSet b = true) : SndT Γ (.Compare a [op] [b] pos) (dP f d) p := by
  intro X Φ B F H ρ σ Q W C hK T R hq
  refine PT.w (pt_cmpR (ho X C.calm C.room) pe_w pe_w (nomark' hb)) ?_
  exact two_w (ops_run (r := fun K => rr2 (r K)) hr h C hK T R (wp_mono hq (fun _ z => evp_test z) fun _ z => z))
/-- forms whose test is the truth of their value -/
def plainT : Expr → Bool
  | .UnaryOp .Not _ _ => false
  | .BoolOp _ _ _ => false
  | .IfExp _ _ _ _ => false
  | .Compare _ _ _ _ => false
  | _ => true
theorem plainT_eq {e : Expr} {env : PySem.Env} (h : plainT e = true) (whole : Sem Value) : isTrue e env whole = (do let v ← whole; standAt e.pos; holding [v] (truthy v)) := by
  cases e with
  | UnaryOp op x p => cases op <;> first | rfl | cases h
  | BoolOp op x p => cases h
  | IfExp op x p => cases h
  | Compare op x p => cases h
  | _ => rfl
theorem snd_plainT {e : Expr} {d : Den} (h : SndE Γ e d p) (he : plainT e = true) : SndT Γ e d p := by
  intro X Φ B F H ρ σ Q W C hK T R hq
  refine PT.w (pt_val pe_w (plainT_eq he)) ?_
  exact h X Φ B F H ρ σ _ W C hK T R (wp_mono hq (fun _ z => evp_test z) fun _ z => z)

/-! ### and, or, not -/
def dNot (d : Den) : Den := fun Φ ρ => (d Φ ρ).bind fun x => match x.1 with
  | .val (.bool b) => .ok (.val (.bool !b), x.2)
  | _ => .stuck
def dAnd (d e : Den) : Den := fun Φ ρ => (d Φ ρ).bind fun x => match x.1 with
  | .val (.bool true) => e Φ x.2
  | .val (.bool false) => .ok (.val (.bool false), x.2)
  | _ => .stuck
def dOr (d e : Den) : Den := fun Φ ρ => (d Φ ρ).bind fun x => match x.1 with
  | .val (.bool true) => .ok (.val (.bool true), x.2)
  | .val (.bool false) => e Φ x.2
  | _ => .stuck
/-- t's outcome is a truth -/
theorem snd_not {d : Den} (h : SndE Γ a d p) : SndE Γ (.UnaryOp .Not a pos) (dNot d) p := by
  intro X Φ B F H ρ σ Q W C hK T R hq
  refine PE.w (pe_not pe_w) ?_
  refine h X Φ B F H ρ σ _ W C hK T R (wp_mono (wp_bind (c := d Φ ρ) hq) (fun x q v F1 H1 R1 e1 e2 hv => ?_) fun _ q => q)
  obtain ⟨s, ρ1⟩ := x
  cases s with
  | val y =>
    cases y with
    | bool b =>
      cases (show Rp B.K F1 (.bool b) v from hv)
      exact ⟨b, rfl, q _ F1 H1 R1 e1 e2 (Rp.bl _)⟩
    | _ => exact q.elim
  | _ => exact q.elim
theorem snd_notT {d : Den} (h : SndT Γ a d p) : SndT Γ (.UnaryOp .Not a pos) (dNot d) p := by
  intro X Φ B F H ρ σ Q W C hK T R hq
  refine PT.w (pt_not pt_w) ?_
  refine h X Φ B F H ρ σ _ W C hK T R (wp_mono (wp_bind (c := d Φ ρ) hq) (fun x q => ?_) fun _ q => q)
  obtain ⟨s, ρ1⟩ := x
  cases s with
  | val y =>
    cases y with
    | bool b =>
      obtain ⟨b', e, q⟩ := q
      cases e
      exact ⟨b, rfl, q⟩
    | _ => exact q.elim
  | _ => exact q.elim
theorem snd_one {op : BoolOp} {d : Den} (h : SndE Γ a d p) : SndE Γ (.BoolOp op [a] pos) d p := by
  intro X Φ B F H ρ σ Q W C hK T R hq
  exact PE.w (pe_one pe_w) (h X Φ B F H ρ σ Q W C hK T R hq)
theorem snd_and {d e : Den} {p' : Bool} (h : SndE Γ a d p) (h' : SndE Γ (.BoolOp .And (b :: es) pos) e p') : SndE Γ (.BoolOp .And (a :: b :: es) pos) (dAnd d e) (p && p') := by
  intro X Φ B F H ρ σ Q W C hK T R hq
  refine PE.w (pe_and pe_w pe_w) ?_
  refine h X Φ B F H ρ σ _ W C hK T R (wp_mono (wp_bind (c := d Φ ρ) hq) (fun x q v F1 H1 R1 e1 e2 hv => ?_) fun _ q => q)
  obtain ⟨s, ρ1⟩ := x
  cases s with
  | val y =>
    cases y with
    | bool c =>
      cases (show Rp B.K F1 (.bool c) v from hv)
      refine ⟨c, rfl, ?_⟩
      cases c with
      | true => exact iteT (h' X Φ B F1 H1 ρ1 σ _ W C hK T R1 (wp_mono q (fun y q' v F2 H2 R2 e3 e4 hv => q' v F2 H2 R2 (e1.trans e3) (fun z => by rw [Bool.and_eq_true] at z; exact (e2 z.1).trans (e4 z.2)) hv) (ExP.mono e1)))
      | false => exact iteF (q _ F1 H1 R1 e1 (fun z => by rw [Bool.and_eq_true] at z; exact e2 z.1) (Rp.bl _))
    | _ => exact q.elim
  | _ => exact q.elim
theorem w_of_pt {X : Cx} {op : BoolOp} : PW X (.BoolOp op es pos) (wT X (.BoolOp op es pos)) := ⟨fun wh pins s σ H Q I h => h pins s I⟩
theorem snd_oneT {op : BoolOp} {d : Den} (h : SndT Γ a d p) : SndT Γ (.BoolOp op [a] pos) d p := by
  intro X Φ B F H ρ σ Q W C hK T R hq
  cases op with
  | And => exact PT.w (PW.pt (pw_and1 pt_w)) (h X Φ B F H ρ σ Q W C hK T R hq)
  | Or => exact PT.w (PW.pt (pw_or1 pt_w)) (h X Φ B F H ρ σ Q W C hK T R hq)
theorem snd_andT {d e : Den} {p' : Bool} (h : SndT Γ a d p) (h' : SndT Γ (.BoolOp .And (b :: es) pos) e p') : SndT Γ (.BoolOp .And (a :: b :: es) pos) (dAnd d e) (p && p') := by
  intro X Φ B F H ρ σ Q W C hK T R hq
  refine PT.w (PW.pt (pw_and pt_w w_of_pt)) ?_
  refine h X Φ B F H ρ σ _ W C hK T R (wp_mono (wp_bind (c := d Φ ρ) hq) (fun x q => ?_) fun _ q => q)
  obtain ⟨s, ρ1⟩ := x
  cases s with
  | val y =>
    cases y with
    | bool c =>
      refine ⟨c, rfl, fun F1 H1 R1 e1 e2 => ?_⟩
      cases c with
      | true =>
        exact iteT (h' X Φ B F1 H1 ρ1 σ _ W C hK T R1 (wp_mono q (fun y ⟨c, e, q'⟩ => ⟨c, e, fun F2 H2 R2 e3 e4 => q' F2 H2 R2 (e1.trans e3) fun z => by rw [Bool.and_eq_true] at z; exact (e2 z.1).trans (e4 z.2)⟩) (ExP.mono e1)))
      | false =>
        obtain ⟨c, e, q⟩ := q
        cases e
        exact iteF (q F1 H1 R1 e1 fun z => by rw [Bool.and_eq_true] at z; exact e2 z.1)
    | _ => exact q.elim
  | _ => exact q.elim
theorem snd_orT {d e : Den} {p' : Bool} (h : SndT Γ a d p) (h' : SndT Γ (.BoolOp .Or (b :: es) pos) e p') : SndT Γ (.BoolOp .Or (a :: b :: es) pos) (dOr d e) (p && p') := by
  intro X Φ B F H ρ σ Q W C hK T R hq
  refine PT.w (PW.pt (pw_or pt_w w_of_pt)) ?_
  refine h X Φ B F H ρ σ _ W C hK T R (wp_mono (wp_bind (c := d Φ ρ) hq) (fun x q => ?_) fun _ q => q)
  obtain ⟨s, ρ1⟩ := x
  cases s with
  | val y =>
    cases y with
    | bool c =>
      refine ⟨c, rfl, fun F1 H1 R1 e1 e2 => ?_⟩
      cases c with
      | false =>
        exact iteF (h' X Φ B F1 H1 ρ1 σ _ W C hK T R1 (wp_mono q (fun y ⟨c, e, q'⟩ => ⟨c, e, fun F2 H2 R2 e3 e4 => q' F2 H2 R2 (e1.trans e3) fun z => by rw [Bool.and_eq_true] at z; exact (e2 z.1).trans (e4 z.2)⟩) (ExP.mono e1)))
      | true =>
        obtain ⟨c, e, q⟩ := q
        cases e
        exact iteT (q F1 H1 R1 e1 fun z => by rw [Bool.and_eq_true] at z; exact e2 z.1)
    | _ => exact q.elim
  | _ => exact q.elim
/-- a if t else b -/
def dIf (t a b : Den) : Den := fun Φ ρ => (t Φ ρ).bind fun x => match x.1 with
  | .val (.bool true) => a Φ x.2
  | .val (.bool false) => b Φ x.2
  | _ => .stuck
end
end Dn

/-! Den3: subscripts, slices, chains, built-in calls, methods, isinstance, calls of defs. -/
namespace Dn
open PySem PySem.Spec L2
open PyProof.Rows hiding St

/-! ### what an operand can be -/
section
variable {K : PySem.W.Frag} {F H : Hp} {v : V}
theorem ownIs_no {a : Addr} {o : HO} {s : Slot} {d : PyData} (h : OwnIs K F a o s) (e : s.ice = .val d) : (∃ ds vs, s = .own ds ∧ d = .list ds ∧ o = .lst vs ∧ RpAll K F ds vs) ∨ (∃ t es, s = .odc t es ∧ d = .dict es) := by
  cases s with
  | own ds => obtain ⟨vs, h1, h2⟩ := h; cases e; exact .inl ⟨ds, vs, rfl, rfl, h1, h2⟩
  | odc t es =>
    cases t with
    | true => cases e
    | false => cases e; exact .inr ⟨false, es, rfl, rfl⟩
  | obj _ _ => cases e
  | un => exact h.elim
  | val d => exact h.elim
  | scr ns => exact h.elim
theorem Bp.non (b : Bp K F H .none v) : v = .non := by
  rcases b with b | ⟨a, o, s, h1, h2, h3, h4⟩
  · cases b; rfl
  · rcases ownIs_no h3 h4 with ⟨_, _, _, z, _⟩ | ⟨_, _, _, z⟩ <;> cases z
theorem Bp.bool {k : Bool} (b : Bp K F H (.bool k) v) : v = .bl k := by
  rcases b with b | ⟨a, o, s, h1, h2, h3, h4⟩
  · cases b; rfl
  · rcases ownIs_no h3 h4 with ⟨_, _, _, z, _⟩ | ⟨_, _, _, z⟩ <;> cases z
theorem Bp.int {k : Int} (b : Bp K F H (.int k) v) : v = .int k := by
  rcases b with b | ⟨a, o, s, h1, h2, h3, h4⟩
  · cases b; rfl
  · rcases ownIs_no h3 h4 with ⟨_, _, _, z, _⟩ | ⟨_, _, _, z⟩ <;> cases z
theorem Bp.str {k : Str} (b : Bp K F H (.str k) v) : v = .str k := by
  rcases b with b | ⟨a, o, s, h1, h2, h3, h4⟩
  · cases b; rfl
  · rcases ownIs_no h3 h4 with ⟨_, _, _, z, _⟩ | ⟨_, _, _, z⟩ <;> cases z
theorem Bp.lst {ds : List PyData} (e : Ex F H) (b : Bp K F H (.list ds) v) : ∃ a vs, v = .ref a ∧ H a = some (.lst vs) ∧ RpAll K F ds vs := by
  rcases b with b | ⟨a, o, s, h1, h2, h3, h4⟩
  · cases b with
    | lst h1 h2 => exact ⟨_, _, rfl, e _ _ h1, h2⟩
  · rcases ownIs_no h3 h4 with ⟨_, vs, _, z, z2, z3⟩ | ⟨_, _, _, z⟩
    · cases z; subst z2; exact ⟨a, vs, h1, h2, z3⟩
    · cases z
theorem Bp.tup {ds : List PyData} (b : Bp K F H (.tuple ds) v) : ∃ a o vs, v = .ref a ∧ F a = some (.frz o (.tup vs)) ∧ o.dict = none ∧ RpAll K F ds vs := by
  rcases b with b | ⟨a, o, s, h1, h2, h3, h4⟩
  · cases b with
    | tup h1 h2 h3 => exact ⟨_, _, _, rfl, h1, h2, h3⟩
  · rcases ownIs_no h3 h4 with ⟨_, vs, _, z, z2, z3⟩ | ⟨_, _, _, z⟩ <;> cases z
theorem Bp.rp {d : PyData} (b : Bp K F H d v) (e : Ex F H) : Rp K H d v := by
  rcases b with b | ⟨a, o, s, rfl, h2, h3, h4⟩
  · exact Rp.mono e _ _ b
  · cases s with
    | own ds => obtain ⟨vs, z1, z2⟩ := h3; cases h4; subst z1; exact .lst h2 (z2.mono e)
    | odc t es =>
      cases t with
      | false => obtain ⟨vs, z1, z2⟩ := h3; cases h4; subst z1; exact .dK h2 (z2.mono e)
      | true => cases h4
    | obj _ _ => cases h4
    | un => exact h3.elim
    | val d => exact h3.elim
    | scr ns => exact h3.elim
theorem BpAll.one {d : PyData} {vs : List V} (h : BpAll K F H [d] vs) : ∃ v, vs = [v] ∧ Bp K F H d v := by
  cases h with
  | cons h1 h2 => cases h2; exact ⟨_, rfl, h1⟩
theorem BpAll.two {d e : PyData} {vs : List V} (h : BpAll K F H [d, e] vs) : ∃ v w, vs = [v, w] ∧ Bp K F H d v ∧ Bp K F H e w := by
  cases h with
  | cons h1 h2 =>
    obtain ⟨w, rfl, h3⟩ := h2.one
    exact ⟨_, w, rfl, h1, h3⟩
end

section
variable {Γ : Ctx} {f : Prim} {d : DenOs} {p : Bool} {pos apos ppos : Pos} {a b c : Expr} {es : List Expr}
/-! ### subscripts -/
def notSlice : Expr → Bool
  | .Slice _ _ _ _ => false
  | _ => true
theorem plainIx {b : Expr} (h : notSlice b = true) : PlainIx b := by
  intro o i
  cases b <;> first | rfl | cases h
theorem snd_ix {r : PySem.W.Frag → R2} (ho : ∀ (X : Cx), IxR X (r X.K)) (hr : ∀ K, Rule K (rr2 (r K)) f) (h : SndOs Γ [a, b] d p) (hb : notSlice b = true) : SndE Γ (.Subscript a b pos) (dP f d) p := by
  intro X Φ B F H ρ σ Q W C hK T R hq
  exact PE.w (pe_ix (ho X) pe_w pe_w (plainIx hb)) (two_w (ops_run (r := fun K => rr2 (r K)) hr h C hK T R hq))
/-- an item of the script -/
def dScrAt (i : Nat) (e : DenO) : Den := fun Φ ρ => match ρ[i]? with
  | some (.scr ns) => (e Φ ρ).bind fun x => match x.1 with
    | .int k => (opt (atI ns k)).bind fun n => .ok (.val (.int n), x.2)
    | _ => .stuck
  | _ => .stuck
theorem snd_scrAt {i : Nat} {x : Str} {xpos : Pos} {e : DenO} {m : Bool} (hN : Γ.N[i]? = some x) (hv : visB Γ.sc x = true) (hx : okName x = true) (h : SndO Γ b e p m) (hb : notSlice b = true) : SndE Γ (.Subscript (.Name x xpos) b pos) (dScrAt i e) p := by
  intro X Φ B F H ρ σ Q W C hK T R hq
  have P : PE X (.Name x xpos) (tVar i) := pe_var (by rw [C.nm]; exact hN) (by rw [C.sc]; exact vis_of hv) (okName_d hx) (okName_c hx)
  unfold dScrAt at hq
  cases e1 : ρ[i]? with
  | none => rw [e1] at hq; exact hq.elim
  | some s =>
    rw [e1] at hq
    cases s with
    | scr ns =>
      obtain ⟨l, e2, e3⟩ := R.sl.scr i ns e1
      refine PE.w (pe_ix ix_list P pe_w (plainIx hb)) ⟨_, e2, ?_⟩
      refine h X Φ B F H ρ σ _ W C hK T R (wp_mono (wp_bind (c := e Φ ρ) hq) (fun y q v F1 H1 R1 g1 g2 hv => ?_) fun _ q => q)
      obtain ⟨y, ρ1⟩ := y
      cases y with
      | int k =>
        have ev : v = .int k := hv.bp.int
        subst ev
        replace q : ((opt (atI ns k)).bind fun n => Out.ok (Slot.val (PyData.int n), ρ1)).wp (EvP B F H σ p Q) (ExP X B F σ W) := q
        cases g : atI ns k with
        | none => rw [g] at q; exact q.elim
        | some n =>
          rw [g] at q
          refine ⟨l, _, k, .int n, rfl, rfl, R1.kept.ex.sqL (g1.sqL (hK ▸ e3)), ?_, q _ F1 H1 R1 g1 g2 (Rp.int n)⟩
          unfold atI at g ⊢
          rw [List.length_map]
          cases z : ixN ns.length k with
          | none => rw [z] at g; cases g
          | some j =>
            rw [z] at g
            show (ns.map V.int)[j]? = _
            rw [List.getElem?_map, show ns[j]? = some n from g]
            rfl
      | _ => exact q.elim
    | _ => exact hq.elim
/-- the script's length -/
def dScrLen (i : Nat) : Den := fun _ ρ => match ρ[i]? with
  | some (.scr ns) => .ok (.val (.int ns.length), ρ)
  | _ => .stuck
theorem snd_scrLen {i : Nat} {x : Str} {xpos fpos : Pos} (hN : Γ.N[i]? = some x) (hv : visB Γ.sc x = true) (hx : okName x = true) (hg : Γ.sc.names.lookup ("len" : Str) = some .globalImplicit) (hf : ("len" : Str) ∈ Γ.blts) :
    SndE Γ (.Call (.Name "len" fpos) [.Name x xpos] [] pos) (dScrLen i) true := by
  intro X Φ B F H ρ σ Q W C hK T R hq
  have P : PE X (.Name x xpos) (tVar i) := pe_var (by rw [C.nm]; exact hN) (by rw [C.sc]; exact vis_of hv) (okName_d hx) (okName_c hx)
  unfold dScrLen at hq
  cases e1 : ρ[i]? with
  | none => rw [e1] at hq; exact hq.elim
  | some s =>
    rw [e1] at hq
    cases s with
    | scr ns =>
      obtain ⟨l, e2, e3⟩ := R.sl.scr i ns e1
      refine PE.w (pe_callB call_len_seq (by show X.env.scope.names.lookup ("len" : Str) = _; rw [C.sc]; exact hg) (C.blt _ hf) PySem.boot_len (pa_cons P pa_nil)) ⟨_, e2, l, _, rfl, .inl (R.kept.ex.sqL (hK ▸ e3)), ?_⟩
      have := hq (.int (ns.map V.int).length) F H R (.refl F) (fun _ => .refl H) (by rw [List.length_map]; exact Rp.int _)
      exact this
    | _ => exact hq.elim
/-! ### slices -/
def oPart (d : Option DenO) : Calls → Env → Out (Option Int × Env) := fun Φ ρ => match d with
  | none => .ok (none, ρ)
  | some d => (d Φ ρ).bind fun x => match x.1 with
    | .int k => .ok (some k, x.2)
    | _ => .stuck
def tO (X : Cx) : Option Expr → TO
  | none => tNoPart
  | some e => tPart (wE X e)
theorem po_w {X : Cx} : ∀ {e : Option Expr}, PO X e (tO X e)
  | none => po_none
  | some _ => po_some pe_w
def SndP (Γ : Ctx) (e : Option Expr) (d : Option DenO) (p : Bool) : Prop := ∀ (X : Cx) (Φ : Calls) (B : Bd) (F H : Hp) (ρ : Env) (σ : St) (Q : Option Int → Hp → Prop) (W : WX), CtxOk Γ Φ X → B.K = X.K → L2N.Takes X W → Rel B F H ρ σ →
  (oPart d Φ ρ).wp (fun r => ∀ F' H', Rel B F' H' r.2 σ → Ex F F' → (p = true → Ex H H') → Q r.1 H') (ExP X B F σ W) → tO X e σ H Q
theorem snd_part0 : SndP Γ none none true := fun X Φ B F H ρ σ Q W C hK T R h => h F H R (.refl F) fun _ => .refl H
theorem snd_part1 {d : DenO} {m : Bool} (h : SndO Γ a d p m) : SndP Γ (some a) (some d) p := by
  intro X Φ B F H ρ σ Q W C hK T R hq
  refine h X Φ B F H ρ σ _ W C hK T R (wp_mono (wp_bind (c := d Φ ρ) hq) (fun y q v F1 H1 R1 g1 g2 hv => ?_) fun _ q => q)
  obtain ⟨y, ρ1⟩ := y
  cases y with
  | int k => exact ⟨k, hv.bp.int, q F1 H1 R1 g1 g2⟩
  | _ => exact q.elim
def dSl (f : PyData → Option Int → Option Int → Option Slot) (a : DenO) (lo hi : Option DenO) : Den := fun Φ ρ => (a Φ ρ).bind fun x => (oPart lo Φ x.2).bind fun l => (oPart hi Φ l.2).bind fun u => (opt (f x.1 l.1 u.1)).bind fun s => .ok (s, u.2)
def RuleS (K : PySem.W.Frag) (r : V → Option Int → Option Int → Hp → VK → Prop) (f : PyData → Option Int → Option Int → Option Slot) : Prop := ∀ (F H : Hp) (x : PyData) (v : V) (l u : Option Int) (Q : VK) (s : Slot), Ex F H → Bp K F H x v → f x l u = some s → PQ K F H Q s → r v l u H Q
theorem snd_slice {g : PyData → Option Int → Option Int → Option Slot} {r : PySem.W.Frag → V → Option Int → Option Int → Hp → VK → Prop} {lo hi : Option Expr} {x : DenO} {l u : Option DenO} {m p1 p2 : Bool} (ho : ∀ (X : Cx), SlR X (r X.K)) (hr : ∀ K, RuleS K (r K) g)
    (ha : SndO Γ a x p m) (hl : SndP Γ lo l p1) (hu : SndP Γ hi u p2) (hp : ((p1 && p2) || !m) = true) : SndE Γ (.Subscript a (.Slice lo hi none ppos) pos) (dSl g x l u) (p && (p1 && p2)) := by
  intro X Φ B F H ρ σ Q W C hK T R hq
  refine PE.w (pe_slice (ho X) pe_w po_w po_w) ?_
  refine ha X Φ B F H ρ σ _ W C hK T R (wp_mono (wp_bind (c := x Φ ρ) hq) (fun y q v F1 H1 R1 e1 e2 hv => ?_) fun _ q => q)
  refine hl X Φ B F1 H1 y.2 σ _ W C hK T R1 (wp_mono (wp_bind (c := oPart l Φ y.2) q) (fun z q F2 H2 R2 e3 e4 => ?_) (ExP.mono e1))
  refine hu X Φ B F2 H2 z.2 σ _ W C hK T R2 (wp_mono (wp_bind (c := oPart u Φ z.2) q) (fun z' q F3 H3 R3 e5 e6 => ?_) (ExP.mono (e1.trans e3)))
  cases g' : g y.1 z.1 z'.1 with
  | none => rw [g'] at q; exact q.elim
  | some s =>
    rw [g'] at q
    rw [← hK]
    refine hr B.K F3 H3 y.1 v z.1 z'.1 Q s R3.kept.ex (Vp.bp (m := m) (hv.mono (e3.trans e5) fun hm => ?_)) g' (pq_of R3 ((e1.trans e3).trans e5) (fun hp' => ?_) q)
    · rw [hm] at hp
      simp only [Bool.not_true, Bool.or_false, Bool.and_eq_true] at hp
      exact (e4 hp.1).trans (e6 hp.2)
    · simp only [Bool.and_eq_true] at hp'
      exact ((e2 hp'.1).trans (e4 hp'.2.1)).trans (e6 hp'.2.2)
/-! ### a < b < c, whole numbers -/
def dCh (f g : Int → Int → Bool) (a b c : DenO) : Den := fun Φ ρ => (a Φ ρ).bind fun x => (b Φ x.2).bind fun y => match x.1, y.1 with
  | .int i, .int j => if f i j then (c Φ y.2).bind fun z => match z.1 with
      | .int k => .ok (.val (.bool (g j k)), z.2)
      | _ => .stuck
    else .ok (.val (.bool false), y.2)
  | _, _ => .stuck
def IntCmp (op : CmpOp) (f : Int → Int → Bool) : Prop := ∀ X : Cx, OpR X (compareOp op) (rI0 fun i j => .bl (f i j))
theorem lastM {op op' : CmpOp} {b c : Expr} (h : notSet c = true) : lastMarks [op, op'] [b, c] = false := nomark' (op := op') h
theorem ch_run {op op' : CmpOp} {f g : Int → Int → Bool} {x y z : DenO} {m1 m2 m3 p1 p2 p3 : Bool} {X : Cx} {Φ : Calls} {B : Bd} {F H : Hp} {ρ : Env} {σ : St} {Q : VK} {W : WX}
    (ha : SndO Γ a x p1 m1) (hb : SndO Γ b y p2 m2) (hc : SndO Γ c z p3 m3) (C : CtxOk Γ Φ X) (hK : B.K = X.K) (T : L2N.Takes X W) (R : Rel B F H ρ σ) (hq : (dCh f g x y z Φ ρ).wp (EvP B F H σ (p1 && (p2 && p3)) Q) (ExP X B F σ W)) :
    tChain (rI0 fun i j => .bl (f i j)) (rI0 fun i j => .bl (g i j)) (wE X a) (wE X b) (wE X c) σ H Q := by
  refine ha X Φ B F H ρ σ _ W C hK T R (wp_mono (wp_bind (c := x Φ ρ) hq) (fun u q v F1 H1 R1 e1 e2 hv => ?_) fun _ q => q)
  refine hb X Φ B F1 H1 u.2 σ _ W C hK T R1 (wp_mono (wp_bind (c := y Φ u.2) q) (fun u' q w F2 H2 R2 e3 e4 hw => ?_) (ExP.mono e1))
  obtain ⟨u, ρ1⟩ := u
  obtain ⟨u', ρ2⟩ := u'
  cases u with
  | int i =>
    cases u' with
    | int j =>
      have q : (if f i j then (z Φ ρ2).bind fun z => match z.1 with
        | .int k => .ok (.val (.bool (g j k)), z.2)
        | _ => .stuck
       else .ok (.val (.bool false), ρ2) : Out (Slot × Env)).wp (EvP B F H σ (p1 && (p2 && p3)) Q) (ExP X B F σ W) := q
      refine ⟨i, j, hv.bp.int, hw.bp.int, _, rfl, ?_⟩
      cases k : f i j with
      | true =>
        rw [k, if_pos rfl] at q
        refine iteT (hc X Φ B F2 H2 ρ2 σ _ W C hK T R2 (wp_mono (wp_bind (c := z Φ ρ2) q) (fun s q w' F3 H3 R3 e5 e6 hw' => ?_) (ExP.mono (e1.trans e3))))
        obtain ⟨s, ρ3⟩ := s
        cases s with
        | int l =>
          refine ⟨j, l, hw.bp.int, hw'.bp.int, q _ F3 H3 R3 ((e1.trans e3).trans e5) (fun h => ?_) (Rp.bl _)⟩
          simp only [Bool.and_eq_true] at h
          exact ((e2 h.1).trans (e4 h.2.1)).trans (e6 h.2.2)
        | _ => exact q.elim
      | false =>
        rw [k, if_neg Bool.false_ne_true] at q
        refine iteF (q _ F2 H2 R2 (e1.trans e3) (fun h => ?_) (Rp.bl _))
        simp only [Bool.and_eq_true] at h
        exact (e2 h.1).trans (e4 h.2.1)
    | _ => exact q.elim
  | _ => exact q.elim
theorem snd_chain {op op' : CmpOp} {f g : Int → Int → Bool} {x y z : DenO} {m1 m2 m3 p1 p2 p3 : Bool} (ho : IntCmp op f) (ho' : IntCmp op' g) (ha : SndO Γ a x p1 m1) (hb : SndO Γ b y p2 m2) (hc : SndO Γ c z p3 m3) (hs : notSet c = true) : SndE Γ (.Compare a [op, op'] [b, c] pos) (dCh f g x y z) (p1 && (p2 && p3)) := by
  intro X Φ B F H ρ σ Q W C hK T R hq
  exact PE.w (pe_chain (ho X) (ho' X) pe_w pe_w pe_w (lastM hs)) (ch_run (op := op) (op' := op') ha hb hc C hK T R hq)
theorem snd_chainT {op op' : CmpOp} {f g : Int → Int → Bool} {x y z : DenO} {m1 m2 m3 p1 p2 p3 : Bool} (ho : IntCmp op f) (ho' : IntCmp op' g) (ha : SndO Γ a x p1 m1) (hb : SndO Γ b y p2 m2) (hc : SndO Γ c z p3 m3) (hs : notSet c = true) : SndT Γ (.Compare a [op, op'] [b, c] pos) (dCh f g x y z) (p1 && (p2 && p3)) := by
  intro X Φ B F H ρ σ Q W C hK T R hq
  refine PT.w (pt_chain (ho X) (ho' X) pe_w pe_w pe_w (lastM hs)) ?_
  exact ch_run (op := op) (op' := op') ha hb hc C hK T R (wp_mono hq (fun _ z => evp_test z) fun _ z => z)
/-! ### built-ins by their names -/
theorem gl_of {X : Cx} {Φ : Calls} {x : Str} (C : CtxOk Γ Φ X) (hg : Γ.sc.names.lookup x = some .globalImplicit) : Gl X x := by
  show X.env.scope.names.lookup x = _
  rw [C.sc]
  exact hg
theorem snd_callB {id : String} {x : Str} {fpos : Pos} {r : PySem.W.Frag → List V → Hp → VK → Prop} (ho : ∀ (X : Cx), X.calm = true → Room 0 X.A → CallR X (.builtin id) (r X.K)) (hr : ∀ K, Rule K (r K) f) (hv : bootBuiltins x = some (.builtin id)) (h : SndOs Γ (a :: es) d p)
    (he : (a :: es).all plainE = true) (hg : Γ.sc.names.lookup x = some .globalImplicit) (hf : x ∈ Γ.blts) (hx : okName x = true) : SndE Γ (.Call (.Name x fpos) (a :: es) [] pos) (dP f d) p := by
  intro X Φ B F H ρ σ Q W C hK T R hq
  have he' := he
  rw [List.all_cons, Bool.and_eq_true] at he'
  exact PE.w (pe_callB (ho X C.calm C.room) (gl_of C hg) (C.blt _ hf) hv (pa_ws he) (okName_n hx) (okName_d hx) (star_of he'.1) (plain_any he'.2)) (ops_run (r := r) hr h C hK T R hq)
theorem snd_callTy {id : String} {x : Str} {fpos : Pos} {r : PySem.W.Frag → List V → Hp → VK → Prop} (ho : ∀ (X : Cx), X.calm = true → Room 0 X.A → CallR X (.type id) (r X.K)) (hr : ∀ K, Rule K (r K) f) (hv : bootBuiltins x = some (.type id)) (h : SndOs Γ (a :: es) d p)
    (he : (a :: es).all plainE = true) (hg : Γ.sc.names.lookup x = some .globalImplicit) (hf : x ∈ Γ.blts) (hx : okName x = true) : SndE Γ (.Call (.Name x fpos) (a :: es) [] pos) (dP f d) p := by
  intro X Φ B F H ρ σ Q W C hK T R hq
  have he' := he
  rw [List.all_cons, Bool.and_eq_true] at he'
  exact PE.w (pe_callTy (ho X C.calm C.room) (gl_of C hg) (C.blt _ hf) hv (pa_ws he) (okName_n hx) (okName_d hx) (star_of he'.1) (plain_any he'.2)) (ops_run (r := r) hr h C hK T R hq)
/-- isinstance(e, T) -/
def isT (T : String) : PyData → Bool
  | .none => T == "NoneType"
  | .bool _ => T == "bool" || T == "int"
  | .int _ => T == "int"
  | .str _ => T == "str"
  | .list _ => T == "list"
  | .tuple _ => T == "tuple"
  | .dict _ => T == "dict"
def pIs (T : String) : Prim
  | [x] => some (.val (.bool (isT T x)))
  | _ => none
/-- the type of a value, by what it is -/
def tyD : PyData → String
  | .none => "NoneType"
  | .bool _ => "bool"
  | .int _ => "int"
  | .str _ => "str"
  | .list _ => "list"
  | .tuple _ => "tuple"
  | .dict _ => "dict"
theorem tyX_of {K : PySem.W.Frag} {F H : Hp} {x : PyData} {v : V} (e : Ex F H) (h : Bp K F H x v) : TyX K H v (.type (tyD x)) := by
  have r := h.rp e
  cases x with
  | none => cases r; exact .base .non
  | bool b => cases r; exact .base (.bl b)
  | int i => cases r; exact .base (.int i)
  | str s => cases r; exact .base (.str s)
  | list ds => cases r with | lst h1 _ => exact .base (.lst h1)
  | tuple ds =>
    cases r with
    | tup h1 _ _ => exact .fTuple h1
  | dict es =>
    cases r with
    | dK h1 _ => exact .base (.dK h1)
    | dT h1 _ => exact .fDict h1
def isTs : List String := ["int", "bool", "str", "list", "tuple"]
theorem kit_all : (["NoneType", "bool", "int", "str", "list", "tuple", "dict"] : List String).all (fun a => isTs.all fun b => kitB a b == some (if a == "bool" then b == "bool" || b == "int" else b == a)) = true := by decide +kernel
theorem kit_is {K : PySem.W.Frag} {T : String} (hT : T ∈ isTs) (x : PyData) : PySem.W.kitOne K (.type (tyD x)) (.type T) = some (isT T x) := by
  refine kit_ty ?_
  have h := List.all_eq_true.mp kit_all
  have g : ∀ a ∈ (["NoneType", "bool", "int", "str", "list", "tuple", "dict"] : List String), kitB a T = some (if a == "bool" then T == "bool" || T == "int" else T == a) := fun a ha =>
    beq_iff_eq.mp (List.all_eq_true.mp (h a ha) T hT)
  cases x with
  | none => rw [show tyD .none = "NoneType" from rfl, g _ (by simp)]; rw [show isT T .none = (T == "NoneType") from rfl]; rfl
  | bool b => rw [show tyD (.bool b) = "bool" from rfl, g _ (by simp)]; rfl
  | int b => rw [show tyD (.int b) = "int" from rfl, g _ (by simp)]; rw [show isT T (.int b) = (T == "int") from rfl]; rfl
  | str b => rw [show tyD (.str b) = "str" from rfl, g _ (by simp)]; rw [show isT T (.str b) = (T == "str") from rfl]; rfl
  | list b => rw [show tyD (.list b) = "list" from rfl, g _ (by simp)]; rw [show isT T (.list b) = (T == "list") from rfl]; rfl
  | tuple b => rw [show tyD (.tuple b) = "tuple" from rfl, g _ (by simp)]; rw [show isT T (.tuple b) = (T == "tuple") from rfl]; rfl
  | dict b => rw [show tyD (.dict b) = "dict" from rfl, g _ (by simp)]; rw [show isT T (.dict b) = (T == "dict") from rfl]; rfl
theorem boot_isinstance' : bootBuiltins "isinstance" = some (.builtin "isinstance") := by decide +kernel
theorem snd_isi {T : String} {x : Str} {fpos tpos : Pos} (hT : T ∈ isTs) (hv : bootBuiltins x = some (.type T)) (h : SndOs Γ [a] d p)
    (he : plainE a = true) (hg : Γ.sc.names.lookup ("isinstance" : Str) = some .globalImplicit) (hf : ("isinstance" : Str) ∈ Γ.blts) (hg2 : Γ.sc.names.lookup x = some .globalImplicit) (hf2 : x ∈ Γ.blts) (hx : okName x = true) :
    SndE Γ (.Call (.Name "isinstance" fpos) [a, .Name x tpos] [] pos) (dP (pIs T) d) p := by
  intro X Φ B F H ρ σ Q W C hK Tk R hq
  have PT : PE X (.Name x tpos) (tC (.ty T)) := pe_bltn (v := .ty T) (gl_of C hg2) (C.blt _ hf2) hv rfl (okName_n hx) (okName_d hx)
  refine PE.w (pe_callB call_isi (gl_of C hg) (C.blt _ hf) boot_isinstance' (pa_cons pe_w (pa_cons PT pa_nil) (star_of he)) (he := star_of he)) ?_
  have run := ops_run (f := pIs T) (r := fun K vs H Q => ∃ x, vs = [x] ∧ rIsi K [x, .ty T] H Q) (fun K F H ds vs Q s e hb hs q => by
    cases hb with
    | nil => cases hs
    | cons h1 h2 =>
      cases h2 with
      | nil =>
        cases hs
        exact ⟨_, rfl, _, _, _, _, _, rfl, .ty T, tyX_of e h1, kit_is hT _, q _ F H (.refl e) (Rp.bl _)⟩
      | cons _ _ => cases hs) h C hK Tk R hq
  exact wE.mono run fun v H1 ⟨x, e, q⟩ => by cases e; exact q
/-! ### methods that read -/
def notCall : Expr → Bool
  | .Call _ _ _ _ => false
  | _ => true
theorem base_of {o : Expr} {n : Str} {env : PySem.Env} {w : Sem Value} (h : notCall o = true) : attributeBase o n env w = w := by
  unfold attributeBase
  cases o <;> first | rfl | cases h
theorem few_of {cpos : Pos} {env : PySem.Env} {es : List Expr} (h : es.all plainE = true) (hl : es.length < 20) : ((backTo cpos (starEach es env)).all (fun x => !x.1) && (backToKw cpos (keywordEach [] env)).all (fun x => x.1.isSome)
      && decide (es.length + ([] : List Keyword).length + (if ([] : List Keyword).isEmpty then 0 else 1) < 30)) = true := by
  have h1 : (backTo cpos (starEach es env)).all (fun x => !x.1) = true := by
    have z := plain_any (pos := cpos) (env := env) h
    rw [List.any_eq_false] at z
    rw [List.all_eq_true]
    intro x hx
    have := z x hx
    simpa using this
  have h2 : decide (es.length + ([] : List Keyword).length + (if ([] : List Keyword).isEmpty then 0 else 1) < 30) = true := by
    apply decide_eq_true
    show es.length + 0 + 0 < 30
    omega
  rw [h1, h2]
  rfl
/-- the receiver's type, its dict none -/
def tyW (K : PySem.W.Frag) (T : String) (x : V) (H : Hp) : Prop := tyV K T x H ∨ (T = "tuple" ∧ ∃ p o xs, x = .ref p ∧ H p = some (.frz o (.tup xs)) ∧ o.dict = none)
theorem tyW_is {X : Cx} {pins : List (Addr × Obj)} {σ : St} {H : Hp} {s : Shared} {T : String} {x : V} {v : Value} (I : Inv X pins σ H s) (r : RelV x v) (ty : tyW X.K T x H) :
    s.TypeIs v T ∧ ∀ a, v = .ref a → ∃ ob, s.heap.get? a = some ob ∧ ob.dict = none := by
  rcases ty with ty | ⟨rfl, p, o, xs, rfl, h1, h2⟩
  · exact tyV_is I r ty
  · cases r
    obtain ⟨g, _, its, rv, o', g', c, _⟩ := (show ObjOk X.prog X.w H s.heap p (.frz o (.tup xs)) from I.hok p _ h1)
    rw [g] at g'
    cases g'
    exact ⟨⟨o, g, c⟩, fun a e => by cases e; exact ⟨o, g, h2⟩⟩
def tBMW (K : PySem.W.Frag) (T : String) (r : V → List V → Hp → VK → Prop) (to : TE) (t : TA) : TE := fun σ H Q => to σ H fun x H1 => tyW K T x H1 ∧ t σ H1 fun xs H2 => r x xs H2 Q
theorem pe_bmW {X : Cx} {o e : Expr} {to : TE} {t : TA} {name : Str} {cpos : Pos} {T id : String} {r : V → List V → Hp → VK → Prop} (pa : PlainAttrs T) (slot : PySem.Slot T name id) (hty : typeOf (.builtin id) = pure (.type "method_descriptor")) (hm : MtR X id r) (ho : PE X o to) (ha : PA X (e :: es) t)
    (hbase : attributeBase o name X.env (eval o X.env) = eval o X.env)
    (hfew : ((backTo cpos (starEach (e :: es) X.env)).all (fun x => !x.1) && (backToKw cpos (keywordEach [] X.env)).all (fun x => x.1.isSome)
      && decide ((e :: es).length + ([] : List Keyword).length + (if ([] : List Keyword).isEmpty then 0 else 1) < 30)) = true)
    (hline : (apos.endLine == cpos.line) = true) (hs : starEach (e :: es) X.env = (false, eval e X.env) :: starEach es X.env) (hplain : (backTo cpos (starEach es X.env)).any (·.1) = false) :
    PE X (.Call (.Attribute o name apos) (e :: es) [] cpos) (tBMW X.K T r to t) := by
  refine ⟨fun pins s σ H Q I h => ?_⟩
  refine wpAny_Call_method_late hbase hfew hline rfl (thn (ho.run pins s σ H _ I h) fun v s1 ⟨x, H1, I1, r1, ty, q1⟩ => ?_)
  obtain ⟨h1, h2⟩ := tyW_is I1 r1 ty
  refine ⟨T, id, pa, slot, hty, h1, h2, ?_⟩
  have hA := ha.run cpos pins s1 σ H1 _ I1 q1
  rw [hs] at hA ⊢
  refine Calls.callWith_builtin (by show (false || (backTo cpos (starEach es X.env)).any (·.1)) = false; rw [hplain] <;> rfl) (Calls.evalArgs_plain ?_)
  exact thn hA fun us s2 ⟨vs, H2, I2, r2, q2⟩ => hm pins s2 σ H2 x vs v us Q I2 r1 r2 q2
theorem tyW_of {K : PySem.W.Frag} {F H : Hp} {x : PyData} {v : V} {T : String} (e : Ex F H) (h : Bp K F H x v) (ht : tyD x = T) (hn : (["int", "str", "list", "tuple"] : List String).contains T = true) : tyW K T v H := by
  have r := h.rp e
  subst ht
  cases x with
  | none => simp [tyD] at hn
  | bool b => simp [tyD] at hn
  | int i => cases r; exact .inl rfl
  | str s => cases r; exact .inl rfl
  | list ds => cases r with | lst h1 _ => exact .inl (.inl ⟨rfl, _, .inl (.inl h1)⟩)
  | tuple ds => cases r with | tup h1 h2 _ => exact .inr ⟨rfl, _, _, _, rfl, h1, h2⟩
  | dict es => simp [tyD] at hn
/-- o.m(e, ..): a built-in type's method that changes nothing; T the receiver's type -/
def dM (T : String) (f : Prim) (x : DenO) (ds : DenOs) : Den := fun Φ ρ => (x Φ ρ).bind fun o => guard' (tyD o.1 == T) ((ds Φ o.2).bind fun a => (opt (f (o.1 :: a.1))).bind fun s => .ok (s, a.2))
theorem snd_meth {T id : String} {m : Str} {r : PySem.W.Frag → V → List V → Hp → VK → Prop} {x : DenO} {pm : Bool} {p' : Bool} {o : Expr} (pa : PlainAttrs T) (slot : PySem.Slot T m id) (hty : typeOf (.builtin id) = pure (.type "method_descriptor"))
    (ho : ∀ (X : Cx), X.calm = true → Room 0 X.A → MtR X id (r X.K)) (hr : ∀ K, Rule K (rrm (r K)) f) (hT : (["int", "str", "list", "tuple"] : List String).contains T = true) (h1 : SndO Γ o x p pm) (h2 : SndOs Γ (a :: es) d p') (hp : (p' || !pm) = true)
    (he : (a :: es).all plainE = true) (hl : (a :: es).length < 20) (hc : notCall o = true) (hline : (apos.endLine == pos.line) = true) : SndE Γ (.Call (.Attribute o m apos) (a :: es) [] pos) (dM T f x d) (p && p') := by
  intro X Φ B F H ρ σ Q W C hK Tk R hq
  have he' := he
  rw [List.all_cons, Bool.and_eq_true] at he'
  refine PE.w (pe_bmW pa slot hty (ho X C.calm C.room) pe_w (pa_ws he) (base_of hc) (few_of he hl) hline (star_of he'.1) (plain_any he'.2)) ?_
  refine h1 X Φ B F H ρ σ _ W C hK Tk R (wp_mono (wp_bind (c := x Φ ρ) hq) (fun y q v F1 H1 R1 e1 e2 hv => ?_) fun _ q => q)
  obtain ⟨ht, q⟩ := wp_guard q
  refine ⟨tyW_of R1.kept.ex hv.bp (beq_iff_eq.mp ht) hT |> fun z => hK ▸ z, ?_⟩
  refine h2 X Φ B F1 H1 y.2 σ _ W C hK Tk R1 (wp_mono (wp_bind (c := d Φ y.2) q) (fun z q vs F2 H2 R2 e3 e4 hvs => ?_) (ExP.mono e1))
  cases g : f (y.1 :: z.1) with
  | none =>
    replace q : ((opt (f (y.1 :: z.1))).bind fun s => Out.ok (s, z.2)).wp (EvP B F H σ (p && p') Q) (ExP X B F σ W) := q
    rw [g] at q; exact q.elim
  | some s =>
    replace q : ((opt (f (y.1 :: z.1))).bind fun s => Out.ok (s, z.2)).wp (EvP B F H σ (p && p') Q) (ExP X B F σ W) := q
    rw [g] at q
    have := hr B.K F2 H2 (y.1 :: z.1) (v :: vs) Q s R2.kept.ex (.cons (Vp.bp (m := pm) (hv.mono e3 fun hm => ?_)) hvs) g (pq_of R2 (e1.trans e3) (fun hp' => ?_) q)
    · obtain ⟨x', xs', e, q⟩ := this
      cases e
      rw [← hK]
      exact q
    · rw [hm] at hp
      simp only [Bool.not_true, Bool.or_false] at hp
      exact e4 hp
    · simp only [Bool.and_eq_true] at hp'
      exact (e2 hp'.1).trans (e4 hp'.2)

/-! ### calls of defs -/
/-- one argument: where it comes from (a slot that is lent), what it is -/
abbrev DenA := Calls → Env → Out (List (Option Nat × Slot) × Env)
def asNil : DenA := fun _ ρ => .ok ([], ρ)
/-- a name: what it owns is lent -/
def asVar (i : Nat) (r : DenA) : DenA := fun Φ ρ => match ρ[i]? with
  | some (.val d) => (r Φ ρ).bind fun y => .ok ((none, .val d) :: y.1, y.2)
  | some (.scr ns) => (r Φ ρ).bind fun y => .ok ((none, .scr ns) :: y.1, y.2)
  | some (.own ds) => (r Φ (ρ.set i .un)).bind fun y => .ok ((some i, .own ds) :: y.1, y.2)
  | some (.odc t es) => (r Φ (ρ.set i .un)).bind fun y => .ok ((some i, .odc t es) :: y.1, y.2)
  | some (.obj k ds) => (r Φ (ρ.set i .un)).bind fun y => .ok ((some i, .obj k ds) :: y.1, y.2)
  | _ => .stuck
def asExp (d : Den) (r : DenA) : DenA := fun Φ ρ => (d Φ ρ).bind fun x => (r Φ x.2).bind fun y => .ok ((none, x.1) :: y.1, y.2)
/-- lent things come back -/
def giveBack : List (Option Nat × Slot) → List Slot → Env → Env
  | (some i, _) :: as, s :: ss, ρ => giveBack as ss (ρ.set i s)
  | (none, _) :: as, _ :: ss, ρ => giveBack as ss ρ
  | _, _, ρ => ρ
def dCall (x : Str) (n : Nat) (as : DenA) : Den := fun Φ ρ => (as Φ ρ).bind fun y => guard' (y.1.length == n) ((Φ x (y.1.map (·.2))).bind fun r => guard' (r.2.length == n) (.ok (r.1, giveBack y.1 r.2 y.2)))
end
end Dn

/-! Den4: calls of defs. -/
namespace Dn
open PySem PySem.Spec L2
open PyProof.Rows hiding St

/-! ### another ground -/
/-- the addresses that slots own -/
def ownedI (ρ : Env) (σ : St) : Nat → Addr → Prop := fun i a => ∃ t : Slot, ρ[i]? = some t ∧ t.isOwn = true ∧ σ[i]? = some (some (.ref a))
def owned (ρ : Env) (σ : St) : Addr → Prop := fun a => ∃ (i : Nat) (t : Slot), ρ[i]? = some t ∧ t.isOwn = true ∧ σ[i]? = some (some (.ref a))
def Bd.re (B : Bd) (F H : Hp) (ρ : Env) (σ : St) : Bd := ⟨B.K, F, H, ownedI ρ σ, B.vs⟩
section
variable {B : Bd} {F H F' H' : Hp} {ρ ρ' : Env} {σ : St} {L : Nat → Addr → Prop} {us : List V} {X : Cx} {W : WX}
theorem Kept.trans (k : Kept B F H) (k' : Kept ⟨B.K, F, H, L, us⟩ F' H') (hL : ∀ a, (∃ i, L i a) → B.La a ∨ B.H0 a = none) : Kept B F' H' := by
  have no : ∀ {a : Addr}, B.H0 a ≠ none → ¬ B.La a → ¬ ∃ i, L i a := fun {a} h1 h2 h3 => by
    rcases hL a h3 with z | z
    · exact h2 z
    · exact h1 z
  refine ⟨k.ff.trans k'.ff, k'.ex, fun a o h n => k'.keep a o (k.keep a o h n) (no (by rw [h]; exact fun z => by cases z) n), fun a h1 h2 h3 => k'.nof a (k.live a h1) (k.nof a h1 h2 h3) (no h1 h3), fun a h => k'.live a (k.live a h)⟩
theorem Rel.re (k : Rel B F H ρ σ) : Rel (B.re F H ρ σ) F H ρ σ := by
  refine ⟨⟨.refl F, k.kept.ex, fun _ _ h _ => h, fun _ _ h _ => h, fun _ h => h⟩, ⟨k.sl.len, k.sl.val, k.sl.scr, fun i s h hs => ?_, k.sl.par, k.sl.dis⟩⟩
  obtain ⟨a, o, h1, h2, h3, h4, h5⟩ := k.sl.own i s h hs
  exact ⟨a, o, h1, h2, h3, h4, .inl ⟨s, h, hs, h1⟩⟩
theorem Rel.lentI (k : Rel B F H ρ σ) : ∀ i a, ownedI ρ σ i a → B.L i a ∨ B.H0 a = none := fun i a ⟨t, h1, h2, h3⟩ => by
  obtain ⟨b, o, g1, _, _, _, g5⟩ := k.sl.own i t h1 h2
  rw [h3] at g1
  cases g1
  exact g5
theorem Rel.lents (k : Rel B F H ρ σ) : ∀ a, owned ρ σ a → B.La a ∨ B.H0 a = none := fun a ⟨i, t, h1, h2, h3⟩ => (k.lentI i a ⟨t, h1, h2, h3⟩).imp (fun z => ⟨i, z⟩) id
theorem Kept.old (k : Kept B F H) {a : Addr} (h : H a = none) : B.H0 a = none := by
  cases q : B.H0 a with
  | none => rfl
  | some o => exact absurd h (k.live a (by rw [q]; exact fun z => by cases z))
theorem Rel.un (k : Rel B F H ρ σ) (k' : Rel (B.re F H ρ σ) F' H' ρ' σ) : Rel B F' H' ρ' σ := by
  refine ⟨k.kept.trans k'.kept k.lents, ⟨k'.sl.len, k'.sl.val, k'.sl.scr, fun i s h hs => ?_, k'.sl.par, k'.sl.dis⟩⟩
  obtain ⟨a, o, h1, h2, h3, h4, h5⟩ := k'.sl.own i s h hs
  refine ⟨a, o, h1, h2, h3, h4, ?_⟩
  rcases h5 with z | z
  · exact k.lentI i a z
  · exact .inr (k.kept.old z)
theorem ExP.re {F0 : Hp} (k : Rel B F H ρ σ) (e : Ex F0 F) : ∀ x, ExP X B F0 σ W x → ExP X (B.re F H ρ σ) F σ W x := fun x h F2 H2 c d k2 e2 i =>
  h F2 H2 c d (k.kept.trans k2 k.lents) (e.trans e2) i
/-- forgetting a slot -/
theorem Rel.unset (k : Rel B F H ρ σ) (i : Nat) : Rel B F H (ρ.set i .un) σ := by
  have g : ∀ {j : Nat} {t : Slot}, (ρ.set i .un)[j]? = some t → t ≠ .un → ρ[j]? = some t ∧ j ≠ i := fun {j t} q n => by
    rcases set_get q with ⟨_, z, _⟩ | ⟨z, z2⟩
    · exact absurd z n
    · exact ⟨z2, z⟩
  refine ⟨k.kept, ⟨by rw [List.length_set]; exact k.sl.len, fun j d q => k.sl.val j d (g q (fun z => by cases z)).1, fun j d q => k.sl.scr j d (g q (fun z => by cases z)).1, fun j s q qs => k.sl.own j s (g q (fun z => by rw [z] at qs; cases qs)).1 qs, k.sl.par,
    fun j m t u a ne q qs q' qs' e => k.sl.dis j m t u a ne (g q (fun z => by rw [z] at qs; cases qs)).1 qs (g q' (fun z => by rw [z] at qs'; cases qs')).1 qs' e⟩⟩
end

/-! ### arguments -/
structure ArgsOk (B : Bd) (F H : Hp) (ρ : Env) (σ : St) (as : List (Option Nat × Slot)) (vs : List V) : Prop where
  len : as.length = vs.length
  val : ∀ (j : Nat) (w : Option Nat) (d : PyData), as[j]? = some (w, Slot.val d) → ∃ v, vs[j]? = some v ∧ Rp B.K F d v
  scr : ∀ (j : Nat) (w : Option Nat) (ns : List Int), as[j]? = some (w, Slot.scr ns) → ∃ a, vs[j]? = some (.ref a) ∧ SqL B.K F a (ns.map V.int)
  own : ∀ (j : Nat) (w : Option Nat) (s : Slot), as[j]? = some (w, s) → s.isOwn = true → ∃ a o, vs[j]? = some (.ref a) ∧ F a = none ∧ H a = some o ∧ OwnIs B.K F a o s ∧ ((∃ i, w = some i ∧ B.L i a) ∨ B.H0 a = none) ∧ ¬ owned ρ σ a
  dis : ∀ (j k : Nat) (w w' : Option Nat) (s t : Slot) (a : Addr), j ≠ k → as[j]? = some (w, s) → s.isOwn = true → as[k]? = some (w', t) → t.isOwn = true → vs[j]? = some (.ref a) → vs[k]? ≠ some (.ref a)
  ret : ∀ (j i : Nat) (s : Slot), as[j]? = some (some i, s) → s.isOwn = true ∧ ∃ v, vs[j]? = some v ∧ σ[i]? = some (some v)
  no : ∀ p ∈ as, p.2 ≠ .un
def SndA (Γ : Ctx) (es : List Expr) (d : DenA) : Prop := ∀ (X : Cx) (Φ : Calls) (B : Bd) (F H : Hp) (ρ : Env) (σ : St) (Q : List V → Hp → Prop) (W : WX), CtxOk Γ Φ X → B.K = X.K → L2N.Takes X W → Rel B F H ρ σ →
  (d Φ ρ).wp (fun r => ∀ vs F' H', Rel B F' H' r.2 σ → Ex F F' → ArgsOk B F' H' r.2 σ r.1 vs → Q vs H') (ExP X B F σ W) → wEs X es σ H Q
section
variable {Γ : Ctx} {e : Expr} {es : List Expr} {d : Den} {r : DenA} {p : Bool} {pos fpos : Pos}
variable {B : Bd} {F H F' H' : Hp} {ρ ρ' : Env} {σ : St}
theorem snd_asNil : SndA Γ [] asNil := by
  intro X Φ B F H ρ σ Q W C hK T R h
  refine h [] F H R (.refl F) ⟨rfl, fun j w d q => ?_, fun j w d q => ?_, fun j w d q => ?_, fun j _ _ _ _ _ _ _ q => ?_, fun j w d q => ?_, fun p hp => ?_⟩
  all_goals first | (simp at q; done) | (simp at hp; done)
/-- one more argument, ahead -/
theorem args_cons {w : Option Nat} {s : Slot} {v : V} {as : List (Option Nat × Slot)} {vs : List V} (R : Rel B F H ρ σ) (R' : Rel (B.re F H ρ σ) F' H' ρ' σ) (A : ArgsOk (B.re F H ρ σ) F' H' ρ' σ as vs) (hs : s ≠ .un)
    (hv : ∀ d, s = .val d → Rp B.K F d v) (hc : ∀ ns, s = .scr ns → ∃ a, v = .ref a ∧ SqL B.K F a (ns.map V.int))
    (ho : s.isOwn = true → ∃ a o, v = .ref a ∧ F a = none ∧ H a = some o ∧ OwnIs B.K F a o s ∧ ((∃ i, w = some i ∧ B.L i a) ∨ B.H0 a = none) ∧ ¬ owned ρ σ a) (hw : ∀ i, w = some i → s.isOwn = true ∧ σ[i]? = some (some v)) :
    ArgsOk B F' H' ρ' σ ((w, s) :: as) (v :: vs) := by
  have apart : ∀ {a : Addr} {o : HO}, H a = some o → ¬ owned ρ σ a → ∀ b, (owned ρ σ b ∨ H b = none) → b ≠ a := fun {a o} h n b hb z => by
    subst z
    rcases hb with q | q
    · exact n q
    · rw [h] at q; cases q
  have ownA : ∀ {j : Nat} {w : Option Nat} {t : Slot}, as[j]? = some (w, t) → t.isOwn = true → ∃ a, vs[j]? = some (.ref a) ∧ (owned ρ σ a ∨ H a = none) := fun {j w t} q qs => by
    obtain ⟨a, o, g1, _, _, _, g5, _⟩ := A.own j w t q qs
    exact ⟨a, g1, g5.imp (fun ⟨i, _, t, z⟩ => ⟨i, t, z⟩) id⟩
  refine ⟨by simp [A.len], fun j w' d q => ?_, fun j w' d q => ?_, fun j w' t q qs => ?_, fun j k w1 w2 t u a ne q qs q' qs' e1 e2 => ?_, fun j i t q => ?_, fun x hx => ?_⟩
  · cases j with
    | zero =>
      simp only [List.getElem?_cons_zero, Option.some.injEq, Prod.mk.injEq] at q
      exact ⟨v, rfl, (hv d q.2).mono R'.kept.ff⟩
    | succ j => exact A.val j w' d (by simpa using q)
  · cases j with
    | zero =>
      simp only [List.getElem?_cons_zero, Option.some.injEq, Prod.mk.injEq] at q
      obtain ⟨a, g1, g2⟩ := hc d q.2
      exact ⟨a, by rw [g1]; rfl, R'.kept.ff.sqL g2⟩
    | succ j => exact A.scr j w' d (by simpa using q)
  · cases j with
    | zero =>
      simp only [List.getElem?_cons_zero, Option.some.injEq, Prod.mk.injEq] at q
      obtain ⟨q1, q2⟩ := q
      subst q2
      subst q1
      obtain ⟨a, o, g1, g2, g3, g4, g5, g6⟩ := ho qs
      refine ⟨a, o, by rw [g1]; rfl, R'.kept.nof a (by show H a ≠ none; rw [g3]; exact fun z => by cases z) g2 g6, R'.kept.keep a o g3 g6, g4.mono R'.kept.ff, g5, fun ⟨i, t, k1, k2, k3⟩ => ?_⟩
      obtain ⟨b, _, m1, _, _, _, m5⟩ := R'.sl.own i t k1 k2
      rw [k3] at m1
      cases m1
      exact apart g3 g6 a (m5.imp (fun z => ⟨i, z⟩) id) rfl
    | succ j =>
      obtain ⟨a, o, g1, g2, g3, g4, g5, g6⟩ := A.own j w' t (by simpa using q) qs
      refine ⟨a, o, by simpa using g1, g2, g3, g4, ?_, g6⟩
      rcases g5 with ⟨i, z1, z⟩ | z
      · exact (R.lentI i a z).imp (fun y => ⟨i, z1, y⟩) id
      · exact .inr (R.kept.old z)
  · cases j with
    | zero =>
      simp only [List.getElem?_cons_zero, Option.some.injEq, Prod.mk.injEq] at q e1
      obtain ⟨_, q2⟩ := q
      subst q2
      obtain ⟨b, o, g1, g2, g3, g4, g5, g6⟩ := ho qs
      rw [g1] at e1
      cases e1
      cases k with
      | zero => exact ne rfl
      | succ k =>
        obtain ⟨c, k1, k2⟩ := ownA (j := k) (by simpa using q') qs'
        have e2' : vs[k]? = some (.ref a) := by simpa using e2
        rw [k1] at e2'
        cases e2'
        exact apart g3 g6 _ k2 rfl
    | succ j =>
      cases k with
      | zero =>
        simp only [List.getElem?_cons_zero, Option.some.injEq, Prod.mk.injEq] at q' e2
        obtain ⟨_, q2⟩ := q'
        subst q2
        obtain ⟨b, o, g1, g2, g3, g4, g5, g6⟩ := ho qs'
        rw [g1] at e2
        cases e2
        obtain ⟨c, k1, k2⟩ := ownA (j := j) (by simpa using q) qs
        have e1' : vs[j]? = some (.ref a) := by simpa using e1
        rw [k1] at e1'
        cases e1'
        exact apart g3 g6 _ k2 rfl
      | succ k => exact A.dis j k w1 w2 t u a (fun z => ne (by rw [z])) (by simpa using q) qs (by simpa using q') qs' (by simpa using e1) (by simpa using e2)
  · cases j with
    | zero =>
      simp only [List.getElem?_cons_zero, Option.some.injEq, Prod.mk.injEq] at q
      obtain ⟨q1, q2⟩ := q
      subst q2
      exact ⟨(hw i q1).1, v, rfl, (hw i q1).2⟩
    | succ j => exact A.ret j i t (by simpa using q)
  · rcases List.mem_cons.mp hx with z | z
    · rw [z]; exact hs
    · exact A.no x z
theorem snd_asExp (h1 : SndE Γ e d p) (h2 : SndA Γ es r) : SndA Γ (e :: es) (asExp d r) := by
  intro X Φ B F H ρ σ Q W C hK T R h
  refine h1 X Φ B F H ρ σ _ W C hK T R (wp_mono (wp_bind (c := d Φ ρ) h) (fun x q v F1 H1 R1 e1 e2 hv => ?_) fun _ q => q)
  refine h2 X Φ (B.re F1 H1 x.2 σ) F1 H1 x.2 σ _ W C hK T R1.re (wp_mono (wp_bind (c := r Φ x.2) q) (fun y q' vs F2 H2 R2 e3 A => ?_) (ExP.re R1 e1))
  obtain ⟨s, ρ1⟩ := x
  refine q' (v :: vs) F2 H2 (R1.un R2) (e1.trans e3) (args_cons R1 R2 A (fun z => ?_) (fun d z => ?_) (fun ns z => ?_) (fun z => ?_) (fun i z => by cases z))
  · rw [show s = .un from z] at hv; exact hv.elim
  · rw [show s = .val d from z] at hv; exact hv
  · rw [show s = .scr ns from z] at hv; exact hv.elim
  · obtain ⟨a, o, g1, g2, g3, g4, g5, g6⟩ := (Res.of_own z).mp hv
    exact ⟨a, o, g1, g2, g3, g4, .inr g5, fun ⟨i, t, k1, k2, k3⟩ => g6 i t k1 k2 k3⟩
theorem snd_asVar {x : Str} {i : Nat} (hN : Γ.N[i]? = some x) (hv : visB Γ.sc x = true) (hx : okName x = true) (h2 : SndA Γ es r) : SndA Γ (.Name x pos :: es) (asVar i r) := by
  intro X Φ B F H ρ σ Q W C hK T R h
  have P : PE X (.Name x pos) (tVar i) := pe_var (by rw [C.nm]; exact hN) (by rw [C.sc]; exact vis_of hv) (okName_d hx) (okName_c hx)
  unfold asVar at h
  have lend : ∀ s : Slot, s.isOwn = true → ρ[i]? = some s → ((r Φ (ρ.set i .un)).bind fun y => Out.ok ((some i, s) :: y.1, y.2)).wp (fun r => ∀ vs F' H', Rel B F' H' r.2 σ → Ex F F' → ArgsOk B F' H' r.2 σ r.1 vs → Q vs H') (ExP X B F σ W) → wEs X (.Name x pos :: es) σ H Q := fun s hs e hq => by
    obtain ⟨a, o, e1, e2, e3, e4, e5⟩ := R.sl.own i s e hs
    have R1 := R.unset i
    refine P.w ⟨_, e1, ?_⟩
    refine h2 X Φ (B.re F H (ρ.set i .un) σ) F H (ρ.set i .un) σ _ W C hK T R1.re (wp_mono (wp_bind hq) (fun y q' vs F2 H2 R2 e3' A => ?_) (ExP.re R1 (.refl F)))
    refine q' (_ :: vs) F2 H2 (R1.un R2) e3' (args_cons R1 R2 A (fun z => ?_) (fun d z => ?_) (fun ns z => ?_) (fun z => ⟨a, o, rfl, e2, e3, e4, e5.imp (fun z => ⟨i, rfl, z⟩) id, fun ⟨j, t, k1, k2, k3⟩ => ?_⟩) (fun j z => by cases z; exact ⟨hs, e1⟩))
    · rw [show s = .un from z] at hs; cases hs
    · rw [show s = .val d from z] at hs; cases hs
    · rw [show s = .scr ns from z] at hs; cases hs
    · rcases set_get k1 with ⟨_, z2, _⟩ | ⟨z1, z2⟩
      · rw [z2] at k2; cases k2
      · exact R.sl.dis j i t s a z1 z2 k2 e hs k3 e1
  cases e : ρ[i]? with
  | none => rw [e] at h; exact h.elim
  | some s =>
    rw [e] at h
    cases s with
    | val d =>
      obtain ⟨v, g1, g2⟩ := R.sl.val i d e
      refine P.w ⟨v, g1, ?_⟩
      refine h2 X Φ (B.re F H ρ σ) F H ρ σ _ W C hK T R.re (wp_mono (wp_bind (c := r Φ ρ) h) (fun y q' vs F2 H2 R2 e3' A => ?_) (ExP.re R (.refl F)))
      exact q' (v :: vs) F2 H2 (R.un R2) e3' (args_cons R R2 A (fun z => by cases z) (fun d z => by cases z; exact g2) (fun ns z => by cases z) (fun z => by cases z) (fun j z => by cases z))
    | scr ns =>
      obtain ⟨a, g1, g2⟩ := R.sl.scr i ns e
      refine P.w ⟨_, g1, ?_⟩
      refine h2 X Φ (B.re F H ρ σ) F H ρ σ _ W C hK T R.re (wp_mono (wp_bind (c := r Φ ρ) h) (fun y q' vs F2 H2 R2 e3' A => ?_) (ExP.re R (.refl F)))
      exact q' (_ :: vs) F2 H2 (R.un R2) e3' (args_cons R R2 A (fun z => by cases z) (fun d z => by cases z) (fun ns z => by cases z; exact ⟨a, rfl, g2⟩) (fun z => by cases z) (fun j z => by cases z))
    | own ds => exact lend _ rfl e h
    | odc t es => exact lend _ rfl e h
    | obj k ds => exact lend _ rfl e h
    | un => exact h.elim
/-! ### what was lent comes back -/
theorem Sl.setOut (k : Sl B F H ρ σ) {i : Nat} {a : Addr} {s : Slot} (hi : σ[i]? = some (some (.ref a))) (h : OutIs B.K F H a s) (hL : B.L i a ∨ B.H0 a = none) (hn : ∀ (j : Nat) (t : Slot), j ≠ i → ρ[j]? = some t → t.isOwn = true → σ[j]? ≠ some (some (.ref a))) : Sl B F H (ρ.set i s) σ := by
  refine ⟨by rw [List.length_set]; exact k.len, fun j d q => ?_, fun j ns q => ?_, fun j t q qs => ?_, k.par, fun j m t u b ne q qs q' qs' e1 e2 => ?_⟩
  · rcases set_get q with ⟨z1, z2, _⟩ | ⟨_, z⟩
    · subst z1
      rcases h with ⟨d', g1, g2⟩ | ⟨g1, _⟩
      · rw [g1] at z2; cases z2; exact ⟨_, hi, g2⟩
      · rw [← z2] at g1; cases g1
    · exact k.val j d z
  · rcases set_get q with ⟨z1, z2, _⟩ | ⟨_, z⟩
    · rcases h with ⟨d', g1, g2⟩ | ⟨g1, _⟩
      · rw [g1] at z2; cases z2
      · rw [← z2] at g1; cases g1
    · exact k.scr j ns z
  · rcases set_get q with ⟨z1, z2, _⟩ | ⟨_, z⟩
    · subst z1
      rcases h with ⟨d', g1, g2⟩ | ⟨g1, o, g2, g3, g4⟩
      · rw [z2, g1] at qs; cases qs
      · rw [z2]; exact ⟨a, o, hi, g2, g3, g4, hL⟩
    · exact k.own j t z qs
  · rcases set_get q with ⟨z1, z2, _⟩ | ⟨z1, z⟩
    · subst z1
      rcases set_get q' with ⟨z3, _, _⟩ | ⟨z3, z4⟩
      · exact ne z3.symm
      · rw [hi] at e1
        cases e1
        exact hn m u z3 z4 qs' e2
    · rcases set_get q' with ⟨z3, _, _⟩ | ⟨z3, z4⟩
      · subst z3
        rw [hi] at e2
        cases e2
        exact hn j t z1 z qs e1
      · exact k.dis j m t u b ne z qs z4 qs' e1 e2
theorem giveBack_ok : ∀ (as : List (Option Nat × Slot)) (vs : List V) (ss : List Slot) (ρ : Env), Sl B F H ρ σ → as.length = ss.length → as.length = vs.length →
    (∀ (j i : Nat) (s : Slot), as[j]? = some (some i, s) → ∃ a s', vs[j]? = some (.ref a) ∧ σ[i]? = some (some (.ref a)) ∧ ss[j]? = some s' ∧ OutIs B.K F H a s' ∧ (B.L i a ∨ B.H0 a = none) ∧ (∀ (m : Nat) (t : Slot), m ≠ i → ρ[m]? = some t → t.isOwn = true → σ[m]? ≠ some (some (.ref a)))) →
    (∀ (j k i i' : Nat) (s t : Slot) (a : Addr), j ≠ k → as[j]? = some (some i, s) → as[k]? = some (some i', t) → vs[j]? = some (.ref a) → vs[k]? ≠ some (.ref a)) →
    Sl B F H (giveBack as ss ρ) σ ∧ ∀ (m : Nat) (t : Slot), (giveBack as ss ρ)[m]? = some t → t.isOwn = true → (ρ[m]? = some t ∨ ∃ (j i : Nat) (s : Slot) (a : Addr), as[j]? = some (some i, s) ∧ vs[j]? = some (.ref a) ∧ σ[m]? = some (some (.ref a)))
  | [], _, _, ρ, k, _, _, _, _ => ⟨k, fun m t h _ => .inl h⟩
  | (none, s) :: as, v :: vs, s1 :: ss, ρ, k, h1, h2, h3, h4 => by
    obtain ⟨g1, g2⟩ := giveBack_ok as vs ss ρ k (by simpa using h1) (by simpa using h2) (fun j i t q => h3 (j + 1) i t (by simpa using q)) (fun j m i i' t u a ne q q' e1 e2 => h4 (j + 1) (m + 1) i i' t u a (by omega) (by simpa using q) (by simpa using q') (by simpa using e1) (by simpa using e2))
    refine ⟨g1, fun m t q qs => ?_⟩
    rcases g2 m t q qs with z | ⟨j, i, s, a, z1, z2, z3⟩
    · exact .inl z
    · exact .inr ⟨j + 1, i, s, a, by simpa using z1, by simpa using z2, z3⟩
  | (some i, s) :: as, v :: vs, s1 :: ss, ρ, k, h1, h2, h3, h4 => by
    obtain ⟨a, s', q1, q2, q3, q4, q5, q6⟩ := h3 0 i s rfl
    have e1 : v = .ref a := by simpa using q1
    have e2 : s1 = s' := by simpa using q3
    subst e1
    subst e2
    have k1 : Sl B F H (ρ.set i s1) σ := Sl.setOut k q2 q4 q5 q6
    obtain ⟨g1, g2⟩ := giveBack_ok as vs ss (ρ.set i s1) k1 (by simpa using h1) (by simpa using h2) (fun j i' t q => by
      obtain ⟨b, t', w1, w2, w3, w4, w5, w6⟩ := h3 (j + 1) i' t (by simpa using q)
      refine ⟨b, t', by simpa using w1, w2, by simpa using w3, w4, w5, fun m u ne qm qs em => ?_⟩
      rcases set_get qm with ⟨z1, z2, _⟩ | ⟨z1, z2⟩
      · subst z1
        rw [q2] at em
        cases em
        exact h4 0 (j + 1) m i' s t a (by omega) rfl (by simpa using q) rfl (by simpa using w1)
      · exact w6 m u ne z2 qs em) (fun j m i i' t u a ne q q' e1 e2 => h4 (j + 1) (m + 1) i i' t u a (by omega) (by simpa using q) (by simpa using q') (by simpa using e1) (by simpa using e2))
    refine ⟨g1, fun m t q qs => ?_⟩
    rcases g2 m t q qs with z | ⟨j, i', t', b, z1, z2, z3⟩
    · rcases set_get z with ⟨z1, z2, _⟩ | ⟨_, z2⟩
      · subst z1
        exact .inr ⟨0, m, s, a, rfl, rfl, q2⟩
      · exact .inl z2
    · exact .inr ⟨j + 1, i', t', b, by simpa using z1, by simpa using z2, z3⟩
  | (none, _) :: _, [], _, _, _, _, h2, _, _ => by simp at h2
  | (some _, _) :: _, [], _, _, _, _, h2, _, _ => by simp at h2
  | (none, _) :: _, _ :: _, [], _, _, h1, _, _, _ => by simp at h1
  | (some _, _) :: _, _ :: _, [], _, _, h1, _, _, _ => by simp at h1
/-- f(a, ..) -/
theorem snd_call {x : Str} {n : Nat} {a : Expr} (hf : (x, n) ∈ Γ.fns) (h : SndA Γ (a :: es) r) (he : (a :: es).all plainE = true) (hg : Γ.sc.names.lookup x = some .globalImplicit) (hx : okName x = true) : SndE Γ (.Call (.Name x fpos) (a :: es) [] pos) (dCall x n r) false := by
  intro X Φ B F H ρ σ Q W C hK T R hq
  obtain ⟨f, fd, ps, k, gm, gl, gk, gb, G, rm⟩ := C.fns _ hf
  have he' := he
  rw [List.all_cons, Bool.and_eq_true] at he'
  refine PE.w (pe_callG (E := WE W) G C.grd rm (gl_of C hg) gm gk gb (fun σ => L2N.passAt T σ) (pa_ws he) (okName_d hx) (star_of he'.1) (plain_any he'.2)) ?_
  refine h X Φ B F H ρ σ _ W C hK T R (wp_mono (wp_bind (c := r Φ ρ) hq) (fun y q vs F1 H1 R1 e1 A => ?_) fun _ q => q)
  obtain ⟨as, ρ1⟩ := y
  obtain ⟨hl, q⟩ := wp_guard q
  have hl : as.length = n := by simpa using hl
  have R1 : Rel B F1 H1 ρ1 σ := R1
  have A : ArgsOk B F1 H1 ρ1 σ as vs := A
  have hv : vs.length = n := by rw [← A.len]; exact hl
  have at' : ∀ {j : Nat} {s : Slot}, (as.map (·.2))[j]? = some s → ∃ w, as[j]? = some (w, s) := fun {j s} q => by
    rw [List.getElem?_map] at q
    cases z : as[j]? with
    | none => rw [z] at q; cases q
    | some y => rw [z] at q; cases q; exact ⟨y.1, rfl⟩
  have atm : ∀ {j : Nat} {w : Option Nat} {s : Slot}, as[j]? = some (w, s) → (as.map (·.2))[j]? = some s := fun {j w s} q => by
    rw [List.getElem?_map, q]
    rfl
  have lt : ∀ a, (∃ i, lent (as.map (·.2)) vs i a) → (B.La a ∨ B.H0 a = none) ∧ H1 a ≠ none ∧ ¬ owned ρ1 σ a := fun a ⟨j, s, q1, q2, q3⟩ => by
    obtain ⟨w, q1⟩ := at' q1
    obtain ⟨b, o, g1, g2, g3, g4, g5, g6⟩ := A.own j w s q1 q2
    rw [q3] at g1
    cases g1
    exact ⟨g5.imp (fun ⟨i, _, z⟩ => ⟨i, z⟩) id, (by rw [g3]; exact (fun z => nomatch z)), g6⟩
  have q := wp_bind q
  refine ⟨hv, F1, as.map (·.2), R1.kept.ex, by rw [List.length_map]; exact hl, ⟨by rw [List.length_map, List.length_map]; exact A.len, fun j d q => ?_, fun j ns q => ?_, fun j s q qs => ?_, fun j v q => ?_, fun j m s t a ne q qs q' qs' e2 e3 => ?_⟩, fun s hs => ?_, wp_mono (by rw [← hK] at *; exact q) (fun z q v F2 H2 bk => ?_) fun z q F2 H2 cls d k2 hx => ?_⟩
  · obtain ⟨w, q⟩ := at' q
    obtain ⟨v, g1, g2⟩ := A.val j w d q
    exact ⟨v, by rw [List.getElem?_map, g1]; rfl, hK ▸ g2⟩
  · obtain ⟨w, q⟩ := at' q
    obtain ⟨v, g1, g2⟩ := A.scr j w ns q
    exact ⟨v, by rw [List.getElem?_map, g1]; rfl, hK ▸ g2⟩
  · obtain ⟨w, q'⟩ := at' q
    obtain ⟨b, o, g1, g2, g3, g4, g5, g6⟩ := A.own j w s q' qs
    exact ⟨b, o, by rw [List.getElem?_map, g1]; rfl, g2, g3, hK ▸ g4, .inl ⟨s, q, qs, g1⟩⟩
  · rw [List.getElem?_map, show vs[j]? = some v from q]; rfl
  · obtain ⟨w, q⟩ := at' q
    obtain ⟨w', q'⟩ := at' q'
    rw [List.getElem?_map] at e2 e3
    have e2' : vs[j]? = some (.ref a) := by
      cases z : vs[j]? with
      | none => rw [z] at e2; cases e2
      | some y => rw [z] at e2; cases e2; rfl
    have e3' : vs[m]? = some (.ref a) := by
      cases z : vs[m]? with
      | none => rw [z] at e3; cases e3
      | some y => rw [z] at e3; cases e3; rfl
    exact A.dis j m w w' s t a ne q qs q' qs' e2' e3'
  · obtain ⟨p, hp, rfl⟩ := List.mem_map.mp hs
    exact A.no p hp
  · -- behind the call
    obtain ⟨r1, outs⟩ := z
    obtain ⟨ho, q⟩ := wp_guard q
    have ho : outs.length = n := by simpa using ho
    rw [← hK] at bk
    obtain ⟨k2, bo, br⟩ := bk
    have K2 : Kept B F2 H2 := R1.kept.trans k2 fun a ha => (lt a ha).1
    -- the slots as they stand
    have S1 : Sl B F2 H2 ρ1 σ := by
      refine ⟨R1.sl.len, fun i d q => ?_, fun i d q => ?_, fun i s q qs => ?_, R1.sl.par, R1.sl.dis⟩
      · obtain ⟨v, g1, g2⟩ := R1.sl.val i d q; exact ⟨v, g1, g2.mono k2.ff⟩
      · obtain ⟨v, g1, g2⟩ := R1.sl.scr i d q; exact ⟨v, g1, k2.ff.sqL g2⟩
      · obtain ⟨a, o, g1, g2, g3, g4, g5⟩ := R1.sl.own i s q qs
        have nl : ¬ ∃ i, lent (as.map (·.2)) vs i a := fun z => (lt a z).2.2 ⟨i, s, q, qs, g1⟩
        exact ⟨a, o, g1, k2.nof a (by show H1 a ≠ none; rw [g3]; exact fun z => by cases z) g2 nl, k2.keep a o g3 nl, g4.mono k2.ff, g5⟩
    obtain ⟨S2, own2⟩ := giveBack_ok (B := B) (F := F2) (H := H2) (σ := σ) as vs outs ρ1 S1 (by omega) A.len (fun j i s q => by
      obtain ⟨qs, v, g1, g2⟩ := A.ret j i s q
      obtain ⟨a, o, k1, k2', k3, k4, k5, k6⟩ := A.own j _ s q qs
      rw [g1] at k1
      cases k1
      obtain ⟨s', z1, z2⟩ := bo j s a (atm q) qs g1
      exact ⟨a, s', g1, g2, z1, z2, k5.imp (fun ⟨_, z, y⟩ => by cases z; exact y) id, fun m t _ qm qt em => k6 ⟨m, t, qm, qt, em⟩⟩) (fun j m i i' s t a ne q q' e2 => A.dis j m _ _ s t a ne q (A.ret j i s q).1 q' (A.ret m i' t q').1 e2)
    refine q v F2 H2 ⟨K2, S2⟩ (e1.trans k2.ff) (fun z => by cases z) ?_
    rcases br with ⟨d, z1, z2⟩ | ⟨z1, a, o, z2, z3, z4, z5, z6⟩
    · show Res B F2 H2 _ σ r1 v
      rw [show r1 = .val d from z1]
      exact z2
    · refine (Res.of_own z1).mpr ⟨a, o, z2, z3, z4, z5, R1.kept.old z6, fun i t qt qs em => ?_⟩
      rcases own2 i t qt qs with y | ⟨j, i', s, b, y1, y2, y3⟩
      · obtain ⟨b, o', g1, _, g3, _⟩ := R1.sl.own i t y qs
        rw [em] at g1
        cases g1
        rw [z6] at g3; cases g3
      · rw [em] at y3
        cases y3
        obtain ⟨qs', _⟩ := A.ret j i' s y1
        obtain ⟨b, o', g1, _, g3, _⟩ := A.own j _ s y1 qs'
        rw [y2] at g1
        cases g1
        rw [z6] at g3; cases g3
  · rw [← hK] at k2 hx
    exact q F2 H2 cls d (R1.kept.trans k2 fun a ha => (lt a ha).1) (e1.trans k2.ff) (hK ▸ hx)
end
end Dn

/-! Den5: statements. -/
namespace Dn
open PySem PySem.Spec L2
open PyProof.Rows hiding St

inductive Fl | nx | brk | cnt | ret (s : Slot)
abbrev DenS := Calls → Env → Out (Fl × Env)
def StP (B : Bd) (F : Hp) (D : Ends) : Fl × Env → Prop := fun r => match r.1 with
  | .nx => ∀ σ' F' H', Rel B F' H' r.2 σ' → Ex F F' → D.nx σ' H'
  | .brk => ∀ σ' F' H', Rel B F' H' r.2 σ' → Ex F F' → D.bk σ' H'
  | .cnt => ∀ σ' F' H', Rel B F' H' r.2 σ' → Ex F F' → D.ct σ' H'
  | .ret s => ∀ σ' v F' H', Rel B F' H' r.2 σ' → Ex F F' → Res B F' H' r.2 σ' s v → D.rt v H'
def ExS (X : Cx) (B : Bd) (F : Hp) (W : WX) : Exc → Prop := fun x => ∀ σ' F' H' cls d, Kept B F' H' → Ex F F' → XcIs X.mg x cls d X.K F' H' → W cls d σ' H'
/-- a def's body -/
structure BodyOk (X : Cx) : Prop where
  fn : ∀ x, X.fn x = true
  fk : X.env.scope.kind = .function
  hp : PassesOwn (model X.prog X.w) X.A X.env X.xe
  stk : X.stack = X.env :: X.outer ∧ X.env.frame = some X.env.locals
/-- the parameters' slots stand first -/
structure BdOk (Γ : Ctx) (B : Bd) : Prop where
  vs : B.vs.length ≤ Γ.np
  L : ∀ i a, B.L i a → i < Γ.np
def SndS (Γ : Ctx) (st : Stmt) (d : DenS) : Prop := ∀ (X : Cx) (Φ : Calls) (B : Bd) (F H : Hp) (ρ : Env) (σ : St) (D : Ends) (W : WX), CtxOk Γ Φ X → BodyOk X → BdOk Γ B → B.K = X.K → L2N.Takes X W → Rel B F H ρ σ →
  (d Φ ρ).wp (StP B F D) (ExS X B F W) → wS X st D σ H
def SndSs (Γ : Ctx) (st : List Stmt) (d : DenS) : Prop := ∀ (X : Cx) (Φ : Calls) (B : Bd) (F H : Hp) (ρ : Env) (σ : St) (D : Ends) (W : WX), CtxOk Γ Φ X → BodyOk X → BdOk Γ B → B.K = X.K → L2N.Takes X W → Rel B F H ρ σ →
  (d Φ ρ).wp (StP B F D) (ExS X B F W) → wSs X st D σ H
/-- .. told with the slots -/
def ExsS (X : Cx) (B : Bd) (F : Hp) (W : WX) : Exc → Env → Prop := fun x ρ => ∀ σ' F' H' cls d, Rel B F' H' ρ σ' → Ex F F' → XcIs X.mg x cls d X.K F' H' → W cls d σ' H'
/-- where numbers may come and refusals are told with the slots -/
def SndX (Γ : Ctx) (st : Stmt) (d : DenS) : Prop := ∀ (X : Cx) (Φ : Calls) (B : Bd) (F H : Hp) (ρ : Env) (σ : St) (D : Ends) (W : WX), CtxOk Γ Φ X → BodyOk X → BdOk Γ B → B.K = X.K → L2N.Takes X W → Rel B F H ρ σ →
  (d Φ ρ).wpx (StP B F D) (ExS X B F W) (ExsS X B F W) → wS X st D σ H
def SndXs (Γ : Ctx) (st : List Stmt) (d : DenS) : Prop := ∀ (X : Cx) (Φ : Calls) (B : Bd) (F H : Hp) (ρ : Env) (σ : St) (D : Ends) (W : WX), CtxOk Γ Φ X → BodyOk X → BdOk Γ B → B.K = X.K → L2N.Takes X W → Rel B F H ρ σ →
  (d Φ ρ).wpx (StP B F D) (ExS X B F W) (ExsS X B F W) → wSs X st D σ H
section
variable {X : Cx} {B : Bd} {F F' H H' : Hp} {σ : St} {W : WX} {ρ : Env} {D : Ends}
theorem ExsS.mono (e : Ex F F') : ∀ x ρ, ExsS X B F W x ρ → ExsS X B F' W x ρ := fun x ρ h σ' F2 H2 c d k e2 i => h σ' F2 H2 c d k (e.trans e2) i
theorem ExS.mono (e : Ex F F') : ∀ x, ExS X B F W x → ExS X B F' W x := fun x h σ' F2 H2 c d k e2 i => h σ' F2 H2 c d k (e.trans e2) i
theorem ExS.ex : ∀ x, ExS X B F W x → ExP X B F σ W x := fun x h F2 H2 c d k e2 i => h σ F2 H2 c d k e2 i
theorem StP.mono (e : Ex F F') : ∀ r, StP B F D r → StP B F' D r := fun r h => by
  obtain ⟨f, ρ⟩ := r
  cases f with
  | nx => exact fun s F2 H2 k e2 => h s F2 H2 k (e.trans e2)
  | brk => exact fun s F2 H2 k e2 => h s F2 H2 k (e.trans e2)
  | cnt => exact fun s F2 H2 k e2 => h s F2 H2 k (e.trans e2)
  | ret x => exact fun s v F2 H2 k e2 => h s v F2 H2 k (e.trans e2)
end
def dStop : DenS := fun _ _ => .stuck
def dSkip : DenS := fun _ ρ => .ok (.nx, ρ)
def dBrk : DenS := fun _ ρ => .ok (.brk, ρ)
def dCnt : DenS := fun _ ρ => .ok (.cnt, ρ)
def dSeq (a b : DenS) : DenS := fun Φ ρ => (a Φ ρ).bind fun r => match r.1 with
  | .nx => b Φ r.2
  | f => .ok (f, r.2)
def dDo (d : Den) : DenS := fun Φ ρ => (d Φ ρ).bind fun r => .ok (.nx, r.2)
def dIfS (t : Den) (a b : DenS) : DenS := fun Φ ρ => (t Φ ρ).bind fun r => match r.1 with
  | .val (.bool true) => a Φ r.2
  | .val (.bool false) => b Φ r.2
  | _ => .stuck
def dSet (i : Nat) (d : Den) : DenS := fun Φ ρ => (d Φ ρ).bind fun r => .ok (.nx, r.2.set i r.1)
/-- what a name's slot gives when the frame ends: an own thing moves -/
def dRetV (i : Nat) : DenS := fun _ ρ => match ρ[i]? with
  | some (.val d) => .ok (.ret (.val d), ρ)
  | some (.own ds) => .ok (.ret (.own ds), ρ.set i .un)
  | some (.odc t es) => .ok (.ret (.odc t es), ρ.set i .un)
  | _ => .stuck
def dRet (d : Den) : DenS := fun Φ ρ => (d Φ ρ).bind fun r => .ok (.ret r.1, r.2)
def dRetN : DenS := fun _ ρ => .ok (.ret (.val .none), ρ)
def setAll : List Nat → List PyData → Env → Option Env
  | [], [], ρ => some ρ
  | i :: is, d :: ds, ρ => setAll is ds (ρ.set i (.val d))
  | _, _, _ => none
def dUnp (is : List Nat) (d : Den) : DenS := fun Φ ρ => (d Φ ρ).bind fun r => match r.1 with
  | .val (.tuple ds) => (opt (setAll is ds r.2)).bind fun ρ => .ok (.nx, ρ)
  | _ => .stuck

section
variable {Γ : Ctx} {st : Stmt} {sts sts' : List Stmt} {a b : DenS} {d : Den} {e c : Expr} {p : Bool} {pos pos' : Pos} {i : Nat} {x : Str}
theorem snd_nil : SndSs Γ [] dSkip := fun X Φ B F H ρ σ D W C BO bo hK T R h => PSs.w pss_nil (h σ F H R (.refl F))
theorem snd_cons (h1 : SndS Γ st a) (h2 : SndSs Γ sts b) : SndSs Γ (st :: sts) (dSeq a b) := by
  intro X Φ B F H ρ σ D W C BO bo hK T R h
  refine PSs.w (pss_cons ps_w pss_w) ?_
  refine h1 X Φ B F H ρ σ { D with nx := wSs X sts D } W C BO bo hK T R (wp_mono (wp_bind (c := a Φ ρ) h) (fun r q => ?_) fun _ q => q)
  obtain ⟨f, ρ1⟩ := r
  cases f with
  | nx => exact fun σ1 F1 H1 R1 e1 => h2 X Φ B F1 H1 ρ1 σ1 D W C BO bo hK T R1 (wp_mono q (StP.mono e1) (ExS.mono e1))
  | brk => exact q
  | cnt => exact q
  | ret s => exact q
theorem snd_one' (h1 : SndS Γ st a) : SndSs Γ [st] a := by
  intro X Φ B F H ρ σ D W C BO bo hK T R h
  exact PSs.w (pss_one ps_w) (h1 X Φ B F H ρ σ D W C BO bo hK T R h)
def notComp : Expr → Bool
  | .ListComp _ _ _ _ => false
  | .SetComp _ _ _ _ => false
  | .DictComp _ _ _ _ _ => false
  | _ => true
theorem swap_of {t : Option Expr} {l : Nat} {env : PySem.Env} (h : notComp e = true) : swapsWith e t l env = pure false := by
  unfold swapsWith
  cases e <;> first | rfl | cases h
theorem snd_do (h : SndE Γ e d p) (he : notComp e = true) : SndS Γ (.Expr e pos) (dDo d) := by
  intro X Φ B F H ρ σ D W C BO bo hK T R hq
  refine PS.w (ps_expr pe_w (swap_of he)) ?_
  exact h X Φ B F H ρ σ _ W C hK T R (wp_mono (wp_bind (c := d Φ ρ) hq) (fun r q v F1 H1 R1 e1 _ _ => q σ F1 H1 R1 e1) ExS.ex)
theorem snd_if {t : Den} (ht : SndT Γ c t p) (ha : SndSs Γ sts a) (hb : SndSs Γ sts' b) : SndS Γ (.If c sts sts' pos) (dIfS t a b) := by
  intro X Φ B F H ρ σ D W C BO bo hK T R hq
  refine PS.w (ps_if pt_w pss_w pss_w) ?_
  refine ht X Φ B F H ρ σ _ W C hK T R (wp_mono (wp_bind (c := t Φ ρ) hq) (fun r q => ?_) ExS.ex)
  obtain ⟨s, ρ1⟩ := r
  cases s with
  | val z =>
    cases z with
    | bool k =>
      refine ⟨k, rfl, fun F1 H1 R1 e1 _ => ?_⟩
      cases k with
      | true => exact iteT (ha X Φ B F1 H1 ρ1 σ D W C BO bo hK T R1 (wp_mono q (StP.mono e1) (ExS.mono e1)))
      | false => exact iteF (hb X Φ B F1 H1 ρ1 σ D W C BO bo hK T R1 (wp_mono q (StP.mono e1) (ExS.mono e1)))
    | _ => exact q.elim
  | _ => exact q.elim
/-- a name gets a new content -/
theorem Rel.put {B : Bd} {F H : Hp} {ρ : Env} {σ : St} {s : Slot} {v : V} (R : Rel B F H ρ σ) (h : Res B F H ρ σ s v) (i : Nat) (hi : B.vs.length ≤ i) : Rel B F H (ρ.set i s) (σ.set i (some v)) := by
  have len : (ρ.set i s).length = (σ.set i (some v)).length := by rw [List.length_set, List.length_set]; exact R.sl.len
  have lt : i < ρ.length → i < σ.length := fun z => by rw [← R.sl.len]; exact z
  refine ⟨R.kept, ⟨len, fun j d q => ?_, fun j ns q => ?_, fun j t q qs => ?_, fun j w q => ?_, fun j m t u b ne q qs q' qs' e1 e2 => ?_⟩⟩
  · rcases set_get q with ⟨z1, z2, z3⟩ | ⟨z1, z⟩
    · subst z1
      rw [← z2] at h
      exact ⟨v, List.getElem?_set_self (lt z3), h⟩
    · obtain ⟨w, g1, g2⟩ := R.sl.val j d z
      exact ⟨w, by rw [List.getElem?_set_ne (Ne.symm z1)]; exact g1, g2⟩
  · rcases set_get q with ⟨z1, z2, z3⟩ | ⟨z1, z⟩
    · rw [← z2] at h; exact h.elim
    · obtain ⟨w, g1, g2⟩ := R.sl.scr j ns z
      exact ⟨w, by rw [List.getElem?_set_ne (Ne.symm z1)]; exact g1, g2⟩
  · rcases set_get q with ⟨z1, z2, z3⟩ | ⟨z1, z⟩
    · subst z1
      subst z2
      obtain ⟨a, o, rfl, g2, g3, g4, g5, _⟩ := (Res.of_own qs).mp h
      exact ⟨a, o, List.getElem?_set_self (lt z3), g2, g3, g4, .inr g5⟩
    · obtain ⟨a, o, g1, g2⟩ := R.sl.own j t z qs
      exact ⟨a, o, by rw [List.getElem?_set_ne (Ne.symm z1)]; exact g1, g2⟩
  · have lj : j < B.vs.length := (List.getElem?_eq_some_iff.mp q).1
    rw [List.getElem?_set_ne (by omega)]
    exact R.sl.par j w q
  · rcases set_get q with ⟨z1, z2, z3⟩ | ⟨z1, z⟩
    · subst z1
      subst z2
      obtain ⟨a, o, rfl, g2, g3, g4, g5, g6⟩ := (Res.of_own qs).mp h
      rw [List.getElem?_set_self (lt z3)] at e1
      cases e1
      rcases set_get q' with ⟨z3, _, _⟩ | ⟨z3, z4⟩
      · exact ne z3.symm
      · rw [List.getElem?_set_ne ne] at e2
        exact g6 m u z4 qs' e2
    · rw [List.getElem?_set_ne (Ne.symm z1)] at e1
      rcases set_get q' with ⟨z3, z4, z5⟩ | ⟨z3, z4⟩
      · subst z3
        subst z4
        obtain ⟨a, o, rfl, g2, g3, g4, g5, g6⟩ := (Res.of_own qs').mp h
        rw [List.getElem?_set_self (lt z5)] at e2
        cases e2
        exact g6 j t z qs e1
      · rw [List.getElem?_set_ne (Ne.symm z3)] at e2
        exact R.sl.dis j m t u b ne z qs z4 qs' e1 e2
def locB (sc : Scope) (x : Str) : Bool := sc.names.lookup x == some .local || sc.names.lookup x == some .cell
theorem loc_of {sc : Scope} {x : Str} (h : locB sc x = true) : Loc sc x := by
  unfold locB at h
  simp only [Bool.or_eq_true, beq_iff_eq] at h
  exact h
theorem snd_set (hN : Γ.N[i]? = some x) (hl : locB Γ.sc x = true) (hi : Γ.np ≤ i) (h : SndE Γ e d p) (he : notComp e = true) : SndS Γ (.Assign [.Name x pos'] e pos) (dSet i d) := by
  intro X Φ B F H ρ σ D W C BO bo hK T R hq
  refine PS.w (ps_set (i := i) (by rw [C.nm]; exact C.nd) (by rw [C.nm]; exact hN) (by rw [C.sc]; exact loc_of hl) pe_w (swap_of he) (.inl (BO.fn x))) ?_
  exact h X Φ B F H ρ σ _ W C hK T R (wp_mono (wp_bind (c := d Φ ρ) hq) (fun r q v F1 H1 R1 e1 _ hv => q (σ.set i (some v)) F1 H1 (R1.put hv i (Nat.le_trans bo.vs hi)) e1) ExS.ex)
theorem snd_ret (h : SndE Γ e d p) : SndS Γ (.Return (some e) pos) (dRet d) := by
  intro X Φ B F H ρ σ D W C BO bo hK T R hq
  refine PS.w (ps_ret pe_w) ?_
  exact h X Φ B F H ρ σ _ W C hK T R (wp_mono (wp_bind (c := d Φ ρ) hq) (fun r q v F1 H1 R1 e1 _ hv => q σ v F1 H1 R1 e1 hv) ExS.ex)
/-- return x, x no parameter -/
theorem snd_retV (hN : Γ.N[i]? = some x) (hv : visB Γ.sc x = true) (hx : okName x = true) (hi : Γ.np ≤ i) : SndS Γ (.Return (some (.Name x pos')) pos) (dRetV i) := by
  intro X Φ B F H ρ σ D W C BO bo hK T R h
  have P : PE X (.Name x pos') (tVar i) := pe_var (by rw [C.nm]; exact hN) (by rw [C.sc]; exact vis_of hv) (okName_d hx) (okName_c hx)
  unfold dRetV at h
  have mv : ∀ s : Slot, s.isOwn = true → ρ[i]? = some s → (Out.ok (Fl.ret s, ρ.set i .un)).wp (StP B F D) (ExS X B F W) → wS X (.Return (some (.Name x pos')) pos) D σ H := fun s hs e hq => by
    obtain ⟨a, o, e1, e2, e3, e4, e5⟩ := R.sl.own i s e hs
    have e6 : B.H0 a = none := by
      rcases e5 with z | z
      · exact absurd (bo.L i a z) (by omega)
      · exact z
    refine PS.w (ps_ret P) ⟨_, e1, hq σ _ F H (R.unset i) (.refl F) ((Res.of_own hs).mpr ⟨a, o, rfl, e2, e3, e4, e6, fun j t k1 k2 k3 => ?_⟩)⟩
    rcases set_get k1 with ⟨_, z2, _⟩ | ⟨z1, z2⟩
    · rw [z2] at k2; cases k2
    · exact R.sl.dis j i t s a z1 z2 k2 e hs k3 e1
  cases e : ρ[i]? with
  | none => rw [e] at h; exact h.elim
  | some s =>
    rw [e] at h
    cases s with
    | val d =>
      obtain ⟨v, h1, h2⟩ := R.sl.val i d e
      exact PS.w (ps_ret P) ⟨v, h1, h σ v F H R (.refl F) h2⟩
    | own ds => exact mv _ rfl e h
    | odc t es => exact mv _ rfl e h
    | obj _ _ => exact h.elim
    | un => exact h.elim
    | scr ns => exact h.elim

/-! ### several names at once -/
def tgsOf (is : List Nat) : TGs := is.foldr (fun i t => gCons (gName i) t) gNil
theorem setAll_ok {B : Bd} {F H : Hp} {Q : St → Hp → Prop} : ∀ (is : List Nat) (ds : List PyData) (vs : List V) (ρ ρ' : Env) (σ : St), setAll is ds ρ = some ρ' → RpAll B.K F ds vs → Rel B F H ρ σ → (∀ i ∈ is, B.vs.length ≤ i) → (∀ σ', Rel B F H ρ' σ' → Q σ' H) → tgsOf is vs σ H Q
  | [], [], vs, ρ, ρ', σ, h, hv, R, _, q => by
    cases hv
    cases h
    exact ⟨rfl, q σ R⟩
  | i :: is, d :: ds, vs, ρ, ρ', σ, h, hv, R, hb, q => by
    cases hv with
    | cons h1 h2 => exact ⟨_, _, rfl, setAll_ok is ds _ (ρ.set i (.val d)) ρ' _ h h2 (R.put (s := .val d) h1 i (hb i List.mem_cons_self)) (fun j hj => hb j (List.mem_cons_of_mem _ hj)) q⟩
  | [], _ :: _, _, _, _, _, h, _, _, _, _ => by cases h
  | _ :: _, [], _, _, _, _, h, _, _, _, _ => by cases h
theorem rpAll_len {K : PySem.W.Frag} {H : Hp} {ds : List PyData} {vs : List V} (h : RpAll K H ds vs) : ds.length = vs.length := RpAll.length h
theorem setAll_len : ∀ (is : List Nat) (ds : List PyData) (ρ ρ' : Env), setAll is ds ρ = some ρ' → is.length = ds.length
  | [], [], _, _, _ => rfl
  | i :: is, d :: ds, ρ, ρ', h => congrArg Nat.succ (setAll_len is ds _ ρ' h)
  | [], _ :: _, _, _, h => by cases h
  | _ :: _, [], _, _, h => by cases h
/-- plain names as targets -/
inductive Tgs (N : List Str) (g : Str → Bool) : List Expr → List Nat → Prop
  | nil : Tgs N g [] []
  | cons {i : Nat} {x : Str} {pos : Pos} {es : List Expr} {is : List Nat} : N[i]? = some x → g x = true → Tgs N g es is → Tgs N g (.Name x pos :: es) (i :: is)
/-- names that may be stored in X -/
def MayPut (X : Cx) (g : Str → Bool) : Prop := ∀ x, g x = true → Loc X.env.scope x ∧ (X.fn x = true ∨ X.env.scope.names.lookup x = some .local)
theorem Tgs.pgs {X : Cx} {Φ : Calls} {g : Str → Bool} (C : CtxOk Γ Φ X) (hf : MayPut X g) : ∀ {es : List Expr} {is : List Nat}, Tgs Γ.N g es is → PGs X es (tgsOf is)
  | _, _, .nil => pgs_nil
  | _, _, .cons h1 h2 h3 => pgs_cons (pg_name (by rw [C.nm]; exact C.nd) (by rw [C.nm]; exact h1) (hf _ h2).1 (hf _ h2).2) (Tgs.pgs C hf h3)
theorem mayPut_body {X : Cx} {Φ : Calls} (C : CtxOk Γ Φ X) (BO : BodyOk X) : MayPut X (locB Γ.sc) := fun x h => ⟨by rw [C.sc]; exact loc_of h, .inl (BO.fn x)⟩
theorem Tgs.each {N : List Str} {g : Str → Bool} {env : PySem.Env} : ∀ {es : List Expr} {is : List Nat}, Tgs N g es is → (assignEach es env).length = is.length ∧ (assignEach es env).findIdx? (·.1) = none
  | _, _, .nil => ⟨rfl, rfl⟩
  | _, _, .cons (x := x) (pos := pos) (es := es) _ _ h3 => by
    obtain ⟨g1, g2⟩ := Tgs.each (env := env) h3
    refine ⟨by show ((false, assign (.Name x pos) env) :: assignEach es env).length = _; rw [List.length_cons, g1]; rfl, ?_⟩
    show ((false, assign (.Name x pos) env) :: assignEach es env).findIdx? (·.1) = none
    rw [List.findIdx?_cons, g2]
    rfl
def notTuple : Expr → Bool
  | .Tuple _ _ _ => false
  | _ => true
theorem stores_of {ts : List Expr} {k : Nat} {tpos : Pos} {env : PySem.Env} (h : notTuple e = true) : swappedStores [.Tuple ts k tpos] e env = pure none := by
  unfold swappedStores
  cases e <;> first | rfl | cases h
theorem sole_of {t : Expr} {l : Nat} {env : PySem.Env} (h : notComp e = true) : swapsWithSole [t] e l env = pure false := swap_of h
theorem snd_unp {ts : List Expr} {is : List Nat} {k : Nat} {tpos : Pos} (ht : Tgs Γ.N (locB Γ.sc) ts is) (hi : is.all (fun i => decide (Γ.np ≤ i)) = true) (h : SndE Γ e d p) (he : notComp e = true) (hn : notTuple e = true) : SndS Γ (.Assign [.Tuple ts k tpos] e pos) (dUnp is d) := by
  intro X Φ B F H ρ σ D W C BO bo hK T R hq
  obtain ⟨hl, hz⟩ := ht.each (env := X.env)
  refine PS.w (ps_asg pe_w (pg_tup C.calm (ht.pgs C (mayPut_body C BO)) hl hz) (sole_of he) (stores_of hn) rfl) ?_
  refine h X Φ B F H ρ σ _ W C hK T R (wp_mono (wp_bind (c := d Φ ρ) hq) (fun r q v F1 H1 R1 e1 _ hv => ?_) ExS.ex)
  obtain ⟨s, ρ1⟩ := r
  cases s with
  | val y =>
    cases y with
    | tuple ds =>
      have hv : Rp B.K F1 (.tuple ds) v := hv
      replace q : ((opt (setAll is ds ρ1)).bind fun ρ => Out.ok (Fl.nx, ρ)).wp (StP B F D) (ExS X B F W) := q
      cases g : setAll is ds ρ1 with
      | none => rw [g] at q; exact q.elim
      | some ρ2 =>
        rw [g] at q
        cases hv with
        | tup h1 h2 h3 =>
          exact ⟨_, _, rfl, .inl (.inr ⟨_, R1.kept.ex _ _ h1⟩), by rw [← rpAll_len h3, ← setAll_len _ _ _ _ g], setAll_ok is ds _ ρ1 ρ2 σ g h3 R1 (fun i hi' => Nat.le_trans bo.vs (of_decide_eq_true (List.all_eq_true.mp hi i hi'))) fun σ' R' => q σ' F1 H1 R' e1⟩
    | _ => exact q.elim
  | _ => exact q.elim

/-! ### changes of own lists -/
theorem Rel.alter {B : Bd} {F H : Hp} {ρ : Env} {σ : St} {s s' : Slot} {a : Addr} {o' : HO} (R : Rel B F H ρ σ) {i : Nat} (h : ρ[i]? = some s) (hs : s.isOwn = true) (ha : σ[i]? = some (some (.ref a))) (ho : OwnIs B.K F a o' s') : Rel B F (upd H a o') (ρ.set i s') σ := by
  obtain ⟨b, o, g1, g2, g3, g4, g5⟩ := R.sl.own i s h hs
  rw [ha] at g1
  cases g1
  have hs' := own_of_ownIs ho
  have hx : ∀ {c : Addr} {u : HO}, F c = some u → c ≠ a := fun {c u} q z => by subst z; rw [g2] at q; cases q
  refine ⟨⟨R.kept.ff, fun c u q => by rw [upd_ne (hx q)]; exact R.kept.ex _ _ q, fun c u q n => ?_, R.kept.nof, fun c q => ?_⟩, ⟨by rw [List.length_set]; exact R.sl.len, fun j d q => ?_, fun j ns q => ?_, fun j t q qs => ?_, R.sl.par, fun j m t u c ne q qs q' qs' e1 e2 => ?_⟩⟩
  · have : c ≠ a := fun z => by
      subst z
      rcases g5 with y | y
      · exact n ⟨i, y⟩
      · rw [q] at y; cases y
    rw [upd_ne this]
    exact R.kept.keep c u q n
  · by_cases z : c = a
    · subst z; rw [upd_same]; exact fun y => nomatch y
    · rw [upd_ne z]; exact R.kept.live c q
  · rcases set_get q with ⟨z1, z2, _⟩ | ⟨_, z⟩
    · rw [← z2] at hs'; cases hs'
    · exact R.sl.val j d z
  · rcases set_get q with ⟨z1, z2, _⟩ | ⟨_, z⟩
    · rw [← z2] at hs'; cases hs'
    · exact R.sl.scr j ns z
  · rcases set_get q with ⟨z1, z2, _⟩ | ⟨z1, z⟩
    · subst z1
      subst z2
      exact ⟨a, o', ha, g2, upd_same, ho, g5⟩
    · obtain ⟨c, u, k1, k2, k3, k4, k5⟩ := R.sl.own j t z qs
      have : c ≠ a := fun y => by subst y; exact R.sl.dis j i t s c z1 z qs h hs k1 ha
      exact ⟨c, u, k1, k2, by rw [upd_ne this]; exact k3, k4, k5⟩
  · rcases set_get q with ⟨z1, z2, _⟩ | ⟨z1, z⟩
    · subst z1
      rcases set_get q' with ⟨z3, _, _⟩ | ⟨z3, z4⟩
      · exact ne z3.symm
      · exact R.sl.dis j m s u c ne h hs z4 qs' e1 e2
    · rcases set_get q' with ⟨z3, _, _⟩ | ⟨z3, z4⟩
      · subst z3
        exact R.sl.dis j m t s c ne z qs h hs e1 e2
      · exact R.sl.dis j m t u c ne z qs z4 qs' e1 e2
theorem RpAll.app {K : PySem.W.Frag} {F : Hp} : ∀ {ds es : List PyData} {vs ws : List V}, RpAll K F ds vs → RpAll K F es ws → RpAll K F (ds ++ es) (vs ++ ws)
  | [], _, _, _, h, h' => by cases h; exact h'
  | _ :: _, _, _, _, h, h' => by
    cases h with
    | cons h1 h2 => exact .cons h1 (RpAll.app h2 h')
theorem RpAll.setAt {K : PySem.W.Frag} {F : Hp} {d : PyData} {v : V} (r : Rp K F d v) : ∀ {ds : List PyData} {vs : List V} (j : Nat), RpAll K F ds vs → RpAll K F (ds.set j d) (vs.set j v)
  | [], _, _, h => by cases h; exact .nil
  | _ :: _, _, 0, h => by
    cases h with
    | cons h1 h2 => exact .cons r h2
  | _ :: _, _, j + 1, h => by
    cases h with
    | cons h1 h2 => exact .cons h1 (RpAll.setAt r j h2)
theorem RpAll.at' {K : PySem.W.Frag} {F : Hp} : ∀ {ds : List PyData} {vs : List V} {j : Nat} {d : PyData}, RpAll K F ds vs → ds[j]? = some d → ∃ v, vs[j]? = some v ∧ Rp K F d v
  | [], _, _, _, _, q => by simp at q
  | _ :: _, _, 0, _, h, q => by
    cases h with
    | cons h1 h2 => simp at q; subst q; exact ⟨_, rfl, h1⟩
  | _ :: _, _, j + 1, _, h, q => by
    cases h with
    | cons h1 h2 =>
      obtain ⟨v, g1, g2⟩ := RpAll.at' (j := j) h2 (by simpa using q)
      exact ⟨v, by simpa using g1, g2⟩
theorem RpAll.rev {K : PySem.W.Frag} {F : Hp} : ∀ {ds : List PyData} {vs : List V}, RpAll K F ds vs → RpAll K F ds.reverse vs.reverse
  | [], _, h => by cases h; exact .nil
  | _ :: _, _, h => by
    cases h with
    | cons h1 h2 =>
      rw [List.reverse_cons, List.reverse_cons]
      exact (RpAll.rev h2).app (.cons h1 .nil)
theorem RpAll.take {K : PySem.W.Frag} {F : Hp} : ∀ {ds : List PyData} {vs : List V} (n : Nat), RpAll K F ds vs → RpAll K F (ds.take n) (vs.take n)
  | _, _, 0, _ => .nil
  | [], _, n + 1, h => by cases h; exact .nil
  | _ :: _, _, n + 1, h => by
    cases h with
    | cons h1 h2 => exact .cons h1 (RpAll.take n h2)
theorem RpAll.drop {K : PySem.W.Frag} {F : Hp} : ∀ {ds : List PyData} {vs : List V} (n : Nat), RpAll K F ds vs → RpAll K F (ds.drop n) (vs.drop n)
  | _, _, 0, h => h
  | [], _, n + 1, h => by cases h; exact .nil
  | _ :: _, _, n + 1, h => by
    cases h with
    | cons h1 h2 => exact RpAll.drop n h2
theorem RpAll.erase {K : PySem.W.Frag} {F : Hp} : ∀ {ds : List PyData} {vs : List V} (n : Nat), RpAll K F ds vs → RpAll K F (ds.eraseIdx n) (vs.eraseIdx n)
  | [], _, _, h => by cases h; exact .nil
  | _ :: _, _, 0, h => by
    cases h with
    | cons h1 h2 => exact h2
  | _ :: _, _, n + 1, h => by
    cases h with
    | cons h1 h2 => exact .cons h1 (RpAll.erase n h2)
def isOwnL (ρ : Env) (i : Nat) : Bool := match ρ[i]? with
  | some (.own _) => true
  | _ => false
theorem isOwnL_of {ρ : Env} {i : Nat} (h : isOwnL ρ i = true) : ∃ ds, ρ[i]? = some (.own ds) := by
  unfold isOwnL at h
  cases e : ρ[i]? with
  | none => rw [e] at h; cases h
  | some s =>
    rw [e] at h
    cases s with
    | own ds => exact ⟨ds, rfl⟩
    | _ => cases h
/-- x[k] = e, x an own list -/
def dSetIx (i : Nat) (k : DenO) (e : Den) : DenS := fun Φ ρ => (oOf e Φ ρ).bind fun r => guard' (isOwnL r.2 i) ((k Φ r.2).bind fun j => match j.1, j.2[i]? with
  | .int n, some (.own ds) => (opt (ixN ds.length n)).bind fun m => .ok (.nx, j.2.set i (.own (ds.set m r.1)))
  | _, _ => .stuck)
theorem snd_setIx {k : DenO} {pm : Bool} {p' : Bool} {xpos spos : Pos} (hN : Γ.N[i]? = some x) (hv : visB Γ.sc x = true) (hx : okName x = true) (h : SndE Γ e d p) (hk : SndO Γ c k p' pm) (he : notComp e = true) (hc : notSlice c = true) :
    SndS Γ (.Assign [.Subscript (.Name x xpos) c spos] e pos) (dSetIx i k d) := by
  intro X Φ B F H ρ σ D W C BO bo hK T R hq
  have P : PE X (.Name x xpos) (tVar i) := pe_var (by rw [C.nm]; exact hN) (by rw [C.sc]; exact vis_of hv) (okName_d hx) (okName_c hx)
  refine PS.w (ps_asg pe_w (pg_sub P pe_w set_list (by intro v; cases c <;> first | rfl | cases hc)) (sole_of he) (by unfold swappedStores; cases e <;> rfl) rfl) ?_
  refine snd_oOf h X Φ B F H ρ σ _ W C hK T R (wp_mono (wp_bind (c := oOf d Φ ρ) hq) (fun r q v F1 H1 R1 e1 _ hv => ?_) ExS.ex)
  obtain ⟨y, ρ1⟩ := r
  have hv : Rp B.K F1 y v := hv
  obtain ⟨ho, q⟩ := wp_guard q
  obtain ⟨ds, ho⟩ := isOwnL_of ho
  have R1 : Rel B F1 H1 ρ1 σ := R1
  obtain ⟨a, o, g1, g2, g3, g4, g5⟩ := R1.sl.own i _ ho rfl
  refine ⟨_, g1, ?_⟩
  refine hk X Φ B F1 H1 ρ1 σ _ W C hK T R1 (wp_mono (wp_bind (c := k Φ ρ1) q) (fun j q w F2 H2 R2 e3 _ hw => ?_) fun z q => ExS.ex z (ExS.mono e1 z q))
  obtain ⟨j, ρ2⟩ := j
  have R2 : Rel B F2 H2 ρ2 σ := R2
  cases j with
  | int n =>
    replace q : (match ρ2[i]? with
      | some (.own ds) => (opt (ixN ds.length n)).bind fun m => Out.ok (Fl.nx, ρ2.set i (.own (ds.set m y)))
      | _ => .stuck).wp (StP B F D) (ExS X B F W) := by
      cases z : ρ2[i]? with
      | none => simp only [z] at q; exact q
      | some s => simp only [z] at q; cases s <;> exact q
    cases z : ρ2[i]? with
    | none => rw [z] at q; exact q.elim
    | some s =>
      rw [z] at q
      cases s with
      | own ds2 =>
        obtain ⟨a', o', k1, k2, k3, k4, k5⟩ := R2.sl.own i _ z rfl
        rw [g1] at k1
        cases k1
        obtain ⟨vs, rfl, rv⟩ := k4
        replace q : ((opt (ixN ds2.length n)).bind fun m => Out.ok (Fl.nx, ρ2.set i (.own (ds2.set m y)))).wp (StP B F D) (ExS X B F W) := q
        cases hm : ixN ds2.length n with
        | none => rw [hm] at q; exact q.elim
        | some m =>
          rw [hm] at q
          exact ⟨a, vs, n, m, rfl, hw.bp.int, k3, by rw [← rpAll_len rv]; exact hm, q σ F2 _ (R2.alter z rfl g1 ⟨_, rfl, RpAll.setAt (hv.mono e3) m rv⟩) (e1.trans e3)⟩
      | _ => exact q.elim
  | _ =>
    cases z : ρ2[i]? with
    | none => simp only [z] at q; exact q.elim
    | some s => simp only [z] at q; cases s <;> exact q.elim
/-! ### methods that change an own list -/
abbrev MutF := List PyData → List PyData → Option (PyData × List PyData)
def RuleM (K : PySem.W.Frag) (r : V → List V → Hp → VK → Prop) (f : MutF) : Prop := ∀ (F H : Hp) (a : Addr) (ds as : List PyData) (vs avs : List V) (res : PyData) (ds' : List PyData) (Q : VK), Ex F H → F a = none → H a = some (.lst vs) → RpAll K F ds vs → RpAll K F as avs → f ds as = some (res, ds') →
  (∀ v vs', Rp K F res v → RpAll K F ds' vs' → Q v (upd H a (.lst vs'))) → r (.ref a) avs H Q
def dMut (i : Nat) (f : MutF) (as : DenOs) : Den := fun Φ ρ => guard' (isOwnL ρ i) ((as Φ ρ).bind fun r => match r.2[i]? with
  | some (.own ds) => (opt (f ds r.1)).bind fun m => .ok (.val m.1, r.2.set i (.own m.2))
  | _ => .stuck)
theorem mut_run {f : MutF} {r : V → List V → Hp → VK → Prop} {X : Cx} {B : Bd} {F H F1 H1 : Hp} {ρ1 : Env} {σ : St} {Q : VK} {W : WX} {as : List PyData} {avs : List V} {a : Addr} (hr : RuleM B.K r f) (R1 : Rel B F1 H1 ρ1 σ) (e1 : Ex F F1) (g1 : σ[i]? = some (some (.ref a))) (hv : RpAll B.K F1 as avs)
    (q : (match ρ1[i]? with
      | some (.own ds) => (opt (f ds as)).bind fun m => Out.ok (Slot.val m.1, ρ1.set i (.own m.2))
      | _ => .stuck).wp (EvP B F H σ false Q) (ExP X B F σ W)) : r (.ref a) avs H1 Q := by
  cases z : ρ1[i]? with
  | none => rw [z] at q; exact q.elim
  | some s =>
    rw [z] at q
    cases s with
    | own ds2 =>
      obtain ⟨a', o', k1, k2, k3, k4, k5⟩ := R1.sl.own i _ z rfl
      rw [g1] at k1
      cases k1
      obtain ⟨vs, rfl, rv⟩ := k4
      replace q : ((opt (f ds2 as)).bind fun m => Out.ok (Slot.val m.1, ρ1.set i (.own m.2))).wp (EvP B F H σ false Q) (ExP X B F σ W) := q
      cases hm : f ds2 as with
      | none => rw [hm] at q; exact q.elim
      | some m =>
        rw [hm] at q
        exact hr F1 H1 a ds2 as vs avs m.1 m.2 Q R1.kept.ex k2 k3 rv hv hm fun v vs' h1 h2 => q v F1 _ (R1.alter z rfl g1 ⟨_, rfl, h2⟩) e1 (fun z => nomatch z) h1
    | _ => exact q.elim
theorem snd_mut {f : MutF} {id : String} {m : Str} {r : V → List V → Hp → VK → Prop} {as : DenOs} {es : List Expr} {xpos apos : Pos} (slot : PySem.Slot "list" m id) (hty : typeOf (.builtin id) = pure (.type "method_descriptor")) (ho : ∀ (X : Cx), X.calm = true → MtR X id r) (hr : ∀ K, RuleM K r f)
    (hN : Γ.N[i]? = some x) (hv : visB Γ.sc x = true) (hx : okName x = true) (h : SndFs Γ (e :: es) as p) (he : (e :: es).all plainE = true) (hl : (e :: es).length < 20) (hline : (apos.endLine == pos.line) = true) : SndE Γ (.Call (.Attribute (.Name x xpos) m apos) (e :: es) [] pos) (dMut i f as) false := by
  intro X Φ B F H ρ σ Q W C hK T R hq
  have P : PE X (.Name x xpos) (tVar i) := pe_var (by rw [C.nm]; exact hN) (by rw [C.sc]; exact vis_of hv) (okName_d hx) (okName_c hx)
  have he' := he
  rw [List.all_cons, Bool.and_eq_true] at he'
  obtain ⟨h1, hq⟩ := wp_guard hq
  obtain ⟨ds, h1⟩ := isOwnL_of h1
  obtain ⟨a, o, g1, g2, g3, g4, g5⟩ := R.sl.own i _ h1 rfl
  obtain ⟨vs0, rfl, _⟩ := g4
  refine PE.w (pe_bm PySem.F.plainAttrs_list slot hty (ho X C.calm) P (pa_ws he) (base_of rfl) (few_of he hl) hline (star_of he'.1) (plain_any he'.2)) ⟨_, g1, .inl ⟨rfl, _, .inl (.inl g3)⟩, ?_⟩
  refine h X Φ B F H ρ σ _ W C hK T R (wp_mono (wp_bind (c := as Φ ρ) hq) (fun y q avs F1 H1 R1 e1 _ hv => ?_) fun _ z => z)
  exact mut_run (hr B.K) R1 e1 g1 hv q
end
end Dn

/-! Den6: loops and comprehensions. -/
namespace Dn
open PySem PySem.Spec L2
open PyProof.Rows hiding St

/-! ### targets -/
inductive Tgt | nm (i : Nat) | tp (is : List Nat)
def Tgt.isTp : Tgt → Bool
  | .nm _ => false
  | .tp _ => true
def Tgt.ix : Tgt → List Nat
  | .nm i => [i]
  | .tp is => is
def putT : Tgt → PyData → Env → Option Env
  | .nm i, d, ρ => some (ρ.set i (.val d))
  | .tp is, .tuple ds, ρ => setAll is ds ρ
  | .tp _, _, _ => none
/-- x stands for d as what a target takes -/
def Taken (tp : Bool) (K : PySem.W.Frag) (F H : Hp) (d : PyData) (x : V) : Prop := match tp with
  | false => Rp K F d x
  | true => ∀ ds, d = .tuple ds → ∃ a vs, x = .ref a ∧ SqT K H a vs ∧ RpAll K F ds vs
inductive TgtOk (N : List Str) (g : Str → Bool) : Expr → Tgt → Prop
  | nm {i : Nat} {x : Str} {pos : Pos} : N[i]? = some x → g x = true → TgtOk N g (.Name x pos) (.nm i)
  | tp {es : List Expr} {is : List Nat} {k : Nat} {pos : Pos} : Tgs N g es is → TgtOk N g (.Tuple es k pos) (.tp is)
def tgOf (K : PySem.W.Frag) : Tgt → TG
  | .nm i => gName i
  | .tp is => gTup K is.length (tgsOf is)
section
variable {Γ : Ctx} {X : Cx} {Φ : Calls} {g : Str → Bool} {tg : Expr} {t : Tgt}
theorem TgtOk.pg (C : CtxOk Γ Φ X) (hf : MayPut X g) (h : TgtOk Γ.N g tg t) : PG X tg (tgOf X.K t) := by
  cases h with
  | nm h1 h2 => exact pg_name (by rw [C.nm]; exact C.nd) (by rw [C.nm]; exact h1) (hf _ h2).1 (hf _ h2).2
  | tp h1 =>
    obtain ⟨hl, hz⟩ := h1.each (env := X.env)
    exact pg_tup C.calm (h1.pgs C hf) hl hz
theorem put_ok {B : Bd} {F H : Hp} {Q : St → Hp → Prop} {ρ ρ' : Env} {σ : St} {d : PyData} {x : V} (h : putT t d ρ = some ρ') (hx : Taken t.isTp B.K F H d x) (R : Rel B F H ρ σ) (hb : ∀ i ∈ t.ix, B.vs.length ≤ i) (q : ∀ σ', Rel B F H ρ' σ' → Q σ' H) : tgOf B.K t x σ H Q := by
  cases t with
  | nm i =>
    cases h
    exact q _ (R.put (s := .val d) hx i (hb i List.mem_cons_self))
  | tp is =>
    cases d with
    | tuple ds =>
      obtain ⟨a, vs, h1, h2, h3⟩ := hx ds rfl
      exact ⟨a, vs, h1, h2, by rw [← rpAll_len h3, ← setAll_len _ _ _ _ h], setAll_ok is ds vs ρ ρ' σ h h3 R hb q⟩
    | _ => cases h
end

/-! ### what is walked -/
/-- an iterator yields these -/
structure Src (tp : Bool) (K : PySem.W.Frag) (F : Hp) (J : It) (ds : List PyData) : Prop where
  go : ∀ (i : Nat) (H : Hp) (d : PyData), Ex F H → ds[i]? = some d → J.go i H ∧ ∀ x H', J.yld i H x H' → ∀ F2, Ex F F2 → Ex F2 H → (∀ a, H a ≠ none → H' a ≠ none) ∧ Grow F2 H F2 H' ∧ Taken tp K F2 H' d x
  stop : ∀ (i : Nat) (H : Hp), Ex F H → ds.length ≤ i → J.stop i H
def wI (X : Cx) (tg iter : Expr) : TI := fun σ H R => ∀ pins s, Inv X pins σ H s → wpAny (model X.prog X.w) X.A (eval iter X.env) (fun v s1 => wpAny (model X.prog X.w) X.A (pyIter v) (PIE X pins σ tg R) X.xe s1) X.xe s
theorem pi_w {X : Cx} {tg iter : Expr} : PI X tg iter (wI X tg iter) := ⟨fun pins s σ H R I h => h pins s I⟩
theorem _root_.L2.PI.w {X : Cx} {tg iter : Expr} {wi : TI} {σ : St} {H : Hp} {R : It → Hp → Prop} (h : PI X tg iter wi) (q : wi σ H R) : wI X tg iter σ H R := fun pins s I => h.run pins s σ H R I q
abbrev DenI := Calls → Env → Out (List PyData × Env)
def SrP (B : Bd) (F H : Hp) (σ : St) (p tp : Bool) (R : It → Hp → Prop) : List PyData × Env → Prop := fun r => ∀ J F' H', Rel B F' H' r.2 σ → Ex F F' → (p = true → Ex H H') → Src tp B.K F' J r.1 → R J H'
def SndI (Γ : Ctx) (tg iter : Expr) (d : DenI) (p tp : Bool) : Prop := ∀ (X : Cx) (Φ : Calls) (B : Bd) (F H : Hp) (ρ : Env) (σ : St) (R : It → Hp → Prop) (W : WX), CtxOk Γ Φ X → B.K = X.K → L2N.Takes X W → Rel B F H ρ σ →
  (d Φ ρ).wp (SrP B F H σ p tp R) (ExP X B F σ W) → wI X tg iter σ H R
/-- a list, a tuple -/
def iSeq (d : DenO) : DenI := fun Φ ρ => (d Φ ρ).bind fun r => match r.1 with
  | .list ds => .ok (ds, r.2)
  | .tuple ds => .ok (ds, r.2)
  | _ => .stuck
def rngD (lo : Int) (n : Nat) : List PyData := (List.range n).map fun i => .int (lo + (i : Nat))
@[irreducible] def small62 (i : Int) : Bool := decide (-(2 ^ 62) ≤ i) && decide (i < 2 ^ 62)
def iR1 (a : DenO) : DenI := fun Φ ρ => (a Φ ρ).bind fun r => match r.1 with
  | .int n => guard' (small62 n) (.ok (rngD 0 n.toNat, r.2))
  | _ => .stuck
def iR2 (a b : DenO) : DenI := fun Φ ρ => (a Φ ρ).bind fun r => (b Φ r.2).bind fun s => match r.1, s.1 with
  | .int i, .int j => guard' (small62 i && small62 j) (.ok (rngD i (j - i).toNat, s.2))
  | _, _ => .stuck
section
variable {Γ : Ctx} {tg e a b : Expr} {d d' : DenO} {p p' m m' tp : Bool} {fpos pos : Pos}
theorem taken_of {K : PySem.W.Frag} {F H : Hp} {d : PyData} {x : V} (e : Ex F H) (h : Rp K F d x) : Taken tp K F H d x := by
  cases tp with
  | false => exact h
  | true =>
    intro ds z
    subst z
    cases h with
    | tup h1 h2 h3 => exact ⟨_, _, rfl, .inl (.inr ⟨_, e _ _ h1⟩), h3⟩
theorem src_list {K : PySem.W.Frag} {F : Hp} {l : Addr} {vs : List V} {ds : List PyData} (h : F l = some (.lst vs)) (r : RpAll K F ds vs) : Src tp K F (Itl K l) ds := by
  refine ⟨fun i H d e q => ?_, fun i H e q => ⟨vs, .inl (.inl (e _ _ h)), by rw [← rpAll_len r]; exact q⟩⟩
  obtain ⟨v, h1, h2⟩ := RpAll.at' r q
  refine ⟨⟨vs, v, .inl (.inl (e _ _ h)), h1⟩, fun x H' y F2 e2 e3 => ?_⟩
  obtain ⟨z, y⟩ := y
  subst z
  have ex := y vs (.inl (.inl (e _ _ h)))
  rw [h1] at ex
  cases ex
  exact ⟨fun _ z => z, .refl e3, taken_of e3 (h2.mono e2)⟩
theorem src_tup {K : PySem.W.Frag} {F : Hp} {l : Addr} {o : Obj} {vs : List V} {ds : List PyData} (h : F l = some (.frz o (.tup vs))) (r : RpAll K F ds vs) : Src tp K F (Itt K l) ds := by
  have s : ∀ {H : Hp}, Ex F H → SqT K H l vs := fun e => .inl (.inr ⟨o, e _ _ h⟩)
  refine ⟨fun i H d e q => ?_, fun i H e q => ⟨vs, s e, by rw [← rpAll_len r]; exact q⟩⟩
  obtain ⟨v, h1, h2⟩ := RpAll.at' r q
  refine ⟨⟨vs, v, s e, h1⟩, fun x H' y F2 e2 e3 => ?_⟩
  obtain ⟨z, y⟩ := y
  subst z
  have ex := y vs (s e)
  rw [h1] at ex
  cases ex
  exact ⟨fun _ z => z, .refl e3, taken_of e3 (h2.mono e2)⟩
theorem src_rng {K : PySem.W.Frag} {F : Hp} {lo : Int} {n : Nat} : Src false K F (Itr lo n) (rngD lo n) := by
  have hl : (rngD lo n).length = n := by simp [rngD]
  refine ⟨fun i H d e q => ?_, fun i H e q => by show n ≤ i; rw [← hl]; exact q⟩
  have hi : i < n := by rw [← hl]; exact (List.getElem?_eq_some_iff.mp q).1
  refine ⟨hi, fun x H' y F2 e2 e3 => ?_⟩
  obtain ⟨z, y⟩ := y
  subst z
  subst y
  have : d = .int (lo + (i : Nat)) := by
    unfold rngD at q
    rw [List.getElem?_map, List.getElem?_range hi] at q
    exact (Option.some.inj q).symm
  subst this
  exact ⟨fun _ z => z, .refl e3, Rp.int _⟩
/-- a list or a tuple, whichever comes -/
theorem pi_seq {X : Cx} {l : Expr} {tl : TE} (hl : PE X l tl) : PI X tg l (fun σ H R => tl σ H fun x H1 => (∃ a, x = .ref a ∧ (∃ xs, SqL X.K H1 a xs) ∧ R (Itl X.K a) H1) ∨ (∃ a, x = .ref a ∧ (∃ xs, SqT X.K H1 a xs) ∧ R (Itt X.K a) H1)) := by
  refine ⟨fun pins s σ H R I h => ?_⟩
  refine thn (hl.run pins s σ H _ I h) fun v s1 ⟨x, H1, I1, r1, q1⟩ => ?_
  rcases q1 with ⟨a, e, ⟨xs, hq⟩, q⟩ | ⟨a, e, ⟨xs, hq⟩, q⟩
  · subst e
    cases r1
    obtain ⟨its, rv, p, hz⟩ := I1.list hq
    refine wpAny_pyIter_list p.isList ?_
    refine ⟨s1.heap.objs.size, [s1.heap.objs.size], _, _, H1, rfl, I1.kept (t' := s1.toks) fun b o e => Heap.get?_push_of_some _ e, turn_list a _, ⟨_, Heap.get?_push_size _ rfl, rfl, rfl⟩, fun b hb => ?_, q⟩
    have e : b = s1.heap.objs.size := by simpa using hb
    subst e
    exact I1.fpOk (Nat.le_refl _) (I1.hok.fresh (Nat.le_refl _))
  · subst e
    cases r1
    obtain ⟨its, rv, p, hz⟩ := I1.tuple hq
    refine wpAny_pyIter_tuple (show s1.heap.IsTuple a its.toArray from p) ?_
    refine ⟨s1.heap.objs.size, [s1.heap.objs.size], _, _, H1, rfl, I1.kept (t' := s1.toks) fun b o e => Heap.get?_push_of_some _ e, turn_tuple a _, ⟨_, Heap.get?_push_size _ rfl, rfl, rfl⟩, fun b hb => ?_, q⟩
    have e : b = s1.heap.objs.size := by simpa using hb
    subst e
    exact I1.fpOk (Nat.le_refl _) (I1.hok.fresh (Nat.le_refl _))
theorem snd_iSeq (h : SndO Γ e d p false) : SndI Γ tg e (iSeq d) p tp := by
  intro X Φ B F H ρ σ R W C hK T Rl hq
  refine PI.w (pi_seq pe_w) ?_
  refine h X Φ B F H ρ σ _ W C hK T Rl (wp_mono (wp_bind (c := d Φ ρ) hq) (fun y q v F1 H1 R1 e1 e2 hv => ?_) fun _ q => q)
  obtain ⟨y, ρ1⟩ := y
  have hv : Rp B.K F1 y v := hv
  cases y with
  | list ds =>
    cases hv with
    | lst h1 h2 => exact .inl ⟨_, rfl, ⟨_, .inl (.inl (R1.kept.ex _ _ h1))⟩, q _ F1 H1 R1 e1 e2 (hK ▸ src_list h1 h2)⟩
  | tuple ds =>
    cases hv with
    | tup h1 h2 h3 => exact .inr ⟨_, rfl, ⟨_, .inl (.inr ⟨_, R1.kept.ex _ _ h1⟩)⟩, q _ F1 H1 R1 e1 e2 (hK ▸ src_tup h1 h3)⟩
  | _ => exact q.elim
theorem small_of {i : Int} (h : small62 i = true) : -(2 ^ 62) ≤ i ∧ i < 2 ^ 62 := by
  unfold small62 at h
  simp only [Bool.and_eq_true, decide_eq_true_eq] at h
  exact h
theorem snd_iR1 (h : SndO Γ a d p m) (he : plainE a = true) (hg : Γ.sc.names.lookup ("range" : Str) = some .globalImplicit) (hf : ("range" : Str) ∈ Γ.blts) : SndI Γ tg (.Call (.Name "range" fpos) [a] [] pos) (iR1 d) p false := by
  intro X Φ B F H ρ σ R W C hK T Rl hq
  refine PI.w (pi_range1 (gl_of C hg) (C.blt _ hf) (pa_cons pe_w pa_nil (star_of he)) (star_of he)) ?_
  refine h X Φ B F H ρ σ _ W C hK T Rl (wp_mono (wp_bind (c := d Φ ρ) hq) (fun y q v F1 H1 R1 e1 e2 hv => ?_) fun _ q => q)
  obtain ⟨y, ρ1⟩ := y
  cases y with
  | int n =>
    obtain ⟨g, q⟩ := wp_guard q
    have := small_of g
    have hv := hv.bp.int
    subst hv
    exact ⟨n, rfl, this.1, this.2, q _ F1 H1 R1 e1 e2 src_rng⟩
  | _ => exact q.elim
theorem snd_iR2 (h : SndO Γ a d p m) (h' : SndO Γ b d' p' m') (he : plainE a = true) (he' : plainE b = true) (hg : Γ.sc.names.lookup ("range" : Str) = some .globalImplicit) (hf : ("range" : Str) ∈ Γ.blts) : SndI Γ tg (.Call (.Name "range" fpos) [a, b] [] pos) (iR2 d d') (p && p') false := by
  intro X Φ B F H ρ σ R W C hK T Rl hq
  refine PI.w (pi_range2 (gl_of C hg) (C.blt _ hf) (pa_cons pe_w (pa_cons pe_w pa_nil (star_of he')) (star_of he)) (by rw [star_of he, star_of he']; rfl) (star_of he')) ?_
  refine h X Φ B F H ρ σ _ W C hK T Rl (wp_mono (wp_bind (c := d Φ ρ) hq) (fun y q v F1 H1 R1 e1 e2 hv => ?_) fun _ q => q)
  refine h' X Φ B F1 H1 y.2 σ _ W C hK T R1 (wp_mono (wp_bind (c := d' Φ y.2) q) (fun z q w F2 H2 R2 e3 e4 hw => ?_) (ExP.mono e1))
  obtain ⟨y, ρ1⟩ := y
  obtain ⟨z, ρ2⟩ := z
  cases y with
  | int i =>
    cases z with
    | int j =>
      obtain ⟨g, q⟩ := wp_guard q
      rw [Bool.and_eq_true] at g
      have g1 := small_of g.1
      have g2 := small_of g.2
      have hv := hv.bp.int
      have hw := hw.bp.int
      subst hv
      subst hw
      exact ⟨i, j, rfl, ⟨g1.1, g1.2, g2.1, g2.2⟩, q _ F2 H2 R2 (e1.trans e3) (fun z => by rw [Bool.and_eq_true] at z; exact (e2 z.1).trans (e4 z.2)) src_rng⟩
    | _ => exact q.elim
  | _ => exact q.elim
end

/-! ### for -/
def forL (f : PyData → Env → Out (Fl × Env)) : List PyData → Env → Out (Fl × Env)
  | [], ρ => .ok (.nx, ρ)
  | d :: ds, ρ => (f d ρ).bind fun r => match r.1 with
    | .nx => forL f ds r.2
    | .cnt => forL f ds r.2
    | .brk => .ok (.nx, r.2)
    | .ret s => .ok (.ret s, r.2)
def dFor (t : Tgt) (s : DenI) (b : DenS) : DenS := fun Φ ρ => (s Φ ρ).bind fun r => forL (fun d ρ => (opt (putT t d ρ)).bind fun ρ => b Φ ρ) r.1 r.2
theorem folded_of {e : Expr} {env : PySem.Env} (h : notSet e = true) (x : Value) : foldedSetIterable e env x = pure x := by
  unfold foldedSetIterable
  cases e <;> first | rfl | cases h
section
variable {Γ : Ctx} {tg iter : Expr} {s : DenI} {b : DenS} {t : Tgt} {body : List Stmt} {p : Bool} {pos : Pos}
theorem snd_for (hs : SndI Γ tg iter s p t.isTp) (ht : TgtOk Γ.N (locB Γ.sc) tg t) (hi : t.ix.all (fun i => decide (Γ.np ≤ i)) = true) (hb : SndSs Γ body b) (hn : notSet iter = true) : SndS Γ (.For tg iter body [] pos) (dFor t s b) := by
  intro X Φ B F H ρ σ D W C BO bo hK T R hq
  refine PS.w (ps_for BO.hp C.calm pi_w (ht.pg C (mayPut_body C BO)) pss_w (folded_of hn)) ?_
  refine hs X Φ B F H ρ σ _ W C hK T R (wp_mono (wp_bind (c := s Φ ρ) hq) (fun r q J F1 H1 R1 e1 _ hJ => ?_) ExS.ex)
  obtain ⟨ds, ρ1⟩ := r
  have hvs : ∀ i ∈ t.ix, B.vs.length ≤ i := fun i hi' => Nat.le_trans bo.vs (of_decide_eq_true (List.all_eq_true.mp hi i hi'))
  refine ⟨fun i m σ H => m = ds.length - i ∧ i ≤ ds.length ∧ ∃ F' ρ', Rel B F' H ρ' σ ∧ Ex F1 F' ∧ (forL (fun d ρ => (opt (putT t d ρ)).bind fun ρ => b Φ ρ) (ds.drop i) ρ').wp (StP B F' D) (ExS X B F' W), ⟨_, rfl, Nat.zero_le _, F1, ρ1, R1, .refl F1, wp_mono (by rw [List.drop_zero]; exact q) (StP.mono e1) (ExS.mono e1)⟩, fun i m σ H hW => ?_⟩
  obtain ⟨rfl, hi, F', ρ', R', e', q'⟩ := hW
  by_cases hlt : i < ds.length
  · right
    obtain ⟨d, hd⟩ : ∃ d, ds[i]? = some d := ⟨_, List.getElem?_eq_getElem hlt⟩
    obtain ⟨go, yl⟩ := hJ.go i H d (e'.trans R'.kept.ex) hd
    refine ⟨go, fun σ H => ∃ F' ρ', Rel B F' H ρ' σ ∧ Ex F1 F' ∧ (forL (fun d ρ => (opt (putT t d ρ)).bind fun ρ => b Φ ρ) (ds.drop (i + 1)) ρ').wp (StP B F' D) (ExS X B F' W), fun σ' H' n => ⟨ds.length - (i + 1), by omega, rfl, hlt, n⟩, fun x H' y => ?_⟩
    obtain ⟨_, gr, tk⟩ := yl x H' y F' e' R'.kept.ex
    have ed : ds.drop i = d :: ds.drop (i + 1) := by
      have := List.drop_eq_getElem_cons hlt
      rw [this]
      rw [List.getElem?_eq_getElem hlt] at hd
      rw [Option.some.inj hd]
    rw [ed] at q'
    have q' := wp_bind (c := (opt (putT t d ρ')).bind fun ρ => b Φ ρ) q'
    have R2 := R'.add gr
    cases g : putT t d ρ' with
    | none => rw [g] at q'; exact q'.elim
    | some ρ2 =>
      rw [g] at q'
      replace q' : (b Φ ρ2).wp _ _ := q'
      rw [← hK]
      refine put_ok g tk R2 hvs fun σ2 R3 => ?_
      refine hb X Φ B F' H' ρ2 σ2 _ W C BO bo hK T R3 (wp_mono q' (fun r q2 => ?_) fun _ z => z)
      obtain ⟨f, ρ3⟩ := r
      cases f with
      | nx => exact fun σ3 F3 H3 R4 e4 => ⟨F3, ρ3, R4, e'.trans e4, wp_mono q2 (StP.mono e4) (ExS.mono e4)⟩
      | cnt => exact fun σ3 F3 H3 R4 e4 => ⟨F3, ρ3, R4, e'.trans e4, wp_mono q2 (StP.mono e4) (ExS.mono e4)⟩
      | brk => exact q2
      | ret s => exact q2
  · left
    have ei : i = ds.length := by omega
    subst ei
    refine ⟨hJ.stop _ H (e'.trans R'.kept.ex) (Nat.le_refl _), ?_⟩
    rw [List.drop_length] at q'
    exact q' σ F' H R' (.refl F')
/-! ### while -/
def whileN (c : Den) (b : DenS) (Φ : Calls) : Nat → Env → Out (Fl × Env)
  | 0, _ => .stuck
  | n + 1, ρ => (c Φ ρ).bind fun r => match r.1 with
    | .val (.bool true) => (b Φ r.2).bind fun s => match s.1 with
      | .nx => whileN c b Φ n s.2
      | .cnt => whileN c b Φ n s.2
      | .brk => .ok (.nx, s.2)
      | .ret x => .ok (.ret x, s.2)
    | .val (.bool false) => .ok (.nx, r.2)
    | _ => .stuck
def turnsMost : Nat := 100000
def dWhile (c : Den) (b : DenS) : DenS := fun Φ ρ => whileN c b Φ turnsMost ρ
theorem snd_while {c : Expr} {d : Den} (hc : SndT Γ c d p) (hb : SndSs Γ body b) : SndS Γ (.While c body [] pos) (dWhile d b) := by
  intro X Φ B F H ρ σ D W C BO bo hK T R hq
  refine PS.w (ps_while BO.hp pt_w pss_w) ⟨fun m σ H => ∃ F' ρ', Rel B F' H ρ' σ ∧ Ex F F' ∧ (whileN d b Φ m ρ').wp (StP B F' D) (ExS X B F' W), ⟨turnsMost, F, ρ, R, .refl F, hq⟩, fun m σ H hW => ?_⟩
  obtain ⟨F', ρ', R', e', q'⟩ := hW
  cases m with
  | zero => exact q'.elim
  | succ n =>
    refine hc X Φ B F' H ρ' σ _ W C hK T R' (wp_mono (wp_bind (c := d Φ ρ') q') (fun r q => ?_) ExS.ex)
    obtain ⟨s, ρ1⟩ := r
    cases s with
    | val z =>
      cases z with
      | bool k =>
        refine ⟨k, rfl, fun F1 H1 R1 e1 _ => ?_⟩
        cases k with
        | true =>
          refine iteT ⟨fun σ H => ∃ F' ρ', Rel B F' H ρ' σ ∧ Ex F F' ∧ (whileN d b Φ n ρ').wp (StP B F' D) (ExS X B F' W), fun σ' H' z => ⟨n, Nat.lt_succ_self n, z⟩, ?_⟩
          refine hb X Φ B F1 H1 ρ1 σ _ W C BO bo hK T R1 (wp_mono (wp_bind (c := b Φ ρ1) q) (fun r q2 => ?_) (ExS.mono e1))
          obtain ⟨f, ρ3⟩ := r
          cases f with
          | nx => exact fun σ3 F3 H3 R4 e4 => ⟨F3, ρ3, R4, (e'.trans e1).trans e4, wp_mono q2 (StP.mono (e1.trans e4)) (ExS.mono (e1.trans e4))⟩
          | cnt => exact fun σ3 F3 H3 R4 e4 => ⟨F3, ρ3, R4, (e'.trans e1).trans e4, wp_mono q2 (StP.mono (e1.trans e4)) (ExS.mono (e1.trans e4))⟩
          | brk => exact fun σ3 F3 H3 R4 e4 => q2 σ3 F3 H3 R4 (e1.trans e4)
          | ret s => exact fun σ3 v F3 H3 R4 e4 => q2 σ3 v F3 H3 R4 (e1.trans e4)
        | false => exact iteF (q σ F1 H1 R1 e1)
      | _ => exact q.elim
    | _ => exact q.elim
end
end Dn

/-! Den7: comprehensions. -/
namespace Dn
open PySem PySem.Spec L2
open PyProof.Rows hiding St

def wipeE (vs : List Nat) (ρ : Env) : Env := vs.foldr (fun i ρ => ρ.set i .un) ρ
/-- the block's own names are as they were -/
def unwipe : List Nat → Env → Env → Env
  | [], _, ρ => ρ
  | i :: is, ρ0, ρ => match ρ0[i]? with
    | some (.val d) => (unwipe is ρ0 ρ).set i (.val d)
    | _ => unwipe is ρ0 ρ
def noX {α : Type} (c : Out α) : Out α := match c with
  | .exc _ => .stuck
  | c => c
def lcL (f : PyData → Env → Out (Option PyData × Env)) : List PyData → Env → Out (List PyData × Env)
  | [], ρ => .ok ([], ρ)
  | d :: ds, ρ => (f d ρ).bind fun r => (lcL f ds r.2).bind fun z => .ok (r.1.toList ++ z.1, z.2)
/-- one turn -/
def lcT (t : Tgt) (c e : Den) (vs : List Nat) (Φ : Calls) (d : PyData) (ρ : Env) : Out (Option PyData × Env) := (opt (putT t d ρ)).bind fun ρ => (c Φ ρ).bind fun b => match b.1 with
  | .val (.bool true) => (oOf e Φ b.2).bind fun y => .ok (some y.1, wipeE vs y.2)
  | .val (.bool false) => .ok (none, wipeE vs b.2)
  | _ => .stuck
def dLc (t : Tgt) (s : DenI) (c e : Den) (vs : List Nat) : Den := fun Φ ρ => (s Φ ρ).bind fun r => guard' (decide (r.1.length ≤ 1000000)) ((noX (lcL (lcT t c e vs Φ) r.1 (wipeE vs r.2))).bind fun z => .ok (.own z.1, unwipe vs r.2 z.2))
def dYes : Den := fun _ ρ => .ok (.val (.bool true), ρ)

section
variable {B : Bd} {F H F' H' : Hp} {ρ ρ' ρ0 : Env} {σ : St}
theorem wipeE_len (vs : List Nat) : ∀ ρ : Env, (wipeE vs ρ).length = ρ.length := by
  induction vs with
  | nil => intro ρ; rfl
  | cons v vs ih => intro ρ; show ((wipeE vs ρ).set v .un).length = _; rw [List.length_set, ih]
theorem wipeE_get {vs : List Nat} {j : Nat} {s : Slot} : ∀ {ρ : Env}, (wipeE vs ρ)[j]? = some s → s ≠ .un → ρ[j]? = some s ∧ j ∉ vs := by
  induction vs with
  | nil => intro ρ h _; exact ⟨h, by simp⟩
  | cons v vs ih =>
    intro ρ h hs
    have h : ((wipeE vs ρ).set v .un)[j]? = some s := h
    rcases set_get h with ⟨_, z, _⟩ | ⟨z1, z2⟩
    · exact absurd z hs
    · obtain ⟨g1, g2⟩ := ih z2 hs
      exact ⟨g1, by simp only [List.mem_cons, not_or]; exact ⟨z1, g2⟩⟩
theorem wipe_ne {i : Nat} : ∀ {vs : List Nat}, i ∉ vs → (wipe σ vs)[i]? = σ[i]?
  | [], _ => rfl
  | v :: vs, h => by
    simp only [List.mem_cons, not_or] at h
    show ((wipe σ vs).set v none)[i]? = _
    rw [List.getElem?_set_ne (Ne.symm h.1), wipe_ne h.2]
/-- into the block: another ground, no parameters; D the new list -/
def Bd.blk (B : Bd) (F H : Hp) (ρ : Env) (σ : St) (D : Addr) : Bd := ⟨B.K, F, H, fun i a => ownedI ρ σ i a ∨ (a = D ∧ i = ρ.length), []⟩
theorem Rel.blk {D : Addr} (R : Rel B F H ρ σ) (vs : List Nat) : Rel (B.blk F H ρ σ D) F H (wipeE vs ρ) (wipe σ vs) := by
  refine ⟨⟨.refl F, R.kept.ex, fun _ _ h _ => h, fun _ _ h _ => h, fun _ h => h⟩, ⟨by rw [wipeE_len, wipe_length]; exact R.sl.len, fun i d q => ?_, fun i ns q => ?_, fun i s q qs => ?_, fun i v q => by simp [Bd.blk] at q, fun i j s t a ne q qs q' qs' e1 e2 => ?_⟩⟩
  · obtain ⟨g1, g2⟩ := wipeE_get q (fun z => nomatch z)
    obtain ⟨v, k1, k2⟩ := R.sl.val i d g1
    exact ⟨v, by rw [wipe_ne g2]; exact k1, k2⟩
  · obtain ⟨g1, g2⟩ := wipeE_get q (fun z => nomatch z)
    obtain ⟨v, k1, k2⟩ := R.sl.scr i ns g1
    exact ⟨v, by rw [wipe_ne g2]; exact k1, k2⟩
  · obtain ⟨g1, g2⟩ := wipeE_get q (fun z => by rw [z] at qs; cases qs)
    obtain ⟨a, o, k1, k2, k3, k4, k5⟩ := R.sl.own i s g1 qs
    exact ⟨a, o, by rw [wipe_ne g2]; exact k1, k2, k3, k4, .inl (.inl ⟨s, g1, qs, k1⟩)⟩
  · obtain ⟨g1, g2⟩ := wipeE_get q (fun z => by rw [z] at qs; cases qs)
    obtain ⟨g3, g4⟩ := wipeE_get q' (fun z => by rw [z] at qs'; cases qs')
    rw [wipe_ne g2] at e1
    rw [wipe_ne g4] at e2
    exact R.sl.dis i j s t a ne g1 qs g3 qs' e1 e2
/-- out of the block -/
theorem unwipe_get {j : Nat} {s : Slot} : ∀ {vs : List Nat}, (unwipe vs ρ0 ρ)[j]? = some s → (j ∈ vs ∧ ∃ d, s = .val d ∧ ρ0[j]? = some (.val d)) ∨ ρ[j]? = some s
  | [], h => .inr h
  | v :: vs, h => by
    have h : (match ρ0[v]? with
      | some (.val d) => (unwipe vs ρ0 ρ).set v (.val d)
      | _ => unwipe vs ρ0 ρ)[j]? = some s := h
    cases e : ρ0[v]? with
    | none =>
      rw [e] at h
      rcases unwipe_get h with ⟨z1, z2⟩ | z
      · exact .inl ⟨List.mem_cons_of_mem _ z1, z2⟩
      · exact .inr z
    | some t =>
      rw [e] at h
      cases t with
      | val d =>
        rcases set_get h with ⟨z1, z2, _⟩ | ⟨z1, z2⟩
        · subst z1; exact .inl ⟨List.mem_cons_self, d, z2, e⟩
        · rcases unwipe_get z2 with ⟨z1, z2⟩ | z
          · exact .inl ⟨List.mem_cons_of_mem _ z1, z2⟩
          · exact .inr z
      | _ =>
        rcases unwipe_get h with ⟨z1, z2⟩ | z
        · exact .inl ⟨List.mem_cons_of_mem _ z1, z2⟩
        · exact .inr z
theorem unwipe_len : ∀ vs : List Nat, (unwipe vs ρ0 ρ).length = ρ.length
  | [] => rfl
  | v :: vs => by
    show (match ρ0[v]? with
      | some (.val d) => (unwipe vs ρ0 ρ).set v (.val d)
      | _ => unwipe vs ρ0 ρ).length = _
    split
    · rw [List.length_set, unwipe_len vs]
    · exact unwipe_len vs
/-- D is nobody's within the block -/
theorem Rel.notD {D : Addr} {σ' : St} (R : Rel B F H ρ σ) (R' : Rel (B.blk F H ρ σ D) F' H' ρ' σ') (hl : σ'.length = σ.length) (hD : H D ≠ none) (hn : ¬ owned ρ σ D) : ¬ owned ρ' σ' D := fun ⟨i, t, q, qs, e⟩ => by
  obtain ⟨a, o, k1, k2, k3, k4, k5⟩ := R'.sl.own i t q qs
  rw [e] at k1
  cases k1
  rcases k5 with (⟨s, z1, z2, z3⟩ | ⟨_, z⟩) | z
  · exact hn ⟨i, s, z1, z2, z3⟩
  · have h1 := (List.getElem?_eq_some_iff.mp q).1
    have h2 := R'.sl.len
    have h3 := R.sl.len
    omega
  · exact hD z
theorem Rel.unblk {D : Addr} {vs : List Nat} (h0 : B.H0 D = none) (R : Rel B F H ρ σ) (R' : Rel (B.blk F H ρ σ D) F' H' ρ' (wipe σ vs)) (hw : ∀ i ∈ vs, ∀ s, ρ'[i]? = some s → s = .un) : Rel B F' H' (unwipe vs ρ ρ') σ := by
  have get : ∀ {i : Nat} {s : Slot}, (unwipe vs ρ ρ')[i]? = some s → s.isOwn = true → ρ'[i]? = some s ∧ i ∉ vs := fun {i s} q qs => by
    rcases unwipe_get q with ⟨_, d, z, _⟩ | z
    · rw [z] at qs; cases qs
    · exact ⟨z, fun m => by rw [hw i m s z] at qs; cases qs⟩
  have ls : ∀ a, (∃ i, ownedI ρ σ i a ∨ (a = D ∧ i = ρ.length)) → B.La a ∨ B.H0 a = none := fun a ⟨i, h⟩ => by
    rcases h with h | ⟨h, _⟩
    · exact (R.lentI i a h).imp (fun z => ⟨i, z⟩) id
    · subst h; exact .inr h0
  refine ⟨R.kept.trans R'.kept ls, ⟨?_, fun i d q => ?_, fun i ns q => ?_, fun i s q qs => ?_, R.sl.par, fun i j s t a ne q qs q' qs' e1 e2 => ?_⟩⟩
  · rw [unwipe_len]
    have := R'.sl.len
    rw [wipe_length] at this
    exact this
  · rcases unwipe_get q with ⟨_, d', z, z2⟩ | z
    · cases z
      obtain ⟨v, k1, k2⟩ := R.sl.val i d z2
      exact ⟨v, k1, k2.mono R'.kept.ff⟩
    · have ni : i ∉ vs := fun m => by have := hw i m _ z; cases this
      obtain ⟨v, k1, k2⟩ := R'.sl.val i d z
      exact ⟨v, by rw [wipe_ne ni] at k1; exact k1, k2⟩
  · rcases unwipe_get q with ⟨_, d', z, z2⟩ | z
    · cases z
    · have ni : i ∉ vs := fun m => by have := hw i m _ z; cases this
      obtain ⟨v, k1, k2⟩ := R'.sl.scr i ns z
      exact ⟨v, by rw [wipe_ne ni] at k1; exact k1, k2⟩
  · obtain ⟨g1, g2⟩ := get q qs
    obtain ⟨a, o, k1, k2, k3, k4, k5⟩ := R'.sl.own i s g1 qs
    refine ⟨a, o, by rw [wipe_ne g2] at k1; exact k1, k2, k3, k4, ?_⟩
    rcases k5 with (z | ⟨_, z⟩) | z
    · exact R.lentI i a z
    · have h1 := (List.getElem?_eq_some_iff.mp g1).1
      have h2 := R'.sl.len
      have h3 := R.sl.len
      rw [wipe_length] at h2
      omega
    · exact .inr (R.kept.old z)
  · obtain ⟨g1, g2⟩ := get q qs
    obtain ⟨g3, g4⟩ := get q' qs'
    exact R'.sl.dis i j s t a ne g1 qs g3 qs' (by rw [wipe_ne g2]; exact e1) (by rw [wipe_ne g4]; exact e2)
/-- an object that is nobody's changes -/
theorem Rel.other {D : Addr} {o : HO} (R : Rel B F H ρ σ) (hF : F D = none) (h0 : B.La D ∨ B.H0 D = none) (hn : ¬ owned ρ σ D) : Rel B F (upd H D o) ρ σ := by
  refine ⟨⟨R.kept.ff, fun c u q => ?_, fun c u q n => ?_, R.kept.nof, fun c q => ?_⟩, ⟨R.sl.len, R.sl.val, R.sl.scr, fun i s q qs => ?_, R.sl.par, R.sl.dis⟩⟩
  · rw [upd_ne (fun z => by subst z; rw [hF] at q; cases q)]; exact R.kept.ex _ _ q
  · rw [upd_ne (fun z => by
      subst z
      rcases h0 with y | y
      · exact n y
      · rw [y] at q; cases q)]; exact R.kept.keep c u q n
  · by_cases z : c = D
    · subst z; rw [upd_same]; exact fun y => nomatch y
    · rw [upd_ne z]; exact R.kept.live c q
  · obtain ⟨a, u, k1, k2, k3, k4, k5⟩ := R.sl.own i s q qs
    exact ⟨a, u, k1, k2, by rw [upd_ne (fun z => by subst z; exact hn ⟨i, s, q, qs, k1⟩)]; exact k3, k4, k5⟩
/-- forgetting names, their values too -/
theorem Rel.wipe (R : Rel B F H ρ σ) (hv : B.vs = []) {vs : List Nat} {σ' : St} (hw : L2.wipe σ vs = σ') : Rel B F H (wipeE vs ρ) σ' := by
  subst hw
  refine ⟨R.kept, ⟨by rw [wipeE_len, wipe_length]; exact R.sl.len, fun i d q => ?_, fun i ns q => ?_, fun i s q qs => ?_, fun i v q => by rw [hv] at q; simp at q, fun i j s t a ne q qs q' qs' e1 e2 => ?_⟩⟩
  · obtain ⟨g1, g2⟩ := wipeE_get q (fun z => nomatch z)
    obtain ⟨v, k1, k2⟩ := R.sl.val i d g1
    exact ⟨v, by rw [wipe_ne g2]; exact k1, k2⟩
  · obtain ⟨g1, g2⟩ := wipeE_get q (fun z => nomatch z)
    obtain ⟨v, k1, k2⟩ := R.sl.scr i ns g1
    exact ⟨v, by rw [wipe_ne g2]; exact k1, k2⟩
  · obtain ⟨g1, g2⟩ := wipeE_get q (fun z => by rw [z] at qs; cases qs)
    obtain ⟨a, o, k1, k2⟩ := R.sl.own i s g1 qs
    exact ⟨a, o, by rw [wipe_ne g2]; exact k1, k2⟩
  · obtain ⟨g1, g2⟩ := wipeE_get q (fun z => by rw [z] at qs; cases qs)
    obtain ⟨g3, g4⟩ := wipeE_get q' (fun z => by rw [z] at qs'; cases qs')
    rw [wipe_ne g2] at e1
    rw [wipe_ne g4] at e2
    exact R.sl.dis i j s t a ne g1 qs g3 qs' e1 e2
end

/-- a turn's names: they may be stored in the block -/
def blkG (scope : Scope) (sc : Scope) (x : Str) : Bool := (relS scope sc).names.lookup x == some .local || ((relS scope sc).names.lookup x == some .cell && scope.names.lookup x == some .cell)
theorem tgsOf_wipe {B : Bd} {H : Hp} {vs : List Nat} {σw : St} : ∀ (is : List Nat) (xs : List V) (σ : St) (Q : St → Hp → Prop), (∀ i ∈ is, i ∈ vs) → wipe σ vs = σw → tgsOf is xs σ H Q → tgsOf is xs σ H fun σ' H' => wipe σ' vs = σw ∧ Q σ' H'
  | [], xs, σ, Q, _, hw, h => ⟨h.1, hw, h.2⟩
  | i :: is, xs, σ, Q, hi, hw, ⟨v, r, e, h⟩ => ⟨v, r, e, tgsOf_wipe (B := B) is r (σ.set i (some v)) Q (fun j hj => hi j (List.mem_cons_of_mem _ hj)) (by
      rw [← hw]
      have hm := hi i List.mem_cons_self
      clear hw h e
      have : ∀ (vs : List Nat) (σ : St), i ∈ vs → wipe (σ.set i (some v)) vs = wipe σ vs := by
        intro vs
        induction vs with
        | nil => intro σ hm; cases hm
        | cons w ws ih =>
          intro σ hm
          show (wipe (σ.set i (some v)) ws).set w none = (wipe σ ws).set w none
          by_cases hw : i ∈ ws
          · rw [ih σ hw]
          · have hw' : i = w := by
              rcases List.mem_cons.mp hm with z | z
              · exact z
              · exact absurd z hw
            subst hw'
            have g : ∀ (ws : List Nat), i ∉ ws → wipe (σ.set i (some v)) ws = (wipe σ ws).set i (some v) := by
              intro ws
              induction ws with
              | nil => intro _; rfl
              | cons u us ih2 =>
                intro hn
                simp only [List.mem_cons, not_or] at hn
                show (wipe (σ.set i (some v)) us).set u none = ((wipe σ us).set u none).set i (some v)
                rw [ih2 hn.2, List.set_comm _ _ hn.1]
            rw [g ws hw, List.set_set]
      exact this vs σ hm) h⟩
theorem tgOf_wipe {K : PySem.W.Frag} {B : Bd} {H : Hp} {vs : List Nat} {σw σ : St} {t : Tgt} {x : V} {Q : St → Hp → Prop} (hi : ∀ i ∈ t.ix, i ∈ vs) (hw : wipe σ vs = σw) (h : tgOf K t x σ H Q) : tgOf K t x σ H fun σ' H' => wipe σ' vs = σw ∧ Q σ' H' := by
  cases t with
  | nm i =>
    have := tgsOf_wipe (B := B) (H := H) [i] [x] σ Q (fun j hj => hi j hj) hw ⟨x, [], rfl, rfl, h⟩
    obtain ⟨v, r, e, e2, z⟩ := this
    cases e
    exact z
  | tp is =>
    obtain ⟨a, xs, h1, h2, h3, h4⟩ := h
    exact ⟨a, xs, h1, h2, h3, tgsOf_wipe (B := B) is xs σ Q hi hw h4⟩
theorem tgsOf_mono {H : Hp} {Q Q' : St → Hp → Prop} (hq : ∀ σ H, Q σ H → Q' σ H) : ∀ (is : List Nat) (xs : List V) (σ : St), tgsOf is xs σ H Q → tgsOf is xs σ H Q'
  | [], _, _, h => ⟨h.1, hq _ _ h.2⟩
  | _ :: is, _, _, ⟨v, r, e, h⟩ => ⟨v, r, e, tgsOf_mono hq is r _ h⟩
theorem tgOf_mono {K : PySem.W.Frag} {H : Hp} {Q Q' : St → Hp → Prop} {t : Tgt} {x : V} {σ : St} (h : tgOf K t x σ H Q) (hq : ∀ σ H, Q σ H → Q' σ H) : tgOf K t x σ H Q' := by
  cases t with
  | nm i => exact hq _ _ h
  | tp is =>
    obtain ⟨a, xs, h1, h2, h3, h4⟩ := h
    exact ⟨a, xs, h1, h2, h3, tgsOf_mono hq is xs σ h4⟩
/-- what is nobody's stays -/
theorem Rel.stays {B : Bd} {F H F' H' : Hp} {ρ ρ' : Env} {σ : St} {D : Addr} {o : HO} (R' : Rel (B.re F H ρ σ) F' H' ρ' σ) (hD : H D = some o) (fD : F D = none) (n : ¬ owned ρ σ D) : F' D = none ∧ H' D = some o :=
  ⟨R'.kept.nof D (by show H D ≠ none; rw [hD]; exact fun z => nomatch z) fD n, R'.kept.keep D o hD n⟩
/-- tests of a comprehension -/
inductive SndIfs (Γ : Ctx) : List Expr → Den → Bool → Prop
  | no : SndIfs Γ [] dYes true
  | one {c : Expr} {d : Den} {p : Bool} : SndT Γ c d p → SndIfs Γ [c] d p
def wTs (X : Cx) : List Expr → TT
  | [] => tYes
  | [c] => wT X c
  | _ => fun _ _ _ => False
theorem wipe_ext {σ σ' : St} : ∀ {vs : List Nat}, σ.length = σ'.length → (∀ j, j ∉ vs → σ[j]? = σ'[j]?) → wipe σ vs = wipe σ' vs := by
  intro vs hl h
  apply List.ext_getElem?
  intro j
  by_cases hj : j ∈ vs
  · have z : ∀ (τ : St) (vs : List Nat), j ∈ vs → j < τ.length → (wipe τ vs)[j]? = some none := by
      intro τ vs hj hlt
      induction vs with
      | nil => cases hj
      | cons v vs ih =>
        show ((wipe τ vs).set v none)[j]? = _
        by_cases e : v = j
        · subst e; rw [List.getElem?_set_self (by rw [wipe_length]; exact hlt)]
        · rw [List.getElem?_set_ne e]
          rcases List.mem_cons.mp hj with q | q
          · exact absurd q.symm e
          · exact ih q
    by_cases hlt : j < σ.length
    · rw [z σ vs hj hlt, z σ' vs hj (by omega)]
    · rw [List.getElem?_eq_none (by rw [wipe_length]; omega), List.getElem?_eq_none (by rw [wipe_length]; omega)]
  · rw [wipe_ne hj, wipe_ne hj]
    exact h j hj
theorem wipe_wipe {σ : St} {vs : List Nat} : wipe (wipe σ vs) vs = wipe σ vs := wipe_ext (wipe_length σ vs) fun j hj => wipe_ne hj

section
variable {Γ : Ctx} {X : Cx} {Φ : Calls} {scope : Scope}
abbrev Ctx.inB (Γ : Ctx) (scope : Scope) : Ctx := { Γ with sc := relS scope Γ.sc }
theorem ctx_blk {s : Shared} {H : Hp} {Cc : Addr} {cl : List (Str × Addr)} {fp : List Addr} (C : CtxOk Γ Φ X) : CtxOk (Γ.inB scope) Φ (X.blk s H scope (compEnvC scope cl Cc X.env) fp) :=
  ⟨C.nm, by show relS scope X.env.scope = relS scope Γ.sc; rw [C.sc], C.nd, C.calm, C.room, C.grd, C.fns, C.gints, C.gstrs, C.blt, C.exs, C.hot, C.dk, C.ini⟩
theorem mayPut_blk {s : Shared} {H : Hp} {Cc : Addr} {cl : List (Str × Addr)} {fp : List Addr} (C : CtxOk Γ Φ X) : MayPut (X.blk s H scope (compEnvC scope cl Cc X.env) fp) (blkG scope Γ.sc) := fun x h => by
  have e : (X.blk s H scope (compEnvC scope cl Cc X.env) fp).env.scope = relS scope Γ.sc := by rw [← C.sc]; rfl
  unfold blkG at h
  simp only [Bool.or_eq_true, Bool.and_eq_true, beq_iff_eq] at h
  rcases h with h | ⟨h, h'⟩
  · exact ⟨.inl (by rw [e]; exact h), .inr (by rw [e]; exact h)⟩
  · exact ⟨.inr (by rw [e]; exact h), .inl (by show (scope.names.lookup x == some .cell) = true; rw [h']; rfl)⟩
/-- in any block of X's scope -/
def wEB (X : Cx) (scope : Scope) (e : Expr) : TE := fun σ H Q => ∀ (s : Shared) (H0 : Hp) (Cc : Addr) (cl : List (Str × Addr)) (fp : List Addr), wE (X.blk s H0 scope (compEnvC scope cl Cc X.env) fp) e σ H Q
def wTB (X : Cx) (scope : Scope) : List Expr → TT
  | [] => tYes
  | c :: _ => fun σ H Q => ∀ (s : Shared) (H0 : Hp) (Cc : Addr) (cl : List (Str × Addr)) (fp : List Addr), wT (X.blk s H0 scope (compEnvC scope cl Cc X.env) fp) c σ H Q
theorem pts_b {Γ' : Ctx} {cs : List Expr} {d : Den} {p : Bool} {s : Shared} {H : Hp} {Cc : Addr} {cl : List (Str × Addr)} {fp : List Addr} (h : SndIfs Γ' cs d p) : PTs (X.blk s H scope (compEnvC scope cl Cc X.env) fp) cs (wTB X scope cs) := by
  cases h with
  | no => exact pts_nil
  | one _ => exact pts_one ⟨fun pins s' σ H' Q I h => h s H Cc cl fp pins s' I⟩
theorem pe_b {e : Expr} {s : Shared} {H : Hp} {Cc : Addr} {cl : List (Str × Addr)} {fp : List Addr} : PE (X.blk s H scope (compEnvC scope cl Cc X.env) fp) e (wEB X scope e) := ⟨fun pins s' σ H' Q I h => h s H Cc cl fp pins s' I⟩
end

section
variable {Γ : Ctx} {tg iter elt : Expr} {ifs : List Expr} {scope : Scope} {own : List (Str × Nat)} {s : DenI} {c e : Den} {t : Tgt} {p pc pe' : Bool} {pos : Pos}
/-- the reading of a comprehension -/
theorem lc_run {X : Cx} {Φ : Calls} {B : Bd} {F H : Hp} {ρ : Env} {σ : St} {Q : VK} {W : WX} (hs : SndI Γ tg iter s p t.isTp) (hix : t.ix.all (fun i => (own.map (·.2)).contains i) = true) (hc : SndIfs (Γ.inB scope) ifs c pc) (he : SndE (Γ.inB scope) elt e pe')
    (C : CtxOk Γ Φ X) (hK : B.K = X.K) (T : L2N.Takes X W) (R : Rel B F H ρ σ) (hq : (dLc t s c e (own.map (·.2)) Φ ρ).wp (EvP B F H σ (p && (pc && pe')) Q) (ExP X B F σ W)) :
    tLc (wI X tg iter) (tgOf X.K t) (wTB X scope ifs) (wEB X scope elt) (own.map (·.2)) σ H Q := by
  refine hs X Φ B F H ρ σ _ W C hK T R (wp_mono (wp_bind (c := s Φ ρ) hq) (fun r q J F1 H1 R1 e1 e2 hJ => ?_) fun _ q => q)
  obtain ⟨ds, ρ1⟩ := r
  obtain ⟨hl, q⟩ := wp_guard q
  have hl : ds.length ≤ 1000000 := of_decide_eq_true hl
  have R1 : Rel B F1 H1 ρ1 σ := R1
  have hJ : Src t.isTp B.K F1 J ds := hJ
  intro D hD
  have hF1 : F1 D = none := R1.kept.ex.free hD
  have h0 : B.H0 D = none := R1.kept.old hD
  have hD1 : upd H1 D (.lst []) D ≠ none := by rw [upd_same]; exact fun z => nomatch z
  have nD : ¬ owned ρ1 σ D := fun ⟨i, t, q1, q2, q3⟩ => by
    obtain ⟨a, o, k1, _, k3, _⟩ := R1.sl.own i t q1 q2
    rw [q3] at k1
    cases k1
    rw [hD] at k3; cases k3
  have RD : Rel B F1 (upd H1 D (.lst [])) ρ1 σ := R1.grow (.new hD)
  generalize hvs : own.map (·.2) = vs at *
  -- what holds at each turn
  let Bk := B.blk F1 (upd H1 D (.lst [])) ρ1 σ D
  have LaD : Bk.La D := ⟨ρ1.length, .inr ⟨rfl, rfl⟩⟩
  let T1 := lcT t c e vs Φ
  refine ⟨fun i m Hh => m = ds.length - i ∧ i ≤ ds.length ∧ ∃ (F' : Hp) (ρ' : Env) (accD : List PyData) (accV : List V), Rel Bk F' Hh ρ' (wipe σ vs) ∧ Ex F1 F' ∧ F' D = none ∧ Hh D = some (.lst accV) ∧ RpAll B.K F' accD accV ∧ accD.length ≤ i ∧ ((p && (pc && pe')) = true → Ex H1 Hh) ∧
    (∀ j ∈ vs, ∀ s, ρ'[j]? = some s → s = .un) ∧ (lcL T1 (ds.drop i) ρ').wp (fun z => EvP B F H σ (p && (pc && pe')) Q (.own (accD ++ z.1), unwipe vs ρ1 z.2)) (fun _ => False), ?_, fun i m Hh hW => ?_⟩
  · refine ⟨_, rfl, Nat.zero_le _, F1, wipeE vs ρ1, [], [], RD.blk vs, .refl F1, hF1, upd_same, .nil, Nat.le_refl _, fun _ => .new hD, fun j hj s q => ?_, ?_⟩
    · by_cases z : s = .un
      · exact z
      · exact absurd hj (wipeE_get q z).2
    · rw [List.drop_zero]
      replace q := wp_bind (c := noX (lcL T1 ds (wipeE vs ρ1))) q
      cases g : lcL T1 ds (wipeE vs ρ1) with
      | ok a => rw [g] at q; exact q
      | exc x => rw [g] at q; exact q.elim
      | stuck => rw [g] at q; exact q.elim
      | any _ => rw [g] at q; exact q.elim
      | exs _ _ => rw [g] at q; exact q.elim
  · obtain ⟨rfl, hi, F', ρ', accD, accV, R', e', fD, hDl, ra, la, pu, un, q'⟩ := hW
    have lw : (wipe σ vs).length = σ.length := wipe_length σ vs
    by_cases hlt : i < ds.length
    · right
      obtain ⟨d, hd⟩ : ∃ d, ds[i]? = some d := ⟨_, List.getElem?_eq_getElem hlt⟩
      obtain ⟨go, yl⟩ := hJ.go i Hh d (e'.trans R'.kept.ex) hd
      refine ⟨go, fun Hn => ∃ (F' : Hp) (ρ' : Env) (accD : List PyData) (accV : List V), Rel Bk F' Hn ρ' (wipe σ vs) ∧ Ex F1 F' ∧ F' D = none ∧ Hn D = some (.lst accV) ∧ RpAll B.K F' accD accV ∧ accD.length ≤ i + 1 ∧ ((p && (pc && pe')) = true → Ex H1 Hn) ∧
        (∀ j ∈ vs, ∀ s, ρ'[j]? = some s → s = .un) ∧ (lcL T1 (ds.drop (i + 1)) ρ').wp (fun z => EvP B F H σ (p && (pc && pe')) Q (.own (accD ++ z.1), unwipe vs ρ1 z.2)) (fun _ => False), fun H2 n => ⟨ds.length - (i + 1), by omega, rfl, hlt, n⟩, fun x H2 y => ?_⟩
      obtain ⟨_, gr, tk⟩ := yl x H2 y F' e' R'.kept.ex
      have ed : ds.drop i = d :: ds.drop (i + 1) := by
        rw [List.drop_eq_getElem_cons hlt]
        rw [List.getElem?_eq_getElem hlt] at hd
        rw [Option.some.inj hd]
      rw [ed] at q'
      replace q' := wp_bind (c := T1 d ρ') q'
      have R2 : Rel Bk F' H2 ρ' (wipe σ vs) := R'.add gr
      have h2D := gr.hh _ _ hDl
      have hixs : ∀ j ∈ t.ix, j ∈ vs := fun j hj => by
        have := List.all_eq_true.mp hix j hj
        simpa using this
      replace q' : ((opt (putT t d ρ')).bind fun ρ => (c Φ ρ).bind fun b => match b.1 with
        | .val (.bool true) => (oOf e Φ b.2).bind fun y => Out.ok (some y.1, wipeE vs y.2)
        | .val (.bool false) => .ok (none, wipeE vs b.2)
        | _ => .stuck).wp _ (fun _ => False) := q'
      cases g : putT t d ρ' with
      | none => rw [g] at q'; exact q'.elim
      | some ρ2 =>
        rw [g] at q'
        rw [← hK]
        have h1 : tgOf Bk.K t x (wipe σ vs) H2 (fun σ2 H3 => H3 = H2 ∧ Rel Bk F' H2 ρ2 σ2) := put_ok (B := Bk) g tk R2 (fun _ _ => Nat.zero_le _) fun σ2 R3 => ⟨rfl, R3⟩
        refine tgOf_mono (tgOf_wipe (B := Bk) (H := H2) hixs wipe_wipe h1) fun σ2 H2' ⟨hw, eH, R3⟩ => ?_
        subst eH
        refine ⟨hw, ?_⟩
        have l2 : σ2.length = σ.length := by rw [← wipe_length σ2 vs, hw, lw]
        replace q' : ((c Φ ρ2).bind fun b => match b.1 with
          | .val (.bool true) => (oOf e Φ b.2).bind fun y => Out.ok (some y.1, wipeE vs y.2)
          | .val (.bool false) => .ok (none, wipeE vs b.2)
          | _ => .stuck).wp (fun a => ((lcL T1 (List.drop (i + 1) ds) a.2).bind fun z => Out.ok (a.1.toList ++ z.1, z.2)).wp (fun z => EvP B F H σ (p && (pc && pe')) Q (Slot.own (accD ++ z.1), unwipe vs ρ1 z.2)) fun _ => False) (fun _ => False) := q'
        -- behind the test
        have tail : ∀ (k : Bool) (F3 H3 : Hp) (ρ3 : Env), Rel Bk F3 H3 ρ3 σ2 → Ex F' F3 → F3 D = none → H3 D = some (.lst accV) → (pc = true → Ex H2' H3) →
            ((match k with
              | true => (oOf e Φ ρ3).bind fun y => Out.ok (some y.1, wipeE vs y.2)
              | false => Out.ok (none, wipeE vs ρ3)).wp (fun a => ((lcL T1 (List.drop (i + 1) ds) a.2).bind fun z => Out.ok (a.1.toList ++ z.1, z.2)).wp (fun z => EvP B F H σ (p && (pc && pe')) Q (Slot.own (accD ++ z.1), unwipe vs ρ1 z.2)) fun _ => False) (fun _ => False)) →
            if k = true then wEB X scope elt σ2 H3 fun y H4 => ∃ acc, H4 D = some (.lst acc) ∧ acc.length < sizeLine ∧ (∃ (F' : Hp) (ρ' : Env) (accD : List PyData) (accV : List V), Rel Bk F' (upd H4 D (.lst (acc ++ [y]))) ρ' (wipe σ vs) ∧ Ex F1 F' ∧ F' D = none ∧ upd H4 D (.lst (acc ++ [y])) D = some (.lst accV) ∧ RpAll B.K F' accD accV ∧ accD.length ≤ i + 1 ∧ ((p && (pc && pe')) = true → Ex H1 (upd H4 D (.lst (acc ++ [y])))) ∧
              (∀ j ∈ vs, ∀ s, ρ'[j]? = some s → s = .un) ∧ (lcL T1 (ds.drop (i + 1)) ρ').wp (fun z => EvP B F H σ (p && (pc && pe')) Q (.own (accD ++ z.1), unwipe vs ρ1 z.2)) (fun _ => False))
            else ∃ (F' : Hp) (ρ' : Env) (accD : List PyData) (accV : List V), Rel Bk F' H3 ρ' (wipe σ vs) ∧ Ex F1 F' ∧ F' D = none ∧ H3 D = some (.lst accV) ∧ RpAll B.K F' accD accV ∧ accD.length ≤ i + 1 ∧ ((p && (pc && pe')) = true → Ex H1 H3) ∧
              (∀ j ∈ vs, ∀ s, ρ'[j]? = some s → s = .un) ∧ (lcL T1 (ds.drop (i + 1)) ρ').wp (fun z => EvP B F H σ (p && (pc && pe')) Q (.own (accD ++ z.1), unwipe vs ρ1 z.2)) (fun _ => False) := by
          intro k F3 H3 ρ3 R4 e3 f3 h3 p3 qk
          have n3 : ¬ owned ρ3 σ2 D := Rel.notD RD R4 l2 hD1 nD
          have unw : ∀ (ρx : Env), ∀ j ∈ vs, ∀ s, (wipeE vs ρx)[j]? = some s → s = .un := fun ρx j hj s q => by
            by_cases z : s = .un
            · exact z
            · exact absurd hj (wipeE_get q z).2
          cases k with
          | false =>
            refine iteF ⟨F3, wipeE vs ρ3, accD, accV, R4.wipe rfl hw, e'.trans e3, f3, h3, ra.mono e3, by omega, fun z => ?_, unw ρ3, ?_⟩
            · have z' := z
              simp only [Bool.and_eq_true] at z'
              exact ((pu z).trans gr.hh).trans (p3 z'.2.1)
            · have qk := wp_bind (c := lcL T1 (List.drop (i + 1) ds) (wipeE vs ρ3)) qk
              exact wp_mono qk (fun _ z => z) fun _ z => z
          | true =>
            refine iteT fun s' H0' Cc cl fp => ?_
            refine snd_oOf he (X.blk s' H0' scope (compEnvC scope cl Cc X.env) fp) Φ (Bk.re F3 H3 ρ3 σ2) F3 H3 ρ3 σ2 _ (fun _ _ _ _ => False) (ctx_blk C) hK takesN R4.re (wp_mono (wp_bind (c := oOf e Φ ρ3) qk) (fun y qy vy F4 H4 R5 e4 p4 hvy => ?_) fun _ z => z.elim)
            obtain ⟨y, ρ4⟩ := y
            have R5 : Rel (Bk.re F3 H3 ρ3 σ2) F4 H4 ρ4 σ2 := R5
            obtain ⟨f4, h4⟩ := R5.stays h3 f3 n3
            have R6 : Rel Bk F4 H4 ρ4 σ2 := R4.un R5
            have n4 : ¬ owned ρ4 σ2 D := Rel.notD RD R6 l2 hD1 nD
            have la' : accV.length = accD.length := (rpAll_len ra).symm
            refine ⟨accV, h4, lt_line (by omega), F4, wipeE vs ρ4, accD ++ [y], accV ++ [vy], (R6.other f4 (.inl LaD) n4).wipe rfl hw, (e'.trans e3).trans e4, f4, upd_same, RpAll.app (ra.mono (e3.trans e4)) (.cons hvy .nil), by rw [List.length_append, List.length_singleton]; omega, fun z => ?_, unw ρ4, ?_⟩
            · have z' := z
              simp only [Bool.and_eq_true] at z'
              exact Ex.put ((((pu z).trans gr.hh).trans (p3 z'.2.1)).trans (p4 z'.2.2)) hD
            · have qy := wp_bind (c := lcL T1 (List.drop (i + 1) ds) (wipeE vs ρ4)) qy
              refine wp_mono qy (fun z qz => ?_) fun _ z => z
              have qz : EvP B F H σ (p && (pc && pe')) Q (Slot.own (accD ++ ([y] ++ z.1)), unwipe vs ρ1 z.2) := qz
              rw [List.append_assoc]
              exact qz
        have n2 : ¬ owned ρ2 σ2 D := Rel.notD RD R3 l2 hD1 nD
        cases hc with
        | no => exact tail true F' H2' ρ2 R3 (.refl F') fD h2D (fun _ => .refl _) q'
        | one hT =>
          intro s' H0' Cc cl fp
          refine hT (X.blk s' H0' scope (compEnvC scope cl Cc X.env) fp) Φ (Bk.re F' H2' ρ2 σ2) F' H2' ρ2 σ2 _ (fun _ _ _ _ => False) (ctx_blk C) hK takesN R3.re (wp_mono (wp_bind (c := c Φ ρ2) q') (fun b qb => ?_) fun _ z => z.elim)
          obtain ⟨sb, ρ3⟩ := b
          cases sb with
          | val zb =>
            cases zb with
            | bool k =>
              refine ⟨k, rfl, fun F3 H3 R4 e3 p3 => ?_⟩
              obtain ⟨f3, h3⟩ := Rel.stays R4 h2D fD n2
              cases k with
              | true => exact tail true F3 H3 ρ3 (R3.un R4) e3 f3 h3 p3 qb
              | false => exact tail false F3 H3 ρ3 (R3.un R4) e3 f3 h3 p3 qb
            | _ => exact qb.elim
          | _ => exact qb.elim
    · left
      have ei : i = ds.length := by omega
      subst ei
      refine ⟨hJ.stop _ Hh (e'.trans R'.kept.ex) (Nat.le_refl _), ?_⟩
      rw [List.drop_length] at q'
      have q' : EvP B F H σ (p && (pc && pe')) Q (.own (accD ++ []), unwipe vs ρ1 ρ') := q'
      rw [List.append_nil] at q'
      have RU : Rel B F' Hh (unwipe vs ρ1 ρ') σ := Rel.unblk h0 RD R' un
      refine q' _ F' Hh RU (e1.trans e') (fun z => ?_) ⟨D, _, rfl, fD, hDl, ⟨accV, rfl, ra⟩, h0, fun j t qj qt em => ?_⟩
      · have z' := z
        rw [Bool.and_eq_true] at z'
        exact (e2 z'.1).trans (pu z)
      · rcases unwipe_get qj with ⟨_, d', z, _⟩ | z
        · rw [z] at qt; cases qt
        · have nv : j ∉ vs := fun mm => by rw [un j mm t z] at qt; cases qt
          exact Rel.notD RD R' lw hD1 nD ⟨j, t, z, qt, by rw [wipe_ne nv]; exact em⟩
theorem snd_lc (hs : SndI Γ tg iter s p t.isTp) (ht : TgtOk Γ.N (blkG scope Γ.sc) tg t) (hix : t.ix.all (fun i => (own.map (·.2)).contains i) = true) (hb : blkC Γ.N Γ.sc scope own = true) (hc : SndIfs (Γ.inB scope) ifs c pc) (he : SndE (Γ.inB scope) elt e pe') (hn : notSet iter = true) :
    SndE Γ (.ListComp elt [⟨tg, iter, ifs, 0⟩] scope pos) (dLc t s c e (own.map (·.2))) (p && (pc && pe')) := by
  intro X Φ B F H ρ σ Q W C hK T R hq
  refine PE.w (pe_lc (own := own) (g := tgOf X.K t) C.calm (by rw [C.nm]; exact C.nd) pi_w (blkOk_by (by rw [C.nm, C.sc]; exact hb)) (fun s H Cc cl fp => TgtOk.pg (Γ := Γ.inB scope) (ctx_blk C) (mayPut_blk C) ht) (fun s H Cc cl fp => pts_b hc) (fun s H Cc cl fp => pe_b) (folded_of hn)) ?_
  exact lc_run hs hix hc he C hK T R hq
end
end Dn

/-! Den8: a def's promise from its body's meaning; all defs of a text; the law. -/
namespace Dn
open PySem PySem.Spec L2
open PyProof.Rows hiding St

/-- an own argument is still told at the end -/
def outsOk : List Slot → List Slot → Bool
  | [], _ => true
  | a :: as, o :: os => (!a.isOwn || (match o with
    | .un => false
    | .scr _ => false
    | _ => true)) && outsOk as os
  | _ :: _, [] => false
def fin (as : List Slot) (np : Nat) (s : Slot) (ρ : Env) : Out (Slot × List Slot) := guard' (outsOk as (ρ.take np)) (.ok (s, ρ.take np))
def dBody (np n : Nat) (b : DenS) (Φ : Calls) (as : List Slot) : Out (Slot × List Slot) := (b Φ (as ++ List.replicate (n - np) .un)).bind fun r => match r.1 with
  | .ret s => fin as np s r.2
  | .nx => fin as np (.val .none) r.2
  | _ => .stuck
theorem outsOk_get : ∀ {as os : List Slot}, outsOk as os = true → ∀ {i : Nat} {s : Slot}, as[i]? = some s → s.isOwn = true → ∃ o, os[i]? = some o ∧ o ≠ .un ∧ ∀ ns, o ≠ .scr ns
  | [], _, _, _, _, h, _ => by simp at h
  | a :: as, [], h, _, _, _, _ => by cases h
  | a :: as, o :: os, h, 0, s, e, hs => by
    unfold outsOk at h
    simp only [List.getElem?_cons_zero, Option.some.injEq] at e
    subst e
    rw [hs] at h
    simp only [Bool.not_true, Bool.false_or, Bool.and_eq_true] at h
    refine ⟨o, rfl, ?_, ?_⟩
    · intro z; subst z; exact Bool.noConfusion h.1
    · intro ns z; subst z; exact Bool.noConfusion h.1
  | a :: as, o :: os, h, i + 1, s, e, hs => by
    unfold outsOk at h
    simp only [Bool.and_eq_true] at h
    obtain ⟨o', h1, h2⟩ := outsOk_get h.2 (i := i) (by simpa using e) hs
    exact ⟨o', by simpa using h1, h2⟩

/-- a text's def -/
structure DefI where
  name : Str
  st : Stmt
  ps : List Str
  N : List Str
  b : DenS
/-- a def where numbers may come and refusals are told with the slots; k things stand beside its parameters; key: what calls name, fn qn: its own names, m: a method's -/
structure DefX where
  key : Str
  fn : Str
  qn : Str
  m : Option Str
  k : Nat
  st : Stmt
  ps : List Str
  N : List Str
  b : DenS
/-- what all defs share -/
structure Tx where
  defs : List DefI
  gints : List (Str × Int)
  gstrs : List (Str × Str)
  blts : List Str
  exs : List (Str × Str)
  dds : List DefX
  ini : List Str
def Tx.dk (T : Tx) : List (Str × Nat × Option Str) := T.dds.filterMap fun d => if d.k = 1 then some (d.key, d.ps.length, d.m) else none
def Tx.ctx (T : Tx) (d : DefI) : Ctx := ⟨d.N, defScope d.st, d.ps.length, T.defs.map fun d => (d.name, d.ps.length), T.gints, T.gstrs, T.blts, T.exs, T.dk, T.ini⟩
def Tx.ctxX (T : Tx) (d : DefX) : Ctx := ⟨d.N, defScope d.st, d.ps.length + d.k, T.defs.map fun d => (d.name, d.ps.length), T.gints, T.gstrs, T.blts, T.exs, T.dk, T.ini⟩
def Tx.find (T : Tx) (x : Str) : Option DefI := T.defs.find? fun d => d.name == x
def Tx.findX (T : Tx) (x : Str) : Option DefX := T.dds.find? fun d => d.key == x
/-- a refusal leaves with what was handed over -/
def cutX {α : Type} (as : List Slot) (np : Nat) : Out α → Out α
  | .exs x ρ => if outsOk as (ρ.take np) = true then .exs x (ρ.take np) else .stuck
  | .any g => .any fun n => cutX as np (g n)
  | .ok a => .ok a
  | .exc x => .exc x
  | .stuck => .stuck
def kBodyX (as : List Slot) (np : Nat) : Fl × Env → Out (Slot × List Slot) := fun r => match r.1 with
  | .ret s => fin as np s r.2
  | .nx => fin as np (.val .none) r.2
  | _ => .stuck
def dBodyX (np n : Nat) (b : DenS) (Φ : Calls) (as : List Slot) : Out (Slot × List Slot) := (cutX as np (b Φ (as ++ List.replicate (n - np) .un))).bind (kBodyX as np)
theorem wpx_cut {α : Type} {as : List Slot} {np : Nat} {c : Out α} {P : α → Prop} {E : Exc → Prop} {S : Exc → Env → Prop} (h : (cutX as np c).wpx P E S) : c.wpx P E fun x ρ => outsOk as (ρ.take np) = true ∧ S x (ρ.take np) := by
  induction c with
  | ok a => exact h
  | exc x => exact h
  | stuck => exact h
  | any g ih => exact fun n => ih n (h n)
  | exs x ρ =>
    have h : (if outsOk as (ρ.take np) = true then Out.exs x (ρ.take np) else .stuck : Out α).wpx P E S := h
    split at h
    · rename_i z; exact ⟨z, h⟩
    · exact h.elim
def Tx.run (T : Tx) : Nat → Calls
  | 0, _, _ => .stuck
  | n + 1, x, as => match T.find x with
    | some d => dBody d.ps.length d.N.length d.b (T.run n) as
    | none => match T.findX x with
      | some d => dBodyX (d.ps.length + d.k) d.N.length d.b (T.run n) as
      | none => .stuck
/-- a desk's class stands -/
def DeskK (K : PySem.W.Frag) (mg : Str → Option Value) (l : List DefX) : Prop := ∃ (C f0 : Addr) (fd0 : FuncData), PySem.W.nsIn K mainGlobals "Desk" = some (some (.ref C)) ∧ mg "Desk" = some (.ref C) ∧ Cls K C ∧ NoAttr K C "order" ∧ NoAttr K C "kept" ∧ NoAttr K C "past" ∧
  Mk K C f0 ∧ L2.Binds K fd0 ["self"] [] ∧ (∀ (P : Program) (w : World) (base : Heap), FnG P w K mg base (L2N.CX P w) 1 f0 fd0 ["self"] (spInit C)) ∧
  ∀ d ∈ l, ∃ (f : Addr) (fd : FuncData), Fun K d.fn d.qn d.st f fd ∧ L2.Binds K fd d.ps [] ∧ PySem.W.keepIn K (.ref f) = true ∧ (d.m = none → mg d.key = some (.ref f)) ∧ ∀ m, d.m = some m → Meth K C m f
/-- how the top has left them -/
structure Tx.Stand (T : Tx) (K : PySem.W.Frag) (mg : Str → Option Value) : Prop where
  fn : ∀ d ∈ T.defs, ∃ f fd, Fun K d.name d.name d.st f fd ∧ L2.Binds K fd d.ps [] ∧ mg d.name = some (.ref f)
  gints : ∀ p ∈ T.gints, ∃ t, mg p.1 = some (.int p.2 t)
  gstrs : ∀ p ∈ T.gstrs, ∃ t, mg p.1 = some (.str p.2 t)
  blt : ∀ x ∈ T.blts, mg x = none
  exs : ∀ p ∈ T.exs, ∃ C : Addr, mg p.1 = some (.ref C) ∧ ExF K C
  dds : T.dds ≠ [] → DeskK K mg T.dds
/-- the names beside the parameters are no names of the text -/
def sideOk (N : List Str) (sc : Scope) (np k : Nat) : Bool := decide (np + k ≤ N.length) && ((N.drop np).take k).all fun y => (sc.names.lookup y).isNone
/-- each def's meaning is shown -/
structure Tx.Ok (T : Tx) : Prop where
  sc : ∀ d ∈ T.defs, FnScope d.N d.ps (defScope d.st)
  snd : ∀ d ∈ T.defs, SndSs (T.ctx d) (defBody d.st) d.b
  uniq : ∀ d ∈ T.defs, T.find d.name = some d
  scX : ∀ d ∈ T.dds, FnScope d.N d.ps (defScope d.st) ∧ sideOk d.N (defScope d.st) d.ps.length d.k = true
  sndX : ∀ d ∈ T.dds, SndXs (T.ctxX d) (defBody d.st) d.b
  uniqX : ∀ d ∈ T.dds, T.find d.key = none ∧ T.findX d.key = some d

section
variable {P : Program} {w : World} {K : PySem.W.Frag} {mg : Str → Option Value} {base : Heap} {T : Tx}
theorem start_get {N : List Str} {vs : List V} {i : Nat} (h : i < vs.length) : (L2.start N vs)[i]? = (vs.map some)[i]? := by
  unfold L2.start
  rw [List.getElem?_append_left (by simpa using h)]
/-- from the body, with things beside the parameters -/
theorem FnG.of_bodyX {C : CXT} {k : Nat} {f : Addr} {fd : FuncData} {ps N : List Str} {sp : Sp} {x qual : Str} {st : Stmt} {kk : Nat} (F : Fun K x qual st f fd) (S : FnScope N ps (defScope st)) (So : sideOk N (defScope st) ps.length kk = true) (len : ∀ us H Q E, sp us H Q E → us.length = ps.length)
    (body : ∀ (cv : Value) (A : Around) (outer : List PySem.Env) (s : Shared) (H : Hp) (us : List V) (Q : VK) (E : XK), A.guards = some [] → Room k (A.deeper (envOfC qual (defScope st) s.heap.objs.size f cv)) → sp us H Q E →
      ∃ (qs : List V), qs.length = kk ∧ ∃ t, PSs (cxOf C P w K mg base N qual (defScope st) f cv A outer s H E) (defBody st) t ∧ t { nx := fun _ H' => Q .non H', rt := Q } (L2.start N (us ++ qs)) H) : FnG P w K mg base C (k + 1) f fd ps sp := by
  obtain ⟨oc, od, kV, doc, pm, an, cv, ct, osl, rfl, lk, code⟩ := F.ex
  unfold sideOk at So
  rw [Bool.and_eq_true, decide_eq_true_eq] at So
  obtain ⟨so1, so2⟩ := So
  refine ⟨len, fun A g outer s H args us vs Q E room e0 bind rel sat => ?_⟩
  have old := fun b o e => (e0.bs b o e).1
  have inK := e0.mod.kin.keeps old
  have far := e0.mod.nolimit.keeps old
  have kinds : ∀ y ∈ ps.zip us, (defScope st).names.lookup y.1 = some .local ∨ ((defScope st).names.lookup y.1 = some .cell ∧ ((cellsFrom (s.heap.objs.size + 1) (defScope st).names []).lookup y.1).isSome = true) := by
    intro y hy
    have my := (List.of_mem_zip (show (y.1, y.2) ∈ ps.zip us from hy)).1
    exact (S.par y.1 my).imp id fun q => ⟨q, PySem.W.cellsFrom_some _ _ _ (.inl q)⟩
  refine codeAny_call_function room.depth (inK _ _ lk) rfl S.co S.gen rfl (PySem.W.codeRec_of inK code) (bind _ _ _ _ (wpAny_newFunctionEnv_cells S.kind kinds fun env he s1 enter => ?_))
  subst he
  obtain ⟨qs, hqs, t, ht, hq⟩ := body cv A outer s H vs Q E g (room.deeper _) sat
  have hv := len _ _ _ _ sat
  have J0 : Inv (cxOf C P w K mg base N qual (defScope st) f cv A outer s H E) [] (L2.start N vs) H s1 := inv_start S room.hd e0 hv rel enter
  have J : Inv (cxOf C P w K mg base N qual (defScope st) f cv A outer s H E) [] (L2.start N (vs ++ qs)) H s1 := by
    refine { J0 with loc := ?_, len := ?_ }
    · obtain ⟨m, h1, h2⟩ := J0.loc
      refine ⟨m, h1, fun i y v hN hs hvis => ?_⟩
      by_cases c : i < vs.length
      · refine h2 i y v hN ?_ hvis
        rw [start_get c]
        rw [start_get (by rw [List.length_append]; omega), List.map_append, List.getElem?_append_left (by rw [List.length_map]; exact c)] at hs
        exact hs
      · by_cases c2 : i < vs.length + qs.length
        · exfalso
          have my : y ∈ (N.drop ps.length).take kk := by
            refine List.mem_of_getElem? (i := i - ps.length) ?_
            rw [List.getElem?_take, if_pos (by omega), List.getElem?_drop]
            rw [show ps.length + (i - ps.length) = i by omega]
            exact hN
          have no := List.all_eq_true.mp so2 y my
          rw [Option.isNone_iff_eq_none] at no
          rcases hvis with z | z | z
          all_goals
            have z : (defScope st).names.lookup y = _ := z
            rw [no] at z
            cases z
        · exfalso
          unfold L2.start at hs
          rw [List.getElem?_append_right (by rw [List.length_map, List.length_append]; omega), List.getElem?_replicate] at hs
          split at hs <;> cases hs
    · show (L2.start N (vs ++ qs)).length = N.length
      unfold L2.start
      rw [List.length_append, List.length_map, List.length_replicate, List.length_append]
      omega
  refine ⟨far.keeps enter.toInCall.keep, codeAny_func (wpAny_mono (ht.run [] s1 _ H _ J hq) (fun fl s' hs => ?_) fun _ _ hs => hs)⟩
  cases fl with
  | brk => exact hs.elim fun _ z => z.elim fun _ z => z.2.elim
  | cont => exact hs.elim fun _ z => z.elim fun _ z => z.2.elim
  | next =>
    obtain ⟨σ', H', I, q⟩ := hs
    exact ⟨.non, H', I.os, I.bare, I.base, I.hok, rfl, q⟩
  | ret u =>
    obtain ⟨v, σ', H', I, rv, q⟩ := hs
    exact ⟨v, H', I.os, I.bare, I.base, I.hok, rv, q⟩
theorem startRel {N : List Str} {F0 H : Hp} {as : List Slot} {vs : List V} (ex : Ex F0 H) (hl : as.length = vs.length) (hN : vs.length ≤ N.length) (sl : Sl (bdOf K F0 H as vs) F0 H as (vs.map some)) : Rel (bdOf K F0 H as vs) F0 H (as ++ List.replicate (N.length - vs.length) .un) (L2.start N vs) := by
  have gl : ∀ {i : Nat} {s : Slot}, (as ++ List.replicate (N.length - vs.length) Slot.un)[i]? = some s → s ≠ .un → as[i]? = some s ∧ i < as.length := fun {i s} h n => by
    by_cases z : i < as.length
    · rw [List.getElem?_append_left z] at h; exact ⟨h, z⟩
    · rw [List.getElem?_append_right (by omega), List.getElem?_replicate] at h
      split at h
      · exact absurd (Option.some.inj h).symm n
      · cases h
  have sg : ∀ {i : Nat}, i < as.length → (L2.start N vs)[i]? = (vs.map some)[i]? := fun h => start_get (by omega)
  refine ⟨⟨.refl _, ex, fun _ _ h _ => h, fun _ _ h _ => h, fun _ h => h⟩, ⟨?_, fun i e h => ?_, fun i ns h => ?_, fun i s h hs => ?_, fun i v h => ?_, fun i j s t a ne h hs h' hs' e1 e2 => ?_⟩⟩
  · unfold L2.start
    rw [List.length_append, List.length_append, List.length_map, List.length_replicate, List.length_replicate]
    omega
  · obtain ⟨g1, g2⟩ := gl h (fun z => nomatch z)
    rw [sg g2]
    exact sl.val i e g1
  · obtain ⟨g1, g2⟩ := gl h (fun z => nomatch z)
    rw [sg g2]
    exact sl.scr i ns g1
  · obtain ⟨g1, g2⟩ := gl h (fun z => by rw [z] at hs; cases hs)
    rw [sg g2]
    exact sl.own i s g1 hs
  · have : i < vs.length := (List.getElem?_eq_some_iff.mp h).1
    rw [start_get this, List.getElem?_map, show vs[i]? = some v from h]
    rfl
  · obtain ⟨g1, g2⟩ := gl h (fun z => by rw [z] at hs; cases hs)
    obtain ⟨g3, g4⟩ := gl h' (fun z => by rw [z] at hs'; cases hs')
    rw [sg g2] at e1
    rw [sg g4] at e2
    exact sl.dis i j s t a ne g1 hs g3 hs' e1 e2
/-- at the end: what was handed over -/
theorem endOuts {F0 H F' H' : Hp} {as : List Slot} {vs : List V} {ρ' : Env} {σ' : L2.St} {np : Nat} (R' : Rel (bdOf K F0 H as vs) F' H' ρ' σ') (ho : outsOk as (ρ'.take np) = true) : OutsOk K F' H' as vs (ρ'.take np) := fun i t a h1 h2 h3 => by
  obtain ⟨o, k1, k2, k3⟩ := outsOk_get ho h1 h2
  have hp : σ'[i]? = some (some (.ref a)) := R'.sl.par i _ h3
  have ko : ρ'[i]? = some o := by
    rw [List.getElem?_take] at k1
    split at k1
    · exact k1
    · cases k1
  refine ⟨o, k1, ?_⟩
  cases ow : o.isOwn with
  | true =>
    obtain ⟨a', u, m1, m2, m3, m4, _⟩ := R'.sl.own i o ko ow
    rw [hp] at m1
    cases m1
    exact .inr ⟨ow, u, m2, m3, m4⟩
  | false =>
    cases o with
    | val e =>
      obtain ⟨v', m1, m2⟩ := R'.sl.val i e ko
      rw [hp] at m1
      cases m1
      exact .inl ⟨e, rfl, m2⟩
    | un => exact absurd rfl k2
    | scr ns => exact absurd rfl (k3 ns)
    | own _ => cases ow
    | odc _ _ => cases ow
    | obj _ _ => cases ow
theorem endRet {F0 H F' H' : Hp} {as : List Slot} {vs : List V} {ρ' : Env} {σ' : L2.St} {s : Slot} {v : V} (hr' : Res (bdOf K F0 H as vs) F' H' ρ' σ' s v) : RetIs K H F' H' s v := by
  cases ow : s.isOwn with
  | true =>
    obtain ⟨a, u, m1, m2, m3, m4, m5, _⟩ := (Res.of_own ow).mp hr'
    exact .inr ⟨ow, a, u, m1, m2, m3, m4, m5⟩
  | false =>
    cases s with
    | val e => exact .inl ⟨e, rfl, hr'⟩
    | un => exact hr'.elim
    | scr ns => exact hr'.elim
    | own _ => cases ow
    | odc _ _ => cases ow
    | obj _ _ => cases ow
/-- what each def is good for at a depth -/
def Tx.Good (T : Tx) (P : Program) (w : World) (K : PySem.W.Frag) (mg : Str → Option Value) (base : Heap) (n : Nat) : Prop :=
  (∀ d ∈ T.defs, ∃ f fd, Fun K d.name d.name d.st f fd ∧ mg d.name = some (.ref f) ∧ PySem.W.keepIn K (.ref f) = true ∧ L2.Binds K fd d.ps [] ∧ FnG P w K mg base (L2N.CX P w) (n + 2) f fd d.ps (SpF mg K d.ps.length (T.run n d.name))) ∧
  ∀ d ∈ T.dds, ∀ f fd, Fun K d.fn d.qn d.st f fd → FnG P w K mg base (L2N.CX P w) (n + 2) f fd d.ps (SpD mg K d.ps.length d.k (T.run n d.key))
theorem Tx.dk_mem {T : Tx} {p : Str × Nat × Option Str} (h : p ∈ T.dk) : ∃ d ∈ T.dds, d.k = 1 ∧ p = (d.key, d.ps.length, d.m) := by
  unfold Tx.dk at h
  obtain ⟨d, hd, e⟩ := List.mem_filterMap.mp h
  split at e
  · rename_i z
    cases e
    exact ⟨d, hd, z, rfl⟩
  · cases e
theorem Tx.ctx_ok (S : T.Stand K mg) (O : T.Ok) (ho : T.exs ≠ [] → HotOk P w K mg base T.exs) (hi : ∀ x ∈ T.ini, IniOk P w K mg base x) {n : Nat} (G : T.Good P w K mg base n) {N ps : List Str} {st : Stmt} {qual : Str} {f : Addr} {cdv : Value} {A : Around} {outer : List PySem.Env} {s : Shared} {H : Hp} {E : XK} {np : Nat} (hS : FnScope N ps (defScope st)) (hA : A.guards = some [])
    (hr : Room (n + 2) (A.deeper (envOfC qual (defScope st) s.heap.objs.size f cdv))) : CtxOk ⟨N, defScope st, np, T.defs.map fun d => (d.name, d.ps.length), T.gints, T.gstrs, T.blts, T.exs, T.dk, T.ini⟩ (T.run n) (cxOf (L2N.CX P w) P w K mg base N qual (defScope st) f cdv A outer s H E) := by
  refine ⟨rfl, rfl, hS.nd, rfl, hr.mono (Nat.zero_le _), hA, fun p hp => ?_, S.gints, S.gstrs, S.blt, S.exs, fun ne => ⟨L2H.roomH_of (hr.mono (by omega)), ho ne⟩, fun ne => ?_, fun x hx => ⟨hi x hx, hr.mono (by omega), L2H.roomH_of (hr.mono (by omega))⟩⟩
  · obtain ⟨d', hd', rfl⟩ := List.mem_map.mp hp
    obtain ⟨f', fd', _, g1, g2, g3, g4⟩ := G.1 d' hd'
    exact ⟨f', fd', d'.ps, n + 2, g1, rfl, g2, g3, g4, hr⟩
  · have nd : T.dds ≠ [] := fun z => ne (by show T.dk = []; unfold Tx.dk; rw [z]; rfl)
    obtain ⟨C, f0, fd0, h1, h2, h3, h4, h5, h6, h7, h8, h9, h10⟩ := S.dds nd
    refine ⟨C, f0, fd0, h1, h2, h3, h4, h5, h6, h7, h8, h9 P w base, hr.mono (by omega), fun p hp hn => ?_, fun p hp m hm => ?_⟩
    · obtain ⟨d, hd, hk, rfl⟩ := Tx.dk_mem hp
      obtain ⟨f', fd', g1, g2, g3, g4, g5⟩ := h10 d hd
      have g := G.2 d hd f' fd' g1
      rw [hk] at g
      exact ⟨f', fd', d.ps, n + 2, g4 hn, rfl, g3, g2, g, hr⟩
    · obtain ⟨d, hd, hk, rfl⟩ := Tx.dk_mem hp
      obtain ⟨f', fd', g1, g2, g3, g4, g5⟩ := h10 d hd
      have g := G.2 d hd f' fd' g1
      rw [hk] at g
      exact ⟨f', fd', d.ps, n + 2, g5 m hm, rfl, g2, g, hr⟩
theorem Tx.good (S : T.Stand K mg) (O : T.Ok) (ho : T.exs ≠ [] → HotOk P w K mg base T.exs) (hi : ∀ x ∈ T.ini, IniOk P w K mg base x) : ∀ n : Nat, T.Good P w K mg base n := by
  intro n
  induction n with
  | zero =>
    refine ⟨fun d hd => ?_, fun d hd f fd F => ⟨fun vs H Q E h => h.1, fun A hA outer s H args us vs Q E hr e0 hb r h => ?_⟩⟩
    · obtain ⟨f, fd, F, b, g⟩ := S.fn d hd
      exact ⟨f, fd, F, g, F.kp, b, ⟨fun vs H Q E h => h.1, fun A hA outer s H args us vs Q E hr e0 hb r h => by
        obtain ⟨_, _, _, _, _, _, _, z⟩ := h
        exact z.elim⟩⟩
    · obtain ⟨_, _, _, _, _, _, _, _, _, z⟩ := h
      exact z.elim
  | succ n ih =>
    refine ⟨fun d hd => ?_, fun d hd f fd F => ?_⟩
    · obtain ⟨f, fd, F, b, g⟩ := S.fn d hd
      refine ⟨f, fd, F, g, F.kp, b, ?_⟩
      have hrun : T.run (n + 1) d.name = dBody d.ps.length d.N.length d.b (T.run n) := by
        funext as
        show (match T.find d.name with
          | some d => dBody d.ps.length d.N.length d.b (T.run n) as
          | none => match T.findX d.name with
            | some d => dBodyX (d.ps.length + d.k) d.N.length d.b (T.run n) as
            | none => .stuck) = _
        rw [O.uniq d hd]
      rw [hrun]
      refine FnG.of_body F (O.sc d hd) (fun vs H Q E h => h.1) fun cdv A outer s H vs Q E hA hr hsp => ⟨_, pss_w, ?_⟩
      obtain ⟨hv, F0, as, ex, hl, sl, nu, q⟩ := hsp
      have hN : d.ps.length ≤ d.N.length := by
        have := congrArg List.length (O.sc d hd).pre
        rw [List.length_take] at this
        omega
      have C : CtxOk (T.ctx d) (T.run n) (cxOf (L2N.CX P w) P w K mg base d.N d.name (defScope d.st) f cdv A outer s H E) := Tx.ctx_ok S O ho hi ih (O.sc d hd) hA hr
      generalize hX : cxOf (L2N.CX P w) P w K mg base d.N d.name (defScope d.st) f cdv A outer s H E = X at C
      have BO : BodyOk X := by
        subst hX
        exact ⟨fun _ => rfl, (O.sc d hd).kind, passes_of rfl, rfl, rfl⟩
      have tk : L2N.Takes X (fun cls dd _ H' => E cls dd H') := by
        subst hX
        exact L2N.takes_of rfl rfl rfl rfl
      have hXK : (bdOf K F0 H as vs).K = X.K := by subst hX; rfl
      have hmg : X.mg = mg := by subst hX; rfl
      have bo : BdOk (T.ctx d) (bdOf K F0 H as vs) := ⟨by show vs.length ≤ d.ps.length; omega, fun i a ⟨s, h1, _⟩ => by
        have := (List.getElem?_eq_some_iff.mp h1).1
        show i < d.ps.length
        omega⟩
      have R := startRel (N := d.N) ex (by omega) (by omega) sl
      have q := wp_bind q
      rw [← hv] at q
      refine O.snd d hd X (T.run n) (bdOf K F0 H as vs) F0 H _ _ _ (fun cls dd _ H' => E cls dd H') C BO bo hXK tk R (wp_mono q (fun r qr => ?_) fun x qx σ' F' H' cls dd k e1 hx => ?_)
      · obtain ⟨fl, ρ'⟩ := r
        have done : ∀ (s : Slot) (v : V) (F' H' : Hp) (σ' : L2.St), (fin as vs.length s ρ').wp (fun r => ∀ v F' H', Back K F0 H as vs F' H' r.1 r.2 v → Q v H') (fun x => ∀ F' H' cls dd, Kept (bdOf K F0 H as vs) F' H' → XcIs mg x cls dd K F' H' → E cls dd H') →
            Rel (bdOf K F0 H as vs) F' H' ρ' σ' → Res (bdOf K F0 H as vs) F' H' ρ' σ' s v → Q v H' := fun s v F' H' σ' hf R' hr' => by
          obtain ⟨ho, hf⟩ := wp_guard hf
          exact hf v F' H' ⟨R'.kept, endOuts R' ho, endRet hr'⟩
        cases fl with
        | nx => exact fun σ' F' H' R' e1 => done (.val .none) .non F' H' σ' qr R' Rp.non
        | ret s => exact fun σ' v F' H' R' e1 hr' => done s v F' H' σ' qr R' hr'
        | brk => exact qr.elim
        | cnt => exact qr.elim
      · rw [hmg] at hx
        rw [← hXK] at hx
        exact qx F' H' cls dd k hx
    · have hrun : T.run (n + 1) d.key = dBodyX (d.ps.length + d.k) d.N.length d.b (T.run n) := by
        funext as
        show (match T.find d.key with
          | some d => dBody d.ps.length d.N.length d.b (T.run n) as
          | none => match T.findX d.key with
            | some d => dBodyX (d.ps.length + d.k) d.N.length d.b (T.run n) as
            | none => .stuck) = _
        rw [(O.uniqX d hd).1, (O.uniqX d hd).2]
      rw [hrun]
      obtain ⟨hsc, hso⟩ := O.scX d hd
      have hN : d.ps.length + d.k ≤ d.N.length := by
        unfold sideOk at hso
        rw [Bool.and_eq_true, decide_eq_true_eq] at hso
        exact hso.1
      refine FnG.of_bodyX F hsc hso (fun vs H Q E h => h.1) fun cdv A outer s H vs Q E hA hr hsp => ?_
      obtain ⟨hv, qs, F0, as, hk, ex, hl, sl, nu, q⟩ := hsp
      refine ⟨qs, hk, _, pss_w, ?_⟩
      have C : CtxOk (T.ctxX d) (T.run n) (cxOf (L2N.CX P w) P w K mg base d.N d.qn (defScope d.st) f cdv A outer s H E) := Tx.ctx_ok S O ho hi ih hsc hA hr
      generalize hX : cxOf (L2N.CX P w) P w K mg base d.N d.qn (defScope d.st) f cdv A outer s H E = X at C
      have hvq : (vs ++ qs).length = d.ps.length + d.k := by rw [List.length_append]; omega
      generalize hus : vs ++ qs = us at *
      have BO : BodyOk X := by
        subst hX
        exact ⟨fun _ => rfl, hsc.kind, passes_of rfl, rfl, rfl⟩
      have tk : L2N.Takes X (fun cls dd _ H' => E cls dd H') := by
        subst hX
        exact L2N.takes_of rfl rfl rfl rfl
      have hXK : (bdOf K F0 H as us).K = X.K := by subst hX; rfl
      have hmg : X.mg = mg := by subst hX; rfl
      have bo : BdOk (T.ctxX d) (bdOf K F0 H as us) := ⟨by show us.length ≤ d.ps.length + d.k; omega, fun i a ⟨s, h1, _⟩ => by
        have := (List.getElem?_eq_some_iff.mp h1).1
        show i < d.ps.length + d.k
        omega⟩
      have R := startRel (N := d.N) ex (by omega) (by omega) sl
      have q := wpx_cut (wpx_bind q)
      rw [← hvq] at q
      refine O.sndX d hd X (T.run n) (bdOf K F0 H as us) F0 H _ _ _ (fun cls dd _ H' => E cls dd H') C BO bo hXK tk R (wpx_mono q (fun r qr => ?_) (fun x qx σ' F' H' cls dd k e1 hx => ?_) fun x ρx qx σ' F' H' cls dd R' e1 hx => ?_)
      · obtain ⟨fl, ρ'⟩ := r
        have done : ∀ (s : Slot) (v : V) (F' H' : Hp) (σ' : L2.St), (fin as us.length s ρ').wpx (fun r => ∀ v F' H', Back K F0 H as us F' H' r.1 r.2 v → Q v H') (fun x => ∀ F' H' cls dd, Kept (bdOf K F0 H as us) F' H' → XcIs mg x cls dd K F' H' → E cls dd H') (fun x outs => ∀ F' H' cls d, Kept (bdOf K F0 H as us) F' H' → OutsOk K F' H' as us outs → XcIs mg x cls d K F' H' → E cls d H') →
            Rel (bdOf K F0 H as us) F' H' ρ' σ' → Res (bdOf K F0 H as us) F' H' ρ' σ' s v → Q v H' := fun s v F' H' σ' hf R' hr' => by
          unfold fin guard' at hf
          split at hf
          · rename_i ho
            exact hf v F' H' ⟨R'.kept, endOuts R' ho, endRet hr'⟩
          · exact hf.elim
        cases fl with
        | nx => exact fun σ' F' H' R' e1 => done (.val .none) .non F' H' σ' qr R' Rp.non
        | ret s => exact fun σ' v F' H' R' e1 hr' => done s v F' H' σ' qr R' hr'
        | brk => exact qr.elim
        | cnt => exact qr.elim
      · rw [hmg] at hx
        rw [← hXK] at hx
        exact qx F' H' cls dd k hx
      · rw [hmg] at hx
        rw [← hXK] at hx
        exact qx.2 F' H' cls dd R'.kept (endOuts R' qx.1) hx
theorem Tx.fn_ok (S : T.Stand K mg) (O : T.Ok) (ho : T.exs ≠ [] → HotOk P w K mg base T.exs) (hi : ∀ x ∈ T.ini, IniOk P w K mg base x) (n : Nat) (d : DefI) (hd : d ∈ T.defs) : ∃ f fd, Fun K d.name d.name d.st f fd ∧ mg d.name = some (.ref f) ∧ PySem.W.keepIn K (.ref f) = true ∧ L2.Binds K fd d.ps [] ∧ FnG P w K mg base (L2N.CX P w) (n + 2) f fd d.ps (SpF mg K d.ps.length (T.run n d.name)) :=
  (Tx.good S O ho hi n).1 d hd
end
end Dn

/-! Den9: the operations' rules on values. -/
namespace Dn
open PySem PySem.Spec L2
open PyProof.Rows hiding St

/-! ### data without dicts -/
mutual
theorem dp_of {K : PySem.W.Frag} {H : Hp} : ∀ (d : PyData) (v : V), Rp K H d v → d.canLay0 = true → Dp K H v d
  | .none, _, h, _ => by cases h; exact .non
  | .bool b, _, h, _ => by cases h; exact .bl b
  | .int i, _, h, _ => by cases h; exact .int i
  | .str x, _, h, _ => by cases h; exact .str x
  | .list ds, _, h, c => by
    cases h with
    | lst h1 h2 => exact .lst (.inl (.inl h1)) (dpAll_of ds _ h2 (by simpa [PyData.canLay0] using c))
  | .tuple ds, _, h, c => by
    cases h with
    | tup h1 h2 h3 => exact .tup (.inl (.inr ⟨_, h1⟩)) (dpAll_of ds _ h3 (by simpa [PyData.canLay0] using c))
  | .dict es, _, _, c => by simp [PyData.canLay0] at c
theorem dpAll_of {K : PySem.W.Frag} {H : Hp} : ∀ (ds : List PyData) (vs : List V), RpAll K H ds vs → PyData.canLayAll0 ds = true → DpAll K H vs ds
  | [], _, h, _ => by cases h; exact .nil
  | d :: ds, _, h, c => by
    cases h with
    | cons h1 h2 =>
      simp only [PyData.canLayAll0, Bool.and_eq_true] at c
      exact .cons (dp_of d _ h1 c.1) (dpAll_of ds _ h2 c.2)
end
theorem shaped_lay {d : PyData} (h : SeqAt.shaped d = true) : d.canLay0 = true := SeqAt.canLay_of_shaped h
theorem dp_bp {K : PySem.W.Frag} {F H : Hp} {d : PyData} {v : V} (e : Ex F H) (b : Bp K F H d v) (h : SeqAt.shaped d = true) : Dp K H v d := dp_of d v (b.rp e) (shaped_lay h)

/-! ### helpers -/
theorem room_u {A : Around} (r : Room 0 A) : A.units + 65 < cLine := by have := r.un; omega
/-- an operation's outcome that is no new thing -/
theorem pq_val {K : PySem.W.Frag} {F H : Hp} {Q : VK} {d : PyData} {v : V} (e : Ex F H) (q : PQ K F H Q (.val d)) (r : Rp K F d v) : Q v H := q v F H (.refl e) r
/-- a new tuple -/
theorem pq_tup {K : PySem.W.Frag} {F H : Hp} {Q : VK} {ds : List PyData} {vs : List V} {p : Addr} {o : Obj} (e : Ex F H) (q : PQ K F H Q (.val (.tuple ds))) (hp : H p = none) (ho : o.dict = none) (r : RpAll K F ds vs) : Q (.ref p) (upd H p (.frz o (.tup vs))) :=
  q _ _ _ (.new e hp) (.tup upd_same ho (r.mono (.new (e.free hp))))
section
variable {K : PySem.W.Frag} {F H : Hp} {v : V}
/-- a list or a tuple among the operands -/
theorem Bp.seq {d : PyData} {ds : List PyData} (e : Ex F H) (b : Bp K F H d v) (h : d = .list ds ∨ d = .tuple ds) : ∃ a vs, v = .ref a ∧ (SqL K H a vs ∨ SqT K H a vs) ∧ RpAll K F ds vs := by
  rcases h with rfl | rfl
  · obtain ⟨a, vs, h1, h2, h3⟩ := b.lst e
    exact ⟨a, vs, h1, .inl (.inl (.inl h2)), h3⟩
  · obtain ⟨a, o, vs, h1, h2, h3, h4⟩ := b.tup
    exact ⟨a, vs, h1, .inr (.inl (.inr ⟨o, e _ _ h2⟩)), h4⟩
theorem atI_rp {ds : List PyData} {vs : List V} {i : Int} {d : PyData} (r : RpAll K F ds vs) (h : atI ds i = some d) : ∃ w, atI vs i = some w ∧ Rp K F d w := by
  unfold atI at h ⊢
  rw [← r.length]
  cases z : ixN ds.length i with
  | none => rw [z] at h; cases h
  | some j =>
    rw [z] at h
    exact RpAll.at' r (show ds[j]? = some d from h)
end

/-! ### whole numbers -/
def pI2 (C : Int → Int → Bool) (g : Int → Int → PyData) : Prim
  | [.int i, .int j] => if C i j then some (.val (g i j)) else none
  | _ => none
def big2 (i j : Int) : Bool := decide (i.natAbs.log2 + j.natAbs.log2 < 1000000)
theorem pI2_inv {C : Int → Int → Bool} {g : Int → Int → PyData} {ds : List PyData} {s : Slot} (h : pI2 C g ds = some s) : ∃ i j, ds = [.int i, .int j] ∧ C i j = true ∧ s = .val (g i j) := by
  unfold pI2 at h
  split at h
  · rename_i i j
    by_cases c : C i j = true
    · rw [if_pos c] at h; exact ⟨i, j, rfl, c, (Option.some.inj h).symm⟩
    · rw [if_neg c] at h; cases h
  · cases h
theorem rule_I {C : Int → Int → Prop} {c : Int → Int → Bool} {g : Int → Int → V} {g' : Int → Int → PyData} {K : PySem.W.Frag} (hc : ∀ i j, c i j = true → C i j) (hg : ∀ F i j, Rp K F (g' i j) (g i j)) : Rule K (rr2 (rI C g)) (pI2 c g') := by
  intro F H ds vs Q s e hb hs q
  obtain ⟨i, j, rfl, hC, rfl⟩ := pI2_inv hs
  obtain ⟨v, w, rfl, h1, h2⟩ := hb.two
  exact ⟨_, _, rfl, i, j, h1.int, h2.int, hc i j hC, pq_val e q (hg F i j)⟩
theorem rule_I0 {c : Int → Int → Bool} {g : Int → Int → V} {g' : Int → Int → PyData} {K : PySem.W.Frag} (hg : ∀ F i j, Rp K F (g' i j) (g i j)) : Rule K (rr2 (rI0 g)) (pI2 c g') := by
  intro F H ds vs Q s e hb hs q
  obtain ⟨i, j, rfl, hC, rfl⟩ := pI2_inv hs
  obtain ⟨v, w, rfl, h1, h2⟩ := hb.two
  exact ⟨_, _, rfl, i, j, h1.int, h2.int, pq_val e q (hg F i j)⟩
def yes2 (_ _ : Int) : Bool := true
def pSub : Prim := pI2 yes2 fun i j => .int (i - j)
def pDiv : Prim := pI2 (fun _ j => decide (0 < j) && decide (j.natAbs.log2 < 9000)) fun i j => .int (i / j)
def pMod : Prim := pI2 (fun _ j => decide (0 < j)) fun i j => .int (i % j)
def pPow : Prim := pI2 (fun i j => decide (0 ≤ j) && decide (j ≤ 1000000) && decide (i.natAbs < 2 ^ 64)) fun i j => .int (i ^ j.toNat)
def pShl : Prim := pI2 (fun i j => decide (0 ≤ j) && decide (j ≤ 1000000) && decide (i.natAbs < 2 ^ 64)) fun i j => .int (i * 2 ^ j.toNat)
def pShr : Prim := pI2 (fun _ j => decide (0 ≤ j)) fun i j => .int (i / 2 ^ j.toNat)
def pAndI : Prim := pI2 yes2 fun i j => .int (Builtin.bitAnd i j)
def pLt : Prim := pI2 yes2 fun i j => .bool (decide (i < j))
def pLe : Prim := pI2 yes2 fun i j => .bool (decide (i ≤ j))
def pGt : Prim := pI2 yes2 fun i j => .bool (decide (j < i))
def pGe : Prim := pI2 yes2 fun i j => .bool (decide (j ≤ i))
def pNeg : Prim
  | [.int i] => some (.val (.int (-i)))
  | _ => none
theorem rl_neg (K : PySem.W.Frag) : Rule K (rr1 (rU fun i => .int (-i))) pNeg := by
  intro F H ds vs Q s e hb hs q
  unfold pNeg at hs
  split at hs
  · rename_i i
    cases hs
    obtain ⟨v, rfl, h1⟩ := hb.one
    exact ⟨_, rfl, i, h1.int, pq_val e q (.int _)⟩
  · cases hs
section
variable {Γ : Ctx} {d : DenOs} {p : Bool} {pos : Pos} {a b : Expr}
theorem e_sub (h : SndOs Γ [a, b] d p) : SndE Γ (.BinOp a .Sub b pos) (dP pSub d) p := snd_bin (r := fun _ => rI0 fun i j => .int (i - j)) (fun X _ _ => op_sub) (fun K => rule_I0 fun _ _ _ => .int _) h
theorem e_div (h : SndOs Γ [a, b] d p) : SndE Γ (.BinOp a .FloorDiv b pos) (dP pDiv d) p := snd_bin (r := fun _ => rI CDivW fun i j => .int (i / j)) (fun X _ _ => op_fdivW)
  (fun K => rule_I (fun i j z => by simp only [Bool.and_eq_true, decide_eq_true_eq] at z; exact z) fun _ _ _ => .int _) h
theorem e_mod (h : SndOs Γ [a, b] d p) : SndE Γ (.BinOp a .Mod b pos) (dP pMod d) p := snd_bin (r := fun _ => rI (fun _ j => 0 < j) fun i j => .int (i % j)) (fun X _ _ => op_mod)
  (fun K => rule_I (fun i j z => of_decide_eq_true z) fun _ _ _ => .int _) h
theorem e_pow (h : SndOs Γ [a, b] d p) : SndE Γ (.BinOp a .Pow b pos) (dP pPow d) p := snd_bin (r := fun _ => rI CPow fun i j => .int (i ^ j.toNat)) (fun X _ _ => op_pow)
  (fun K => rule_I (fun i j z => by simp only [Bool.and_eq_true, decide_eq_true_eq] at z; exact ⟨z.1.1, z.1.2, z.2⟩) fun _ _ _ => .int _) h
theorem e_neg (h : SndOs Γ [a] d p) : SndE Γ (.UnaryOp .USub a pos) (dP pNeg d) p := snd_un (r := rU fun i => .int (-i)) (fun X => un_neg) rl_neg h
theorem e_gt (h : SndOs Γ [a, b] d p) (hb : notSet b = true) : SndE Γ (.Compare a [.Gt] [b] pos) (dP pGt d) p := snd_cmp (r := fun _ => rI0 fun i j => .bl (decide (j < i))) (fun X _ _ => op_gt) (fun K => rule_I0 fun _ _ _ => .bl _) h hb
theorem t_lt (h : SndOs Γ [a, b] d p) (hb : notSet b = true) : SndT Γ (.Compare a [.Lt] [b] pos) (dP pLt d) p := snd_cmpT (r := fun _ => rI0 fun i j => .bl (decide (i < j))) (fun X _ _ => op_lt) (fun K => rule_I0 fun _ _ _ => .bl _) h hb
theorem t_gt (h : SndOs Γ [a, b] d p) (hb : notSet b = true) : SndT Γ (.Compare a [.Gt] [b] pos) (dP pGt d) p := snd_cmpT (r := fun _ => rI0 fun i j => .bl (decide (j < i))) (fun X _ _ => op_gt) (fun K => rule_I0 fun _ _ _ => .bl _) h hb
theorem t_ge (h : SndOs Γ [a, b] d p) (hb : notSet b = true) : SndT Γ (.Compare a [.GtE] [b] pos) (dP pGe d) p := snd_cmpT (r := fun _ => rI0 fun i j => .bl (decide (j ≤ i))) (fun X _ _ => op_ge) (fun K => rule_I0 fun _ _ _ => .bl _) h hb
end
theorem ic_lt : IntCmp .Lt fun i j => decide (i < j) := fun X => op_lt
theorem ic_le : IntCmp .LtE fun i j => decide (i ≤ j) := fun X => op_le
/-! ### + -/
/-- t + u: its object known -/
def rCatF (K : PySem.W.Frag) : R2 := fun x y H Q => ∃ a b xs ys, x = .ref a ∧ y = .ref b ∧ SqT K H a xs ∧ SqT K H b ys ∧ xs.length + ys.length ≤ sizeLine ∧
  (xs = [] → Q (.ref b) H) ∧ (xs ≠ [] → ys = [] → Q (.ref a) H) ∧ (xs ≠ [] → ys ≠ [] → ∀ p o, H p = none → o.dict = none → Q (.ref p) (upd H p (.frz o (.tup (xs ++ ys)))))
theorem op_catF {X : Cx} : OpR X (binaryOp .Add) (rCatF X.K) := by
  intro pins s σ H x y v u Q I rx ry ⟨a, b, xs, ys, ex, ey, ha, hb, hz, k0, k1, k2⟩
  subst ex
  subst ey
  by_cases hx : xs = []
  · exact op_catA pins s σ H _ _ v u Q I rx ry ⟨a, b, xs, ys, rfl, rfl, ha, hb, hz, k0, k1, fun n => absurd hx n⟩
  · by_cases hy : ys = []
    · exact op_catA pins s σ H _ _ v u Q I rx ry ⟨a, b, xs, ys, rfl, rfl, ha, hb, hz, k0, k1, fun _ n => absurd hy n⟩
    · cases rx; cases ry
      obtain ⟨i1, r1, p1, _⟩ := I.tuple ha
      obtain ⟨i2, r2, p2, _⟩ := I.tuple hb
      have n1 : ∀ {xs : List V} {us : List Value}, Vals xs us → us = [] → xs = [] := fun r z => by subst z; cases r; rfl
      refine HT.cat_tup p1 p2 (fun z => hx (n1 r1 z)) (fun z => absurd (n1 r2 z) hy) (fun _ => ?_) (by rw [← r1.length, ← r2.length]; exact hz)
      exact ⟨.ref s.heap.objs.size, _, laid_tup (t' := s.toks) I (r1.append r2) (by rw [List.length_append]; exact hz), rfl, k2 hx hy _ _ (I.hok.fresh (Nat.le_refl _)) rfl⟩
def rAdd (K : PySem.W.Frag) : R2 := fun x y H Q => (rI0 (fun i j => .int (i + j)) x y H Q ∨ (∃ i j, x = .str i ∧ y = .str j ∧ i.length + j.length ≤ sizeLine ∧ Q (.str (i ++ j)) H)) ∨ (rCat x y H Q ∨ rCatF K x y H Q)
theorem op_addA {X : Cx} : OpR X (binaryOp .Add) (rAdd X.K) := (op_add.or op_add_str).or (op_cat.or op_catF)
def pAdd : Prim
  | [.int i, .int j] => some (.val (.int (i + j)))
  | [.str i, .str j] => if i.length + j.length ≤ 1000000 then some (.val (.str (i ++ j))) else none
  | [.list i, .list j] => if i.length + j.length ≤ 1000000 then some (.own (i ++ j)) else none
  | [.tuple i, .tuple j] => if i.length + j.length ≤ 1000000 then some (.val (.tuple (i ++ j))) else none
  | _ => none
theorem rl_add (K : PySem.W.Frag) : Rule K (rr2 (rAdd K)) pAdd := by
  intro F H ds vs Q s e hb hs q
  unfold pAdd at hs
  split at hs
  · rename_i i j
    cases hs
    obtain ⟨v, w, rfl, h1, h2⟩ := hb.two
    exact ⟨_, _, rfl, .inl (.inl ⟨i, j, h1.int, h2.int, pq_val e q (.int _)⟩)⟩
  · rename_i i j
    split at hs
    · rename_i hl
      cases hs
      obtain ⟨v, w, rfl, h1, h2⟩ := hb.two
      exact ⟨_, _, rfl, .inl (.inr ⟨i, j, h1.str, h2.str, le_line hl, pq_val e q (.str _)⟩)⟩
    · cases hs
  · rename_i i j
    split at hs
    · rename_i hl
      cases hs
      obtain ⟨v, w, rfl, h1, h2⟩ := hb.two
      obtain ⟨a, xs, rfl, k1, k2⟩ := h1.lst e
      obtain ⟨b, ys, rfl, m1, m2⟩ := h2.lst e
      exact ⟨_, _, rfl, .inr (.inl ⟨a, b, xs, ys, rfl, rfl, k1, m1, le_line (by rw [← k2.length, ← m2.length]; exact hl), fun p hp => q p _ hp (k2.app m2)⟩)⟩
    · cases hs
  · rename_i i j
    split at hs
    · rename_i hl
      cases hs
      obtain ⟨v, w, rfl, h1, h2⟩ := hb.two
      obtain ⟨a, o, xs, rfl, k1, k0, k2⟩ := h1.tup
      obtain ⟨b, o', ys, rfl, m1, m0, m2⟩ := h2.tup
      refine ⟨_, _, rfl, .inr (.inr ⟨a, b, xs, ys, rfl, rfl, .inl (.inr ⟨_, e _ _ k1⟩), .inl (.inr ⟨_, e _ _ m1⟩), le_line (by rw [← k2.length, ← m2.length]; exact hl), fun z => ?_, fun _ z => ?_, fun _ _ p o hp ho => pq_tup e q hp ho (k2.app m2)⟩)⟩
      · subst z
        cases k2
        exact pq_val e q (.tup m1 m0 m2)
      · subst z
        cases m2
        rw [List.append_nil] at q
        exact pq_val e q (.tup k1 k0 k2)
    · cases hs
  · cases hs
/-! ### * -/
def rMulA : R2 := fun x y H Q => rI CMulW (fun i j => .int (i * j)) x y H Q ∨ rRep x y H Q
def pMul : Prim
  | [.int i, .int j] => if big2 i j then some (.val (.int (i * j))) else none
  | [.list xs, .int k] => if decide (-(2 ^ 62) ≤ k) && decide (k < 2 ^ 62) && decide (xs.length * k.toNat ≤ 1000000) then some (.own (List.replicate k.toNat xs).flatten) else none
  | _ => none
theorem RpAll.rep {K : PySem.W.Frag} {F : Hp} {ds : List PyData} {vs : List V} (r : RpAll K F ds vs) : ∀ n : Nat, RpAll K F (List.replicate n ds).flatten (List.replicate n vs).flatten
  | 0 => .nil
  | n + 1 => by
    rw [List.replicate_succ, List.replicate_succ, List.flatten_cons, List.flatten_cons]
    exact r.app (RpAll.rep r n)
theorem rl_mul (K : PySem.W.Frag) : Rule K (rr2 rMulA) pMul := by
  intro F H ds vs Q s e hb hs q
  unfold pMul at hs
  split at hs
  · rename_i i j
    split at hs
    · rename_i hl
      cases hs
      obtain ⟨v, w, rfl, h1, h2⟩ := hb.two
      exact ⟨_, _, rfl, .inl ⟨i, j, h1.int, h2.int, (by unfold CMulW; exact of_decide_eq_true hl), pq_val e q (.int _)⟩⟩
    · cases hs
  · rename_i xs k
    split at hs
    · rename_i hl
      cases hs
      simp only [Bool.and_eq_true, decide_eq_true_eq] at hl
      obtain ⟨v, w, rfl, h1, h2⟩ := hb.two
      obtain ⟨a, ys, rfl, k1, k2⟩ := h1.lst e
      exact ⟨_, _, rfl, .inr ⟨a, k, ys, rfl, h2.int, k1, by omega, by omega, le_line (by rw [← k2.length]; exact hl.2), fun p hp => q p _ hp (k2.rep _)⟩⟩
    · cases hs
  · cases hs
/-! ### ==, !=, is None -/
/-- two lists of different lengths, whatever they hold -/
def otherLen : PyData → PyData → Bool
  | .list xs, .list ys => decide (xs.length ≠ ys.length)
  | _, _ => false
def pEq : Prim
  | [.str x, .str y] => some (.val (.bool (x == y)))
  | [x, y] => if SeqAt.shaped x && SeqAt.shaped y then some (.val (.bool (PyData.eqv x y))) else if otherLen x y then some (.val (.bool false)) else none
  | _ => none
def pNe : Prim
  | [.str x, .str y] => some (.val (.bool (!(x == y))))
  | [x, y] => if SeqAt.shaped x && SeqAt.shaped y then some (.val (.bool (!PyData.eqv x y))) else if otherLen x y then some (.val (.bool true)) else none
  | _ => none
def otherL (K : PySem.W.Frag) (x y : V) (H : Hp) : Prop := ∃ a b vs ws, x = .ref a ∧ y = .ref b ∧ SqL K H a vs ∧ SqL K H b ws ∧ vs.length ≠ ws.length
def rEqS (K : PySem.W.Frag) : R2 := fun x y H Q => rEqD K x y H Q ∨ (∃ a b, x = .str a ∧ y = .str b ∧ Q (.bl (a == b)) H) ∨ (otherL K x y H ∧ Q (.bl false) H)
def rNeS (K : PySem.W.Frag) : R2 := fun x y H Q => rNeD K x y H Q ∨ (∃ a b, x = .str a ∧ y = .str b ∧ Q (.bl (!(a == b))) H) ∨ (otherL K x y H ∧ Q (.bl true) H)
theorem op_eqS {X : Cx} (hu : X.A.units + 64 < cLine) : OpR X (compareOp .Eq) (rEqS X.K) := fun pins s σ H x y v u Q I rx ry h => by
  rcases h with h | ⟨a, b, rfl, rfl, q⟩ | ⟨⟨a, b, vs, ws, rfl, rfl, h1, h2, ne⟩, q⟩
  · exact op_eqD hu pins s σ H x y v u Q I rx ry h
  · exact op_eq pins s σ H _ _ v u Q I rx ry ⟨rfl, by rw [dec_str]; exact q⟩
  · cases rx
    cases ry
    obtain ⟨i1, r1, p1, _⟩ := I.list h1
    obtain ⟨i2, r2, p2, _⟩ := I.list h2
    exact SeqAt.eq_list_lengthsAt p1.isList p2.isList (by simpa [← r1.length, ← r2.length] using ne) (by omega) ⟨.bl false, H, I, rfl, q⟩
theorem op_neS {X : Cx} (hu : X.A.units + 64 < cLine) : OpR X (compareOp .NotEq) (rNeS X.K) := fun pins s σ H x y v u Q I rx ry h => by
  rcases h with h | ⟨a, b, rfl, rfl, q⟩ | ⟨⟨a, b, vs, ws, rfl, rfl, h1, h2, ne⟩, q⟩
  · exact op_neD hu pins s σ H x y v u Q I rx ry h
  · exact op_ne pins s σ H _ _ v u Q I rx ry ⟨rfl, by rw [dec_str]; exact q⟩
  · cases rx
    cases ry
    obtain ⟨i1, r1, p1, _⟩ := I.list h1
    obtain ⟨i2, r2, p2, _⟩ := I.list h2
    exact SeqAt.RcNeAt.lists_lengths p1.isList p2.isList (by simpa [← r1.length, ← r2.length] using ne) (by omega) X.prog X.w X.xe _ ⟨.bl true, H, I, rfl, q⟩
theorem rl_eq (K : PySem.W.Frag) : Rule K (rr2 (rEqS K)) pEq := by
  intro F H ds vs Q s e hb hs q
  unfold pEq at hs
  split at hs
  · cases hs
    obtain ⟨v, w, rfl, h1, h2⟩ := hb.two
    exact ⟨_, _, rfl, .inr (.inl ⟨_, _, h1.str, h2.str, pq_val e q (.bl _)⟩)⟩
  · rename_i x y _
    split at hs
    · rename_i hl
      cases hs
      rw [Bool.and_eq_true] at hl
      obtain ⟨v, w, rfl, h1, h2⟩ := hb.two
      exact ⟨_, _, rfl, .inl ⟨x, y, dp_bp e h1 hl.1, dp_bp e h2 hl.2, hl.1, hl.2, pq_val e q (.bl _)⟩⟩
    · split at hs
      · rename_i hl
        cases hs
        obtain ⟨v, w, rfl, h1, h2⟩ := hb.two
        cases x <;> cases y <;> first | (cases hl; done) | skip
        obtain ⟨a, vs, rfl, g1, g2⟩ := h1.lst e
        obtain ⟨b, ws, rfl, g3, g4⟩ := h2.lst e
        exact ⟨_, _, rfl, .inr (.inr ⟨⟨a, b, vs, ws, rfl, rfl, .inl (.inl g1), .inl (.inl g3), by rw [← g2.length, ← g4.length]; exact of_decide_eq_true hl⟩, pq_val e q (.bl _)⟩)⟩
      · cases hs
  · cases hs
theorem rl_ne (K : PySem.W.Frag) : Rule K (rr2 (rNeS K)) pNe := by
  intro F H ds vs Q s e hb hs q
  unfold pNe at hs
  split at hs
  · cases hs
    obtain ⟨v, w, rfl, h1, h2⟩ := hb.two
    exact ⟨_, _, rfl, .inr (.inl ⟨_, _, h1.str, h2.str, pq_val e q (.bl _)⟩)⟩
  · rename_i x y _
    split at hs
    · rename_i hl
      cases hs
      rw [Bool.and_eq_true] at hl
      obtain ⟨v, w, rfl, h1, h2⟩ := hb.two
      exact ⟨_, _, rfl, .inl ⟨x, y, dp_bp e h1 hl.1, dp_bp e h2 hl.2, hl.1, hl.2, pq_val e q (.bl _)⟩⟩
    · split at hs
      · rename_i hl
        cases hs
        obtain ⟨v, w, rfl, h1, h2⟩ := hb.two
        cases x <;> cases y <;> first | (cases hl; done) | skip
        obtain ⟨a, vs, rfl, g1, g2⟩ := h1.lst e
        obtain ⟨b, ws, rfl, g3, g4⟩ := h2.lst e
        exact ⟨_, _, rfl, .inr (.inr ⟨⟨a, b, vs, ws, rfl, rfl, .inl (.inl g1), .inl (.inl g3), by rw [← g2.length, ← g4.length]; exact of_decide_eq_true hl⟩, pq_val e q (.bl _)⟩)⟩
      · cases hs
  · cases hs
def isNone : PyData → Bool
  | .none => true
  | _ => false
def pIsN : Prim
  | [x, .none] => some (.val (.bool (isNone x)))
  | _ => none
def pIsNN : Prim
  | [x, .none] => some (.val (.bool (!isNone x)))
  | _ => none
theorem isN_of {K : PySem.W.Frag} {F H : Hp} {x : PyData} {v : V} (e : Ex F H) (b : Bp K F H x v) : decide (v = .non) = isNone x := by
  have r := b.rp e
  cases x with
  | none => cases r; rfl
  | _ => cases r <;> rfl
theorem rl_isN (K : PySem.W.Frag) : Rule K (rr2 fun x y H Q => y = .non ∧ Q (.bl (decide (x = .non))) H) pIsN := by
  intro F H ds vs Q s e hb hs q
  unfold pIsN at hs
  split at hs
  · rename_i x
    cases hs
    obtain ⟨v, w, rfl, h1, h2⟩ := hb.two
    refine ⟨_, _, rfl, h2.non, ?_⟩
    rw [isN_of e h1]
    exact pq_val e q (.bl _)
  · cases hs
/-! ### in -/
def anyEq (ds : List PyData) (x : PyData) : Bool := ds.any fun z => PyData.eqv z x
def pIn : Prim
  | [x, .list ds] => if SeqAt.shaped x && SeqAt.shaped (.list ds) then some (.val (.bool (anyEq ds x))) else none
  | [x, .tuple ds] => if SeqAt.shaped x && SeqAt.shaped (.tuple ds) then some (.val (.bool (anyEq ds x))) else none
  | _ => none
def pNin : Prim
  | [x, .list ds] => if SeqAt.shaped x && SeqAt.shaped (.list ds) then some (.val (.bool (!anyEq ds x))) else none
  | [x, .tuple ds] => if SeqAt.shaped x && SeqAt.shaped (.tuple ds) then some (.val (.bool (!anyEq ds x))) else none
  | _ => none
def rInT (K : PySem.W.Frag) (n : Bool) : R2 := fun x y H Q => ∃ d ds, Dp K H x d ∧ Dp K H y (.tuple ds) ∧ SeqAt.shaped d = true ∧ SeqAt.shaped (.tuple ds) = true ∧ Q (.bl (n != ds.any fun z => PyData.eqv z d)) H
theorem op_inT {X : Cx} (hu : X.A.units + 65 < cLine) : OpR X (compareOp .In) (rInT X.K false) := by
  intro pins s σ H x y v u Q I rx ry ⟨d, ds, hd, he, sd, se, q⟩
  obtain ⟨as, w1⟩ := Dp.reads I d x v hd rx
  obtain ⟨bs, w2⟩ := Dp.reads I (.tuple ds) y u he ry
  refine SeqAt.in_tuple_reads w2 w1 (by simpa [PyData.canLay0] using shaped_lay se) (shaped_lay sd) (room_in_shaped sd hu) ⟨.bl _, H, I, rfl, ?_⟩
  rw [Bool.false_bne] at q
  exact q
theorem op_ninT {X : Cx} (hu : X.A.units + 65 < cLine) : OpR X (compareOp .NotIn) (rInT X.K true) := by
  intro pins s σ H x y v u Q I rx ry ⟨d, ds, hd, he, sd, se, q⟩
  obtain ⟨as, w1⟩ := Dp.reads I d x v hd rx
  obtain ⟨bs, w2⟩ := Dp.reads I (.tuple ds) y u he ry
  refine SeqAt.notIn_tuple_reads w2 w1 (by simpa [PyData.canLay0] using shaped_lay se) (shaped_lay sd) (room_in_shaped sd hu) ⟨.bl _, H, I, rfl, ?_⟩
  rw [Bool.true_bne] at q
  exact q
theorem rl_in (K : PySem.W.Frag) : Rule K (rr2 fun x y H Q => rInD K x y H Q ∨ rInT K false x y H Q) pIn := by
  intro F H ds vs Q s e hb hs q
  unfold pIn at hs
  split at hs
  · rename_i x ds
    split at hs
    · rename_i hl
      cases hs
      rw [Bool.and_eq_true] at hl
      obtain ⟨v, w, rfl, h1, h2⟩ := hb.two
      exact ⟨_, _, rfl, .inl ⟨x, ds, dp_bp e h1 hl.1, dp_bp e h2 hl.2, hl.1, hl.2, pq_val e q (.bl _)⟩⟩
    · cases hs
  · rename_i x ds
    split at hs
    · rename_i hl
      cases hs
      rw [Bool.and_eq_true] at hl
      obtain ⟨v, w, rfl, h1, h2⟩ := hb.two
      refine ⟨_, _, rfl, .inr ⟨x, ds, dp_bp e h1 hl.1, dp_bp e h2 hl.2, hl.1, hl.2, ?_⟩⟩
      rw [Bool.false_bne]
      exact pq_val e q (.bl _)
    · cases hs
  · cases hs
theorem rl_nin (K : PySem.W.Frag) : Rule K (rr2 fun x y H Q => rNotInD K x y H Q ∨ rInT K true x y H Q) pNin := by
  intro F H ds vs Q s e hb hs q
  unfold pNin at hs
  split at hs
  · rename_i x ds
    split at hs
    · rename_i hl
      cases hs
      rw [Bool.and_eq_true] at hl
      obtain ⟨v, w, rfl, h1, h2⟩ := hb.two
      exact ⟨_, _, rfl, .inl ⟨x, ds, dp_bp e h1 hl.1, dp_bp e h2 hl.2, hl.1, hl.2, pq_val e q (.bl _)⟩⟩
    · cases hs
  · rename_i x ds
    split at hs
    · rename_i hl
      cases hs
      rw [Bool.and_eq_true] at hl
      obtain ⟨v, w, rfl, h1, h2⟩ := hb.two
      refine ⟨_, _, rfl, .inr ⟨x, ds, dp_bp e h1 hl.1, dp_bp e h2 hl.2, hl.1, hl.2, ?_⟩⟩
      rw [Bool.true_bne]
      exact pq_val e q (.bl _)
    · cases hs
  · cases hs
/-! ### x[i] -/
def pIx : Prim
  | [.list ds, .int i] => (atI ds i).map .val
  | [.tuple ds, .int i] => (atI ds i).map .val
  | [.str z, .int i] => if z.length ≤ 1000000 then (atI z.cps.toList i).map fun c => .val (.str ⟨#[c]⟩) else none
  | _ => none
theorem rl_ix (K : PySem.W.Frag) : Rule K (rr2 (rIx K)) pIx := by
  intro F H ds vs Q s e hb hs q
  unfold pIx at hs
  split at hs
  · rename_i ds i
    obtain ⟨d, hd, rfl⟩ := Option.map_eq_some_iff.mp hs
    obtain ⟨v, w, rfl, h1, h2⟩ := hb.two
    obtain ⟨a, ys, rfl, k1, k2⟩ := h1.lst e
    obtain ⟨x, m1, m2⟩ := atI_rp k2 hd
    exact ⟨_, _, rfl, .inl ⟨a, ys, i, x, rfl, h2.int, .inl (.inl k1), m1, pq_val e q m2⟩⟩
  · rename_i ds i
    obtain ⟨d, hd, rfl⟩ := Option.map_eq_some_iff.mp hs
    obtain ⟨v, w, rfl, h1, h2⟩ := hb.two
    obtain ⟨a, o, ys, rfl, k1, k0, k2⟩ := h1.tup
    obtain ⟨x, m1, m2⟩ := atI_rp k2 hd
    exact ⟨_, _, rfl, .inr (.inl ⟨a, ys, i, x, rfl, h2.int, .inl (.inr ⟨_, e _ _ k1⟩), m1, pq_val e q m2⟩)⟩
  · rename_i z i
    split at hs
    · rename_i hl
      obtain ⟨c, hc, rfl⟩ := Option.map_eq_some_iff.mp hs
      obtain ⟨v, w, rfl, h1, h2⟩ := hb.two
      exact ⟨_, _, rfl, .inr (.inr ⟨z, i, c, h1.str, h2.int, le_line hl, hc, pq_val e q (.str _)⟩)⟩
    · cases hs
  · cases hs
section
variable {Γ : Ctx} {d : DenOs} {p : Bool} {pos : Pos} {a b : Expr}
theorem e_add (h : SndOs Γ [a, b] d p) : SndE Γ (.BinOp a .Add b pos) (dP pAdd d) p := snd_bin (r := rAdd) (fun X _ _ => op_addA) rl_add h
theorem e_mul (h : SndOs Γ [a, b] d p) : SndE Γ (.BinOp a .Mult b pos) (dP pMul d) p := snd_bin (r := fun _ => rMulA) (fun X _ _ => op_mulW.or op_rep) rl_mul h
theorem e_eq (h : SndOs Γ [a, b] d p) (hb : notSet b = true) : SndE Γ (.Compare a [.Eq] [b] pos) (dP pEq d) p := snd_cmp (r := rEqS) (fun X _ hr => op_eqS (by have := room_u hr; omega)) rl_eq h hb
theorem t_eq (h : SndOs Γ [a, b] d p) (hb : notSet b = true) : SndT Γ (.Compare a [.Eq] [b] pos) (dP pEq d) p := snd_cmpT (r := rEqS) (fun X _ hr => op_eqS (by have := room_u hr; omega)) rl_eq h hb
theorem t_ne (h : SndOs Γ [a, b] d p) (hb : notSet b = true) : SndT Γ (.Compare a [.NotEq] [b] pos) (dP pNe d) p := snd_cmpT (r := rNeS) (fun X _ hr => op_neS (by have := room_u hr; omega)) rl_ne h hb
theorem t_is (h : SndOs Γ [a, b] d p) (hb : notSet b = true) : SndT Γ (.Compare a [.Is] [b] pos) (dP pIsN d) p := snd_cmpT (r := fun _ => fun x y H Q => y = .non ∧ Q (.bl (decide (x = .non))) H) (fun X _ _ => op_isN) rl_isN h hb
theorem e_in (h : SndOs Γ [a, b] d p) (hb : notSet b = true) : SndE Γ (.Compare a [.In] [b] pos) (dP pIn d) p := snd_cmp (r := fun K => fun x y H Q => rInD K x y H Q ∨ rInT K false x y H Q) (fun X _ hr => (op_inD (room_u hr)).or (op_inT (room_u hr))) rl_in h hb
theorem t_in (h : SndOs Γ [a, b] d p) (hb : notSet b = true) : SndT Γ (.Compare a [.In] [b] pos) (dP pIn d) p := snd_cmpT (r := fun K => fun x y H Q => rInD K x y H Q ∨ rInT K false x y H Q) (fun X _ hr => (op_inD (room_u hr)).or (op_inT (room_u hr))) rl_in h hb
theorem t_nin (h : SndOs Γ [a, b] d p) (hb : notSet b = true) : SndT Γ (.Compare a [.NotIn] [b] pos) (dP pNin d) p := snd_cmpT (r := fun K => fun x y H Q => rNotInD K x y H Q ∨ rInT K true x y H Q) (fun X _ hr => (op_notInD (room_u hr)).or (op_ninT (room_u hr))) rl_nin h hb
theorem e_ix (h : SndOs Γ [a, b] d p) (hb : notSlice b = true) : SndE Γ (.Subscript a b pos) (dP pIx d) p := snd_ix (r := rIx) (fun X => ix_seq) rl_ix h hb
end
end Dn

/-! Den10: slices, built-in calls, sorting, reading methods. -/
namespace Dn
open PySem PySem.Spec L2
open PyProof.Rows hiding St

/-! ### a[lo:hi] -/
def cutD (ds : List PyData) (lo hi : Option Int) : List PyData := (ds.drop (HT.sIx ds.length 0 lo)).take (HT.sIx ds.length ds.length hi - HT.sIx ds.length 0 lo)
def rSlF (K : PySem.W.Frag) : V → Option Int → Option Int → Hp → VK → Prop := fun x lo hi H Q => ∃ a xs, x = .ref a ∧ SqT K H a xs ∧
  (HT.sIx xs.length 0 lo = 0 ∧ HT.sIx xs.length xs.length hi = xs.length → Q (.ref a) H) ∧ (¬ (HT.sIx xs.length 0 lo = 0 ∧ HT.sIx xs.length xs.length hi = xs.length) → ∀ p o, H p = none → o.dict = none → Q (.ref p) (upd H p (.frz o (.tup (cutV xs lo hi)))))
theorem sl_tupF {X : Cx} : SlR X (rSlF X.K) := by
  intro pins s σ H x v vl vu lo hi sl Q I rx hs pl pu ⟨a, xs, ea, hx, k1, k2⟩
  subst ea
  by_cases hw : HT.sIx xs.length 0 lo = 0 ∧ HT.sIx xs.length xs.length hi = xs.length
  · exact sl_tupA pins s σ H _ v vl vu lo hi sl Q I rx hs pl pu ⟨a, xs, rfl, hx, k1, fun n => absurd hw n⟩
  · cases rx
    obtain ⟨its, r, ht, hz⟩ := I.tuple hx
    have hn : its.toArray.size = xs.length := by rw [List.size_toArray, ← r.length]
    refine ⟨"tuple", _, PyProof.Rows.slot_tuple_getitem.lookup, ht.typeIs, HT.getItem_tuple_cut ht hs pl pu (by rw [hn]; exact hw) ?_ (by rw [hn]; exact hz)⟩
    rw [hn]
    exact ⟨.ref s.heap.objs.size, _, laid_tup (t' := s.toks) I ((r.drop (HT.sIx xs.length 0 lo)).take (HT.sIx xs.length xs.length hi - HT.sIx xs.length 0 lo)) (Nat.le_trans (cutV_length xs lo hi) hz), rfl, k2 hw _ _ (I.hok.fresh (Nat.le_refl _)) rfl⟩
theorem RpAll.cut {K : PySem.W.Frag} {F : Hp} {ds : List PyData} {vs : List V} (r : RpAll K F ds vs) (lo hi : Option Int) : RpAll K F (cutD ds lo hi) (cutV vs lo hi) := by
  unfold cutD cutV
  rw [← r.length]
  exact (r.drop _).take _
def pSlc (x : PyData) (lo hi : Option Int) : Option Slot := match x with
  | .list ds => some (.own (cutD ds lo hi))
  | .tuple ds => some (.val (.tuple (cutD ds lo hi)))
  | .str z => if z.length ≤ 1000000 then some (.val (.str (cutS z lo hi))) else none
  | _ => none
theorem cut_whole {α : Type} {xs : List α} {a b : Nat} (h1 : a = 0) (h2 : b = xs.length) : (xs.drop a).take (b - a) = xs := by
  subst h1
  subst h2
  rw [List.drop_zero, Nat.sub_zero, List.take_length]
theorem rl_slc (K : PySem.W.Frag) : RuleS K (fun x lo hi H Q => rSlL K x lo hi H Q ∨ rSlF K x lo hi H Q ∨ rSlS x lo hi H Q) pSlc := by
  intro F H x v lo hi Q s e hb hs q
  cases x with
  | list ds =>
    cases hs
    obtain ⟨a, vs, rfl, k1, k2⟩ := hb.lst e
    exact .inl ⟨a, vs, rfl, .inl (.inl k1), fun p hp => q p _ hp (k2.cut lo hi)⟩
  | tuple ds =>
    cases hs
    obtain ⟨a, o, vs, rfl, k1, k0, k2⟩ := hb.tup
    refine .inr (.inl ⟨a, vs, rfl, .inl (.inr ⟨_, e _ _ k1⟩), fun ⟨z1, z2⟩ => ?_, fun _ p o hp ho => pq_tup e q hp ho (k2.cut lo hi)⟩)
    have : cutD ds lo hi = ds := by
      unfold cutD
      rw [← k2.length] at z1 z2
      exact cut_whole z1 z2
    rw [this] at q
    exact pq_val e q (.tup k1 k0 k2)
  | str z =>
    unfold pSlc at hs
    simp only at hs
    split at hs
    · rename_i hl
      cases hs
      exact .inr (.inr ⟨z, hb.str, le_line hl, pq_val e q (.str _)⟩)
    · cases hs
  | _ => cases hs
section
variable {Γ : Ctx} {x : DenO} {l u : Option DenO} {m p p1 p2 : Bool} {pos ppos : Pos} {a : Expr} {lo hi : Option Expr}
theorem e_slc (ha : SndO Γ a x p m) (hl : SndP Γ lo l p1) (hu : SndP Γ hi u p2) (hp : ((p1 && p2) || !m) = true) : SndE Γ (.Subscript a (.Slice lo hi none ppos) pos) (dSl pSlc x l u) (p && (p1 && p2)) :=
  snd_slice (r := fun K x lo hi H Q => rSlL K x lo hi H Q ∨ rSlF K x lo hi H Q ∨ rSlS x lo hi H Q) (fun X => sl_list.or (sl_tupF.or sl_str)) rl_slc ha hl hu hp
end

/-! ### calls of built-ins -/
def pLen : Prim
  | [.list ds] => some (.val (.int ds.length))
  | [.tuple ds] => some (.val (.int ds.length))
  | [.str z] => if z.length ≤ 1000000 then some (.val (.int z.length)) else none
  | _ => none
theorem rl_len (K : PySem.W.Frag) : Rule K (fun xs H Q => (∃ p ys, xs = [.ref p] ∧ (SqL K H p ys ∨ SqT K H p ys) ∧ Q (.int ys.length) H) ∨ (∃ z, xs = [.str z] ∧ z.length ≤ sizeLine ∧ Q (.int z.length) H)) pLen := by
  intro F H ds vs Q s e hb hs q
  unfold pLen at hs
  split at hs
  · rename_i ys
    cases hs
    obtain ⟨v, rfl, h1⟩ := hb.one
    obtain ⟨a, xs, rfl, k1, k2⟩ := h1.seq e (.inl rfl)
    refine .inl ⟨a, xs, rfl, k1, ?_⟩
    rw [← k2.length]
    exact pq_val e q (.int _)
  · rename_i ys
    cases hs
    obtain ⟨v, rfl, h1⟩ := hb.one
    obtain ⟨a, xs, rfl, k1, k2⟩ := h1.seq e (.inr rfl)
    refine .inl ⟨a, xs, rfl, k1, ?_⟩
    rw [← k2.length]
    exact pq_val e q (.int _)
  · rename_i z
    split at hs
    · rename_i hl
      cases hs
      obtain ⟨v, rfl, h1⟩ := hb.one
      exact .inr ⟨z, by rw [h1.str], le_line hl, pq_val e q (.int _)⟩
    · cases hs
  · cases hs
def pAbs : Prim
  | [.int i] => some (.val (.int (if i < 0 then -i else i)))
  | _ => none
theorem rl_abs (K : PySem.W.Frag) : Rule K (fun xs H Q => ∃ i, xs = [.int i] ∧ Q (.int (if i < 0 then -i else i)) H) pAbs := by
  intro F H ds vs Q s e hb hs q
  unfold pAbs at hs
  split at hs
  · cases hs
    obtain ⟨v, rfl, h1⟩ := hb.one
    exact ⟨_, by rw [h1.int], pq_val e q (.int _)⟩
  · cases hs
/-- the whole numbers of a list -/
def numsOf : List PyData → Option (List Int)
  | [] => some []
  | .int i :: ds => (numsOf ds).map (i :: ·)
  | _ :: _ => none
def boolsOf : List PyData → Option (List Bool)
  | [] => some []
  | .bool i :: ds => (boolsOf ds).map (i :: ·)
  | _ :: _ => none
theorem numsOf_rp {K : PySem.W.Frag} {F : Hp} : ∀ {ds : List PyData} {vs : List V} {ns : List Int}, RpAll K F ds vs → numsOf ds = some ns → vs = ns.map V.int
  | [], _, _, r, h => by cases r; cases h; rfl
  | d :: ds, _, ns, r, h => by
    cases r with
    | cons r1 r2 =>
      unfold numsOf at h
      split at h
      · rename_i z; cases z
      · rename_i i ds' z
        cases z
        obtain ⟨ms, h1, rfl⟩ := Option.map_eq_some_iff.mp h
        cases r1
        rw [numsOf_rp r2 h1]
        rfl
      · cases h
theorem boolsOf_rp {K : PySem.W.Frag} {F : Hp} : ∀ {ds : List PyData} {vs : List V} {ns : List Bool}, RpAll K F ds vs → boolsOf ds = some ns → vs = ns.map V.bl
  | [], _, _, r, h => by cases r; cases h; rfl
  | d :: ds, _, ns, r, h => by
    cases r with
    | cons r1 r2 =>
      unfold boolsOf at h
      split at h
      · rename_i z; cases z
      · rename_i i ds' z
        cases z
        obtain ⟨ms, h1, rfl⟩ := Option.map_eq_some_iff.mp h
        cases r1
        rw [boolsOf_rp r2 h1]
        rfl
      · cases h
def topOf : List Int → Option Int
  | [] => none
  | n :: ns => some (ns.foldl max n)
def lowOf : List Int → Option Int
  | [] => none
  | n :: ns => some (ns.foldl min n)
theorem foldl_max (ns : List Int) : ∀ n : Int, (ns.foldl max n = n ∨ ns.foldl max n ∈ ns) ∧ n ≤ ns.foldl max n ∧ ∀ y ∈ ns, y ≤ ns.foldl max n := by
  induction ns with
  | nil => intro n; exact ⟨.inl rfl, Int.le_refl _, fun y hy => nomatch hy⟩
  | cons m ms ih =>
    intro n
    obtain ⟨h1, h2, h3⟩ := ih (max n m)
    rw [List.foldl_cons]
    refine ⟨?_, by omega, fun y hy => ?_⟩
    · rcases h1 with h1 | h1
      · rw [h1]
        rcases Int.le_total n m with z | z
        · right; rw [Int.max_eq_right z]; exact List.mem_cons_self
        · left; rw [Int.max_eq_left z]
      · right; exact List.mem_cons_of_mem _ h1
    · rcases List.mem_cons.mp hy with z | z
      · subst z; omega
      · exact h3 y z
theorem foldl_min (ns : List Int) : ∀ n : Int, (ns.foldl min n = n ∨ ns.foldl min n ∈ ns) ∧ ns.foldl min n ≤ n ∧ ∀ y ∈ ns, ns.foldl min n ≤ y := by
  induction ns with
  | nil => intro n; exact ⟨.inl rfl, Int.le_refl _, fun y hy => nomatch hy⟩
  | cons m ms ih =>
    intro n
    obtain ⟨h1, h2, h3⟩ := ih (min n m)
    rw [List.foldl_cons]
    refine ⟨?_, by omega, fun y hy => ?_⟩
    · rcases h1 with h1 | h1
      · rw [h1]
        rcases Int.le_total n m with z | z
        · left; rw [Int.min_eq_left z]
        · right; rw [Int.min_eq_right z]; exact List.mem_cons_self
      · right; exact List.mem_cons_of_mem _ h1
    · rcases List.mem_cons.mp hy with z | z
      · subst z; omega
      · exact h3 y z
/-- max(a, b), max(xs); the other -/
def pMax : Prim
  | [.int i, .int j] => some (.val (.int (if j > i then j else i)))
  | [.list ds] => (numsOf ds).bind fun ns => (topOf ns).map fun n => .val (.int n)
  | _ => none
def pMin : Prim
  | [.int i, .int j] => some (.val (.int (if j < i then j else i)))
  | [.list ds] => (numsOf ds).bind fun ns => (lowOf ns).map fun n => .val (.int n)
  | _ => none
theorem rl_max (K : PySem.W.Frag) : Rule K (fun xs H Q => (∃ i j, xs = [.int i, .int j] ∧ Q (.int (if j > i then j else i)) H) ∨ rMax K xs H Q) pMax := by
  intro F H ds vs Q s e hb hs q
  unfold pMax at hs
  split at hs
  · cases hs
    obtain ⟨v, w, rfl, h1, h2⟩ := hb.two
    exact .inl ⟨_, _, by rw [h1.int, h2.int], pq_val e q (.int _)⟩
  · obtain ⟨ns, hn, hs⟩ := Option.bind_eq_some_iff.mp hs
    obtain ⟨n, ht, rfl⟩ := Option.map_eq_some_iff.mp hs
    obtain ⟨v, rfl, h1⟩ := hb.one
    obtain ⟨a, xs, rfl, k1, k2⟩ := h1.lst e
    have := numsOf_rp k2 hn
    subst this
    cases ns with
    | nil => cases ht
    | cons m ms =>
      have ht : some (ms.foldl max m) = some n := ht
      cases ht
      obtain ⟨g1, g2, g3⟩ := foldl_max ms m
      refine .inr ⟨a, m :: ms, rfl, .inl (.inl k1), Nat.succ_pos _, fun k hk1 hk2 => ?_⟩
      have : k = ms.foldl max m := by
        have u1 : k ≤ ms.foldl max m := by
          rcases List.mem_cons.mp hk1 with z | z
          · subst z; exact g2
          · exact g3 k z
        have u2 : ms.foldl max m ≤ k := by
          rcases g1 with z | z
          · rw [z]; exact hk2 m List.mem_cons_self
          · exact hk2 _ (List.mem_cons_of_mem _ z)
        omega
      subst this
      exact pq_val e q (.int _)
  · cases hs
theorem rl_min (K : PySem.W.Frag) : Rule K (fun xs H Q => (∃ i j, xs = [.int i, .int j] ∧ Q (.int (if j < i then j else i)) H) ∨ rMin K xs H Q) pMin := by
  intro F H ds vs Q s e hb hs q
  unfold pMin at hs
  split at hs
  · cases hs
    obtain ⟨v, w, rfl, h1, h2⟩ := hb.two
    exact .inl ⟨_, _, by rw [h1.int, h2.int], pq_val e q (.int _)⟩
  · obtain ⟨ns, hn, hs⟩ := Option.bind_eq_some_iff.mp hs
    obtain ⟨n, ht, rfl⟩ := Option.map_eq_some_iff.mp hs
    obtain ⟨v, rfl, h1⟩ := hb.one
    obtain ⟨a, xs, rfl, k1, k2⟩ := h1.lst e
    have := numsOf_rp k2 hn
    subst this
    cases ns with
    | nil => cases ht
    | cons m ms =>
      have ht : some (ms.foldl min m) = some n := ht
      cases ht
      obtain ⟨g1, g2, g3⟩ := foldl_min ms m
      refine .inr ⟨a, m :: ms, rfl, .inl (.inl k1), Nat.succ_pos _, fun k hk1 hk2 => ?_⟩
      have : k = ms.foldl min m := by
        have u1 : ms.foldl min m ≤ k := by
          rcases List.mem_cons.mp hk1 with z | z
          · subst z; exact g2
          · exact g3 k z
        have u2 : k ≤ ms.foldl min m := by
          rcases g1 with z | z
          · rw [z]; exact hk2 m List.mem_cons_self
          · exact hk2 _ (List.mem_cons_of_mem _ z)
        omega
      subst this
      exact pq_val e q (.int _)
  · cases hs
def pSum : Prim
  | [.list ds] => (numsOf ds).map fun ns => .val (.int ns.sum)
  | _ => none
def pAll : Prim
  | [.list ds] => (boolsOf ds).map fun bs => .val (.bool (bs.all id))
  | _ => none
def pAny : Prim
  | [.list ds] => (boolsOf ds).map fun bs => .val (.bool (bs.any id))
  | _ => none
theorem rl_all (K : PySem.W.Frag) : Rule K (rAll K) pAll := by
  intro F H ds vs Q s e hb hs q
  unfold pAll at hs
  split at hs
  · obtain ⟨ns, hn, rfl⟩ := Option.map_eq_some_iff.mp hs
    obtain ⟨v, rfl, h1⟩ := hb.one
    obtain ⟨a, xs, rfl, k1, k2⟩ := h1.lst e
    have := boolsOf_rp k2 hn
    subst this
    exact ⟨a, ns, rfl, .inl (.inl k1), pq_val e q (.bl _)⟩
  · cases hs
theorem rl_any (K : PySem.W.Frag) : Rule K (rAny K) pAny := by
  intro F H ds vs Q s e hb hs q
  unfold pAny at hs
  split at hs
  · obtain ⟨ns, hn, rfl⟩ := Option.map_eq_some_iff.mp hs
    obtain ⟨v, rfl, h1⟩ := hb.one
    obtain ⟨a, xs, rfl, k1, k2⟩ := h1.lst e
    have := boolsOf_rp k2 hn
    subst this
    exact ⟨a, ns, rfl, .inl (.inl k1), pq_val e q (.bl _)⟩
  · cases hs
/-- list(xs), tuple(xs) -/
def pListOf : Prim
  | [.list ds] => some (.own ds)
  | [.tuple ds] => some (.own ds)
  | _ => none
theorem rl_listOf (K : PySem.W.Frag) : Rule K (fun xs H Q => ∃ p ys, xs = [.ref p] ∧ (SqL K H p ys ∨ SqT K H p ys) ∧ ∀ l, H l = none → Q (.ref l) (upd H l (.lst ys))) pListOf := by
  intro F H ds vs Q s e hb hs q
  unfold pListOf at hs
  split at hs
  · cases hs
    obtain ⟨v, rfl, h1⟩ := hb.one
    obtain ⟨a, xs, rfl, k1, k2⟩ := h1.seq e (.inl rfl)
    exact ⟨a, xs, rfl, k1, fun l hl => q l xs hl k2⟩
  · cases hs
    obtain ⟨v, rfl, h1⟩ := hb.one
    obtain ⟨a, xs, rfl, k1, k2⟩ := h1.seq e (.inr rfl)
    exact ⟨a, xs, rfl, k1, fun l hl => q l xs hl k2⟩
  · cases hs
def pTupOf : Prim
  | [.list ds] => some (.val (.tuple ds))
  | [.tuple ds] => some (.val (.tuple ds))
  | _ => none
def rTupF (K : PySem.W.Frag) : List V → Hp → VK → Prop := fun xs H Q => ∃ p ys, xs = [.ref p] ∧ ((SqL K H p ys ∧ ∀ l o, H l = none → o.dict = none → Q (.ref l) (upd H l (.frz o (.tup ys)))) ∨ (SqT K H p ys ∧ Q (.ref p) H))
theorem call_tupF {X : Cx} : CallR X (.type "tuple") (rTupF X.K) := by
  intro pins s σ H xs us Q I r ⟨p, ys, ep, h⟩
  subst ep
  rcases h with ⟨hq, q⟩ | h
  · rw [Vals.ref1 r]
    obtain ⟨its, r', pl, hz⟩ := I.list hq
    refine call_tuple_list pl.isList (fun g kp => ?_) (by rw [List.size_toArray, ← r'.length]; exact hz)
    have J : Inv X pins σ H { s with heap := g } := I.kept (t' := s.toks) kp
    exact ⟨.ref g.objs.size, _, laid_tup (t' := s.toks) J r' hz, rfl, q _ _ (J.hok.fresh (Nat.le_refl _)) rfl⟩
  · exact call_tuple_of pins s σ H _ us Q I r ⟨p, ys, rfl, .inr h⟩
theorem rl_tupOf (K : PySem.W.Frag) : Rule K (rTupF K) pTupOf := by
  intro F H ds vs Q s e hb hs q
  unfold pTupOf at hs
  split at hs
  · cases hs
    obtain ⟨v, rfl, h1⟩ := hb.one
    obtain ⟨a, xs, rfl, k1, k2⟩ := h1.lst e
    exact ⟨a, xs, rfl, .inl ⟨.inl (.inl k1), fun l o hl ho => pq_tup e q hl ho k2⟩⟩
  · cases hs
    obtain ⟨v, rfl, h1⟩ := hb.one
    obtain ⟨a, o, xs, rfl, k1, k0, k2⟩ := h1.tup
    exact ⟨a, xs, rfl, .inr ⟨.inl (.inr ⟨_, e _ _ k1⟩), pq_val e q (.tup k1 k0 k2)⟩⟩
  · cases hs
/-- divmod(a, b) -/
def pDvm : Prim
  | [.int i, .int j] => if decide (0 < j) && decide (j < 1073741824) then some (.val (.tuple [.int (i / j), .int (i % j)])) else none
  | _ => none
def rDvmF : List V → Hp → VK → Prop := fun xs H Q => ∃ i j, xs = [.int i, .int j] ∧ CDiv i j ∧ ∀ p o, H p = none → o.dict = none → Q (.ref p) (upd H p (.frz o (.tup [.int (i / j), .int (i % j)])))
theorem call_dvmF {X : Cx} : CallR X (.builtin "divmod") rDvmF := by
  intro pins s σ H xs us Q I r ⟨i, j, e, ⟨h1, h2⟩, q⟩
  subst e
  obtain ⟨u, w', rfl, ⟨t, rfl⟩, ⟨t', rfl⟩⟩ := vals2 r
  refine divmod_int (by omega) ?_ (.inl (PyProof.noPylong_small (by omega)))
  rw [Int.fdiv_eq_ediv_of_nonneg i (by omega), Int.fmod_eq_emod_of_nonneg i (by omega)]
  refine ⟨.ref s.heap.objs.size, _, laid_tup (t' := s.toks + 1 + 1) I (xs := [.int (i / j), .int (i % j)]) (us := [.int (i / j) s.toks, .int (i % j) (s.toks + 1)]) (.cons ⟨_, rfl⟩ (.cons ⟨_, rfl⟩ .nil)) (by show 2 ≤ sizeLine; rw [sizeLine_eq]; decide), rfl, q _ _ (I.hok.fresh (Nat.le_refl _)) rfl⟩
theorem rl_dvm (K : PySem.W.Frag) : Rule K rDvmF pDvm := by
  intro F H ds vs Q s e hb hs q
  unfold pDvm at hs
  split at hs
  · rename_i i j
    split at hs
    · rename_i hl
      cases hs
      simp only [Bool.and_eq_true, decide_eq_true_eq] at hl
      obtain ⟨v, w, rfl, h1, h2⟩ := hb.two
      exact ⟨i, j, by rw [h1.int, h2.int], hl, fun p o hp ho => pq_tup e q hp ho (.cons (.int _) (.cons (.int _) .nil))⟩
    · cases hs
  · cases hs
/-- int(x), bool(x), str(i) -/
def pInt : Prim
  | [.int i] => some (.val (.int i))
  | [.bool b] => some (.val (.int (if b then 1 else 0)))
  | _ => none
theorem rl_int (K : PySem.W.Frag) : Rule K (fun xs H Q => (∃ i, xs = [.int i] ∧ Q (.int i) H) ∨ ∃ k, xs = [.bl k] ∧ Q (.int (if k then 1 else 0)) H) pInt := by
  intro F H ds vs Q s e hb hs q
  unfold pInt at hs
  split at hs
  · cases hs
    obtain ⟨v, rfl, h1⟩ := hb.one
    exact .inl ⟨_, by rw [h1.int], pq_val e q (.int _)⟩
  · cases hs
    obtain ⟨v, rfl, h1⟩ := hb.one
    exact .inr ⟨_, by rw [h1.bool], pq_val e q (.int _)⟩
  · cases hs
def pStrI : Prim
  | [.int i] => if i.natAbs.log2 < 1920 then some (.val (.str (toString i))) else none
  | _ => none
theorem rl_strI (K : PySem.W.Frag) : Rule K (fun xs H Q => ∃ i, xs = [.int i] ∧ i.natAbs.log2 < 1920 ∧ Q (.str (toString i)) H) pStrI := by
  intro F H ds vs Q s e hb hs q
  unfold pStrI at hs
  split at hs
  · split at hs
    · rename_i hl
      cases hs
      obtain ⟨v, rfl, h1⟩ := hb.one
      exact ⟨_, by rw [h1.int], hl, pq_val e q (.str _)⟩
    · cases hs
  · cases hs
section
variable {Γ : Ctx} {d : DenOs} {p : Bool} {pos fpos : Pos} {a : Expr} {es : List Expr}
theorem e_len (h : SndOs Γ (a :: es) d p) (he : (a :: es).all plainE = true) (hg : Γ.sc.names.lookup ("len" : Str) = some .globalImplicit) (hf : ("len" : Str) ∈ Γ.blts) : SndE Γ (.Call (.Name "len" fpos) (a :: es) [] pos) (dP pLen d) p :=
  snd_callB (r := fun K xs H Q => (∃ p ys, xs = [.ref p] ∧ (SqL K H p ys ∨ SqT K H p ys) ∧ Q (.int ys.length) H) ∨ (∃ z, xs = [.str z] ∧ z.length ≤ sizeLine ∧ Q (.int z.length) H)) (fun X _ _ => call_len_seq.or call_len_str) rl_len PySem.boot_len h he hg hf (by decide)
theorem boot_abs' : bootBuiltins "abs" = some (.builtin "abs") := by decide +kernel
theorem boot_max' : bootBuiltins "max" = some (.builtin "max") := by decide +kernel
theorem boot_min' : bootBuiltins "min" = some (.builtin "min") := by decide +kernel
theorem boot_all' : bootBuiltins "all" = some (.builtin "all") := by decide +kernel
theorem boot_any' : bootBuiltins "any" = some (.builtin "any") := by decide +kernel
theorem boot_dvm' : bootBuiltins "divmod" = some (.builtin "divmod") := by decide +kernel
theorem boot_list' : bootBuiltins "list" = some (.type "list") := by decide +kernel
theorem boot_tuple' : bootBuiltins "tuple" = some (.type "tuple") := by decide +kernel
theorem boot_int' : bootBuiltins "int" = some (.type "int") := by decide +kernel
theorem boot_str' : bootBuiltins "str" = some (.type "str") := by decide +kernel
theorem boot_bool' : bootBuiltins "bool" = some (.type "bool") := by decide +kernel
theorem e_abs (h : SndOs Γ (a :: es) d p) (he : (a :: es).all plainE = true) (hg : Γ.sc.names.lookup ("abs" : Str) = some .globalImplicit) (hf : ("abs" : Str) ∈ Γ.blts) : SndE Γ (.Call (.Name "abs" fpos) (a :: es) [] pos) (dP pAbs d) p :=
  snd_callB (r := fun _ xs H Q => ∃ i, xs = [.int i] ∧ Q (.int (if i < 0 then -i else i)) H) (fun X _ _ => call_abs) rl_abs boot_abs' h he hg hf (by decide)
theorem e_max (h : SndOs Γ (a :: es) d p) (he : (a :: es).all plainE = true) (hg : Γ.sc.names.lookup ("max" : Str) = some .globalImplicit) (hf : ("max" : Str) ∈ Γ.blts) : SndE Γ (.Call (.Name "max" fpos) (a :: es) [] pos) (dP pMax d) p :=
  snd_callB (r := fun K xs H Q => (∃ i j, xs = [.int i, .int j] ∧ Q (.int (if j > i then j else i)) H) ∨ rMax K xs H Q) (fun X c _ => (call_max2 c).or (cr_max c)) rl_max boot_max' h he hg hf (by decide)
theorem e_min (h : SndOs Γ (a :: es) d p) (he : (a :: es).all plainE = true) (hg : Γ.sc.names.lookup ("min" : Str) = some .globalImplicit) (hf : ("min" : Str) ∈ Γ.blts) : SndE Γ (.Call (.Name "min" fpos) (a :: es) [] pos) (dP pMin d) p :=
  snd_callB (r := fun K xs H Q => (∃ i j, xs = [.int i, .int j] ∧ Q (.int (if j < i then j else i)) H) ∨ rMin K xs H Q) (fun X c _ => (call_min2 c).or (cr_min c)) rl_min boot_min' h he hg hf (by decide)
theorem e_all (h : SndOs Γ (a :: es) d p) (he : (a :: es).all plainE = true) (hg : Γ.sc.names.lookup ("all" : Str) = some .globalImplicit) (hf : ("all" : Str) ∈ Γ.blts) : SndE Γ (.Call (.Name "all" fpos) (a :: es) [] pos) (dP pAll d) p :=
  snd_callB (r := rAll) (fun X c _ => cr_all c) rl_all boot_all' h he hg hf (by decide)
theorem e_any (h : SndOs Γ (a :: es) d p) (he : (a :: es).all plainE = true) (hg : Γ.sc.names.lookup ("any" : Str) = some .globalImplicit) (hf : ("any" : Str) ∈ Γ.blts) : SndE Γ (.Call (.Name "any" fpos) (a :: es) [] pos) (dP pAny d) p :=
  snd_callB (r := rAny) (fun X c _ => cr_any c) rl_any boot_any' h he hg hf (by decide)
theorem e_dvm (h : SndOs Γ (a :: es) d p) (he : (a :: es).all plainE = true) (hg : Γ.sc.names.lookup ("divmod" : Str) = some .globalImplicit) (hf : ("divmod" : Str) ∈ Γ.blts) : SndE Γ (.Call (.Name "divmod" fpos) (a :: es) [] pos) (dP pDvm d) p :=
  snd_callB (r := fun _ => rDvmF) (fun X _ _ => call_dvmF) rl_dvm boot_dvm' h he hg hf (by decide)
theorem e_listOf (h : SndOs Γ (a :: es) d p) (he : (a :: es).all plainE = true) (hg : Γ.sc.names.lookup ("list" : Str) = some .globalImplicit) (hf : ("list" : Str) ∈ Γ.blts) : SndE Γ (.Call (.Name "list" fpos) (a :: es) [] pos) (dP pListOf d) p :=
  snd_callTy (r := fun K xs H Q => ∃ p ys, xs = [.ref p] ∧ (SqL K H p ys ∨ SqT K H p ys) ∧ ∀ l, H l = none → Q (.ref l) (upd H l (.lst ys))) (fun X _ _ => call_list_of) rl_listOf boot_list' h he hg hf (by decide)
theorem e_tupOf (h : SndOs Γ (a :: es) d p) (he : (a :: es).all plainE = true) (hg : Γ.sc.names.lookup ("tuple" : Str) = some .globalImplicit) (hf : ("tuple" : Str) ∈ Γ.blts) : SndE Γ (.Call (.Name "tuple" fpos) (a :: es) [] pos) (dP pTupOf d) p :=
  snd_callTy (r := rTupF) (fun X _ _ => call_tupF) rl_tupOf boot_tuple' h he hg hf (by decide)
theorem e_int (h : SndOs Γ (a :: es) d p) (he : (a :: es).all plainE = true) (hg : Γ.sc.names.lookup ("int" : Str) = some .globalImplicit) (hf : ("int" : Str) ∈ Γ.blts) : SndE Γ (.Call (.Name "int" fpos) (a :: es) [] pos) (dP pInt d) p :=
  snd_callTy (r := fun _ xs H Q => (∃ i, xs = [.int i] ∧ Q (.int i) H) ∨ ∃ k, xs = [.bl k] ∧ Q (.int (if k then 1 else 0)) H) (fun X _ _ => call_int1) rl_int boot_int' h he hg hf (by decide)
theorem e_str (h : SndOs Γ (a :: es) d p) (he : (a :: es).all plainE = true) (hg : Γ.sc.names.lookup ("str" : Str) = some .globalImplicit) (hf : ("str" : Str) ∈ Γ.blts) : SndE Γ (.Call (.Name "str" fpos) (a :: es) [] pos) (dP pStrI d) p :=
  snd_callTy (r := fun _ xs H Q => ∃ i, xs = [.int i] ∧ i.natAbs.log2 < 1920 ∧ Q (.str (toString i)) H) (fun X _ _ => call_str_int) rl_strI boot_str' h he hg hf (by decide)
end
/-! ### sorted(xs) -/
open PySem.W in
def sortOk (ds : List PyData) : Bool := ds.all (fun d => SeqAt.shaped d && ds.all fun e => alike d e) && (ds.all (fun d => match d with
  | .tuple (_ :: _) => true
  | _ => false) || ds.all fun d => match d with
  | .none => false
  | .tuple _ => false
  | _ => true)
open PySem.W in
def sortD (ds : List PyData) : List PyData := ds.mergeSort (dataLe false id)
def pSorted : Prim
  | [.list ds] => if sortOk ds && decide (ds.length ≤ 1000000) then some (.own (sortD ds)) else none
  | _ => none
open PySem.W in
theorem sortOk_like {ds : List PyData} (h : sortOk ds = true) : AllAlike ds := by
  unfold sortOk at h
  simp only [Bool.and_eq_true, List.all_eq_true] at h
  exact fun d hd e he => (h.1 d hd).2 e he
theorem sortOk_shaped {ds : List PyData} (h : sortOk ds = true) : ∀ d ∈ ds, SeqAt.shaped d = true := by
  unfold sortOk at h
  simp only [Bool.and_eq_true, List.all_eq_true] at h
  exact fun d hd => (h.1 d hd).1
open PySem.W in
theorem sortOk_able {ds : List PyData} (h : sortOk ds = true) : Sortable ds := by
  unfold sortOk at h
  simp only [Bool.and_eq_true, Bool.or_eq_true, List.all_eq_true] at h
  rcases h.2 with h | h
  · refine .inl fun d hd => ?_
    have := h d hd
    cases d with
    | tuple xs =>
      cases xs with
      | nil => cases this
      | cons x r => exact ⟨x, r, rfl⟩
    | _ => cases this
  · refine .inr fun d hd => ?_
    have := h d hd
    cases d with
    | none => cases this
    | tuple xs => cases this
    | _ => exact ⟨(fun z => nomatch z), (fun xs z => nomatch z)⟩
/-- data with the values that stand for them -/
def rSortF (K : PySem.W.Frag) : List V → Hp → VK → Prop := fun vs H Q => ∃ (a : Addr) (zs : List (PyData × V)), vs = [.ref a] ∧ SqL K H a (zs.map (·.2)) ∧ (∀ z ∈ zs, Dp K H z.2 z.1) ∧ sortOk (zs.map (·.1)) = true ∧
  ∀ p, H p = none → Q (.ref p) (upd H p (.lst ((zs.mergeSort (PySem.W.dataLe false Prod.fst)).map (·.2))))
open PySem.W in
theorem each_of {X : Cx} {pins : List (Addr × Obj)} {σ : St} {H : Hp} {s : Shared} (I : Inv X pins σ H s) : ∀ {zs : List (PyData × V)} {us : List Value}, Vals (zs.map (·.2)) us → (∀ z ∈ zs, Dp X.K H z.2 z.1) →
    EachIs (fun u (z : PyData × V) => RelV z.2 u) us zs ∧ EachIs (fun u (z : PyData × V) => ∃ as, Reads s.heap u z.1 as) us zs
  | [], _, r, _ => by cases r; exact ⟨.nil, .nil⟩
  | z :: zs, _, r, h => by
    cases r with
    | cons r1 r2 =>
      obtain ⟨h1, h2⟩ := each_of I (zs := zs) r2 fun y hy => h y (List.mem_cons_of_mem _ hy)
      exact ⟨.cons r1 h1, .cons (Dp.reads I z.1 z.2 _ (h z List.mem_cons_self) r1) h2⟩
open PySem.W in
theorem vals_each : ∀ {us : List Value} {zs : List (PyData × V)}, EachIs (fun u (z : PyData × V) => RelV z.2 u) us zs → Vals (zs.map (·.2)) us
  | _, _, .nil => .nil
  | _, _, .cons h t => .cons h (vals_each t)
theorem call_sortF {X : Cx} (hu : X.A.units + 200 < cLine) : CallR X (.builtin "sorted") (rSortF X.K) := by
  intro pins s σ H vs us Q I r ⟨a, zs, e, hs, hd, ok, q⟩
  subst e
  rw [Vals.ref1 r]
  obtain ⟨its, rv, hl, hz⟩ := I.list hs
  obtain ⟨g1, g2⟩ := each_of I rv hd
  have zl : zs.length ≤ sizeLine := by rw [List.length_map] at hz; exact hz
  refine PySem.W.sorted_data (enc := Prod.fst) hl.isList g1 g2 (sortOk_like ok) (sortOk_able ok) zl (fun z hz => ?_) fun out ho eo => ?_
  · have := sortOk_shaped ok z.1 (List.mem_map.mpr ⟨z, hz, rfl⟩)
    unfold SeqAt.shaped at this
    simp only [Bool.and_eq_true, decide_eq_true_eq] at this
    omega
  · obtain ⟨c, hc⟩ := PyProof.Rows.sortedAll_at s.heap its out.toArray
    refine ⟨.ref _, _, I.laid (t' := s.toks) (o := .lst ((zs.mergeSort (PySem.W.dataLe false Prod.fst)).map (·.2))) (fun _ _ => PyProof.Rows.sortedAll_old) (Nat.le_succ _) ⟨?_, out, c, vals_each eo, hc⟩, rfl, q _ (I.hok.fresh (Nat.le_succ _))⟩
    rw [List.length_map, List.length_mergeSort]
    exact zl
theorem zip_fst {K : PySem.W.Frag} {F : Hp} : ∀ {ds : List PyData} {vs : List V}, RpAll K F ds vs → (ds.zip vs).map (·.1) = ds ∧ (ds.zip vs).map (·.2) = vs ∧ ∀ z ∈ ds.zip vs, Rp K F z.1 z.2
  | [], _, r => by cases r; exact ⟨rfl, rfl, fun z h => nomatch h⟩
  | d :: ds, _, r => by
    cases r with
    | cons r1 r2 =>
      obtain ⟨h1, h2, h3⟩ := zip_fst r2
      refine ⟨by rw [List.zip_cons_cons, List.map_cons, h1], by rw [List.zip_cons_cons, List.map_cons, h2], fun z hz => ?_⟩
      rw [List.zip_cons_cons] at hz
      rcases List.mem_cons.mp hz with e | hz
      · subst e; exact r1
      · exact h3 z hz
theorem rpAll_of {K : PySem.W.Frag} {F : Hp} : ∀ {zs : List (PyData × V)}, (∀ z ∈ zs, Rp K F z.1 z.2) → RpAll K F (zs.map (·.1)) (zs.map (·.2))
  | [], _ => .nil
  | z :: zs, h => .cons (h z List.mem_cons_self) (rpAll_of fun y hy => h y (List.mem_cons_of_mem _ hy))
theorem rl_sorted (K : PySem.W.Frag) : Rule K (rSortF K) pSorted := by
  intro F H ds vs Q s e hb hs q
  unfold pSorted at hs
  split at hs
  · rename_i ys
    split at hs
    · rename_i hl
      cases hs
      rw [Bool.and_eq_true] at hl
      obtain ⟨v, rfl, h1⟩ := hb.one
      obtain ⟨a, xs, rfl, k1, k2⟩ := h1.lst e
      obtain ⟨g1, g2, g3⟩ := zip_fst k2
      refine ⟨a, ys.zip xs, rfl, .inl (.inl (by rw [g2]; exact k1)), fun z hz => dp_of _ _ ((g3 z hz).mono e) (shaped_lay (sortOk_shaped hl.1 z.1 (by rw [← g1]; exact List.mem_map.mpr ⟨z, hz, rfl⟩))), by rw [g1]; exact hl.1, fun p hp => ?_⟩
      have m : ((ys.zip xs).mergeSort (PySem.W.dataLe false Prod.fst)).map (·.1) = sortD ys := by
        have g := List.map_mergeSort (r := PySem.W.dataLe false (Prod.fst (α := PyData) (β := V))) (s := PySem.W.dataLe false id) (f := Prod.fst) (l := ys.zip xs) (fun a _ b _ => rfl)
        exact g.trans (congrArg sortD g1)
      refine q p _ hp ?_
      rw [← m]
      exact rpAll_of fun z hz => g3 z (List.mem_mergeSort.mp hz)
    · cases hs
  · cases hs
theorem boot_sorted' : bootBuiltins "sorted" = some (.builtin "sorted") := by decide +kernel
section
variable {Γ : Ctx} {d : DenOs} {p : Bool} {pos fpos : Pos} {a : Expr} {es : List Expr}
end
end Dn

/-! Den11: changes of own lists, more sources, index, list(range), a, b = x, y. -/
namespace Dn
open PySem PySem.Spec L2
open PyProof.Rows hiding St

/-! ### changes of own lists -/
def mAppend : MutF := fun ds as => match as with
  | [d] => if ds.length < 1000000 then some (.none, ds ++ [d]) else none
  | _ => none
theorem rm_append (K : PySem.W.Frag) : RuleM K rAppend mAppend := by
  intro F H a ds as vs avs res ds' Q e hF hH r ra h q
  unfold mAppend at h
  split at h
  · split at h
    · rename_i d hl
      cases h
      cases ra with
      | cons r1 r2 =>
        cases r2
        exact ⟨a, vs, _, rfl, rfl, hH, lt_line (by rw [← r.length]; omega), q _ _ .non (r.app (.cons r1 .nil))⟩
    · cases h
  · cases h
def mExtend : MutF := fun ds as => match as with
  | [.list es] => if ds.length + es.length ≤ 1000000 then some (.none, ds ++ es) else none
  | _ => none
theorem rm_extend (K : PySem.W.Frag) : RuleM K rExtend mExtend := by
  intro F H a ds as vs avs res ds' Q e hF hH r ra h q
  unfold mExtend at h
  split at h
  · split at h
    · rename_i es hl
      cases h
      cases ra with
      | cons r1 r2 =>
        cases r2
        cases r1 with
        | lst h1 h2 => exact ⟨a, _, vs, _, rfl, rfl, hH, e _ _ h1, le_line (by rw [← r.length, ← h2.length]; exact hl), q _ _ .non (r.app h2)⟩
    · cases h
  · cases h
def mPop : MutF := fun ds as => match as with
  | [] => (ds[ds.length - 1]?).map fun d => (d, ds.dropLast)
  | _ => none
def mPopAt : MutF := fun ds as => match as with
  | [.int i] => if decide (-(2 ^ 62) ≤ i) && decide (i < 2 ^ 62) then (seqIndex? i ds.length).bind fun k => (ds[k]?).map fun d => (d, ds.eraseIdx k) else none
  | _ => none
theorem rm_popAt (K : PySem.W.Frag) : RuleM K rPopAt mPopAt := by
  intro F H a ds as vs avs res ds' Q e hF hH r ra h q
  unfold mPopAt at h
  split at h
  · split at h
    · rename_i i hl
      simp only [Bool.and_eq_true, decide_eq_true_eq] at hl
      obtain ⟨k, hk, h⟩ := Option.bind_eq_some_iff.mp h
      obtain ⟨d, hd, e1⟩ := Option.map_eq_some_iff.mp h
      cases e1
      cases ra with
      | cons r1 r2 =>
        cases r2
        cases r1
        obtain ⟨v, hv, rv⟩ := RpAll.at' r hd
        exact ⟨a, vs, i, k, v, rfl, rfl, hH, by omega, by omega, by rw [← r.length]; exact hk, hv, q _ _ rv (r.erase k)⟩
    · cases h
  · cases h
def mReverse : MutF := fun ds as => match as with
  | [] => some (.none, ds.reverse)
  | _ => none
section
variable {Γ : Ctx} {as : DenOs} {p : Bool} {pos xpos apos : Pos} {e : Expr} {x : Str} {i : Nat}
theorem u_append (hN : Γ.N[i]? = some x) (hv : visB Γ.sc x = true) (hx : okName x = true) (h : SndFs Γ [e] as p) (he : [e].all plainE = true) (hline : (apos.endLine == pos.line) = true) : SndE Γ (.Call (.Attribute (.Name x xpos) "append" apos) [e] [] pos) (dMut i mAppend as) false :=
  snd_mut PySem.F.slot_list_append PySem.F.type_list_append (fun X _ => mt_append) rm_append hN hv hx h he (show 1 < 20 by decide) hline
theorem u_extend (hN : Γ.N[i]? = some x) (hv : visB Γ.sc x = true) (hx : okName x = true) (h : SndFs Γ [e] as p) (he : [e].all plainE = true) (hline : (apos.endLine == pos.line) = true) : SndE Γ (.Call (.Attribute (.Name x xpos) "extend" apos) [e] [] pos) (dMut i mExtend as) false :=
  snd_mut PySem.F.slot_list_extend PySem.F.type_list_extend (fun X _ => mt_extend) rm_extend hN hv hx h he (show 1 < 20 by decide) hline
theorem u_popAt (hN : Γ.N[i]? = some x) (hv : visB Γ.sc x = true) (hx : okName x = true) (h : SndFs Γ [e] as p) (he : [e].all plainE = true) (hline : (apos.endLine == pos.line) = true) : SndE Γ (.Call (.Attribute (.Name x xpos) "pop" apos) [e] [] pos) (dMut i mPopAt as) false :=
  snd_mut PySem.F.slot_list_pop PySem.F.type_list_pop (fun X _ => mt_popAt) rm_popAt hN hv hx h he (show 1 < 20 by decide) hline
end

/-! ### a, b = x, y -/
def dPar (i j : Nat) (a : DenOs) : DenS := fun Φ ρ => (a Φ ρ).bind fun r => match r.1 with
  | [x, y] => .ok (.nx, (r.2.set i (.val x)).set j (.val y))
  | _ => .stuck
theorem snd_par {Γ : Ctx} {i j : Nat} {x y : Str} {a b : Expr} {d : DenOs} {p : Bool} {pos px py pt pt2 : Pos} {kt k2 : Nat} (hN : Γ.N[i]? = some x) (hN' : Γ.N[j]? = some y) (hij : i ≠ j) (hx : Γ.sc.names.lookup x = some .local) (hy : Γ.sc.names.lookup y = some .local)
    (hi : Γ.np ≤ i) (hj : Γ.np ≤ j) (h : SndFs Γ [a, b] d p) (he : [a, b].all plainE = true) (hxy : (y == x) = false) (hl : (px.line == py.line) = true) (hf : [a, b].all (foldedForSure 8) = false) (hc : [a, b].all (constantsAlone 8) = false) :
    SndS Γ (.Assign [.Tuple [.Name x px, .Name y py] kt pt] (.Tuple [a, b] k2 pt2) pos) (dPar i j d) := by
  intro X Φ B F H ρ σ D W C BO bo hK T R hq
  have hx' : X.env.scope.names.lookup x = some .local := by rw [C.sc]; exact hx
  have hy' : X.env.scope.names.lookup y = some .local := by rw [C.sc]; exact hy
  have e1 : ∀ {e : Expr}, plainE e = true → (match e with | .Starred .. => true | _ => false) = false := fun {e} h => by cases e <;> first | rfl | cases h
  rw [List.all_cons, List.all_cons, List.all_nil, Bool.and_true, Bool.and_eq_true] at he
  have hw : swappedStores [.Tuple [.Name x px, .Name y py] kt pt] (.Tuple [a, b] k2 pt2) X.env = pure (some [x, y]) := by
    have hb : X.env.blockKind = .function := by unfold Env.blockKind; rw [BO.fk]; rfl
    have kx : X.env.kindOf x = some .local := hx'
    have ky : X.env.kindOf y = some .local := hy'
    have hl' : px.line = py.line := by simpa using hl
    have hxy' : ¬ y = x := by simpa using hxy
    unfold swappedStores
    simp only [hb, kx, ky, e1 he.1, e1 he.2, hf, hc, List.any_cons, List.any_nil, List.filterMap_cons, List.filterMap_nil, List.head?_cons, Option.map_some, Option.getD_some, List.length_cons, List.length_nil, Expr.pos, hl', hxy', List.eraseDups_cons, List.filter_cons, List.filter_nil, List.eraseDups_nil, hxy]
    simp [hl', hxy', hxy, List.eraseDups_cons]
    intro h
    rcases h with h | h
    · exact absurd (h.symm.trans (e1 he.1)) (by decide)
    · exact absurd (h.symm.trans (e1 he.2)) (by decide)
  refine PS.w (ps_par C.calm (by rw [C.nm]; exact C.nd) (by rw [C.nm]; exact hN) (by rw [C.nm]; exact hN') hij hx' hy' (pa_ws (by rw [List.all_cons, List.all_cons, List.all_nil, Bool.and_true, Bool.and_eq_true]; exact he)) hw) ?_
  refine h X Φ B F H ρ σ _ W C hK T R (wp_mono (wp_bind (c := d Φ ρ) hq) (fun r q vs F1 H1 R1 e1 _ hv => ?_) ExS.ex)
  obtain ⟨ds, ρ1⟩ := r
  cases hv with
  | nil => exact q.elim
  | cons h1 h2 =>
    cases h2 with
    | nil => exact q.elim
    | cons h2 h3 =>
      cases h3 with
      | cons _ _ => exact q.elim
      | nil => exact ⟨_, _, rfl, q _ F1 H1 ((R1.put (s := .val _) h1 i (Nat.le_trans bo.vs hi)).put (s := .val _) h2 j (Nat.le_trans bo.vs hj)) e1⟩

/-! ### list(range(..)) -/
def dListR (s : DenI) : Den := fun Φ ρ => (s Φ ρ).bind fun r => guard' (decide (r.1.length ≤ 1000000)) (.ok (.own r.1, r.2))
section
variable {Γ : Ctx} {a b : Expr} {d d' : DenO} {p p' m m' : Bool} {fpos rpos pos lpos : Pos}
theorem rg_rp {K : PySem.W.Frag} {F : Hp} (lo hi : Int) : RpAll K F (rngD lo (hi - lo).toNat) (rgV lo hi) := by
  unfold rngD rgV
  generalize (hi - lo).toNat = n
  induction (List.range n) with
  | nil => exact .nil
  | cons x xs ih => exact .cons (.int _) ih
theorem rngD_length (lo : Int) (n : Nat) : (rngD lo n).length = n := by simp [rngD]
theorem snd_listR1 (h : SndO Γ a d p m) (he : plainE a = true) (hg : Γ.sc.names.lookup ("range" : Str) = some .globalImplicit) (hf : ("range" : Str) ∈ Γ.blts) (hg2 : Γ.sc.names.lookup ("list" : Str) = some .globalImplicit) (hf2 : ("list" : Str) ∈ Γ.blts) :
    SndE Γ (.Call (.Name "list" fpos) [.Call (.Name "range" rpos) [a] [] pos] [] lpos) (dListR (iR1 d)) p := by
  intro X Φ B F H ρ σ Q W C hK T R hq
  refine PE.w (pe_listRg C.calm (gl_of C hg2) (C.blt _ hf2) (prg_1 (gl_of C hg) (C.blt _ hf) pe_w (star_of he))) ?_
  refine h X Φ B F H ρ σ _ W C hK T R (wp_mono (wp_bind (c := d Φ ρ) (wp_bind (c := iR1 d Φ ρ) hq)) (fun y q v F1 H1 R1 e1 e2 hv => ?_) fun _ q => q)
  obtain ⟨y, ρ1⟩ := y
  cases y with
  | int n =>
    obtain ⟨g, q⟩ := wp_guard q
    have := small_of g
    have hv := hv.bp.int
    subst hv
    obtain ⟨g2, q⟩ := wp_guard q
    rw [rngD_length] at g2
    have g2 := of_decide_eq_true g2
    refine ⟨n, rfl, ⟨by omega, by omega, this.1, this.2, ?_⟩, fun l hl => pq_of R1 e1 e2 q l _ hl ?_⟩
    · rw [Int.sub_zero]; omega
    · have := rg_rp (K := B.K) (F := F1) 0 n
      rw [Int.sub_zero] at this
      exact this
  | _ => exact q.elim
end

/-! ### x.index(y) -/
def firstAt (y : PyData) : List PyData → Nat → Option Nat
  | [], _ => none
  | d :: ds, n => if PyData.eqv d y then some n else firstAt y ds (n + 1)
def pLIndex : Prim
  | [.list ds, y] => if SeqAt.shaped (.list ds) && SeqAt.shaped y then (firstAt y ds 0).map fun k : Nat => Slot.val (.int (k : Int)) else none
  | _ => none
def rTIndexD (K : PySem.W.Frag) : V → List V → Hp → VK → Prop := fun x xs H Q => ∃ (a : Addr) (y : V) (d : PyData) (ds : List PyData) (j : Nat) (z : PyData), x = V.ref a ∧ xs = [y] ∧ Dp K H (V.ref a) (.tuple ds) ∧ Dp K H y d ∧
  SeqAt.shaped (.tuple ds) = true ∧ SeqAt.shaped d = true ∧ ds[j]? = some z ∧ PyData.eqv z d = true ∧ (∀ (m : Nat) (z' : PyData), m < j → ds[m]? = some z' → PyData.eqv z' d = false) ∧ Q (.int (j : Nat)) H
def pTIndex : Prim
  | [.tuple ds, y] => if SeqAt.shaped (.tuple ds) && SeqAt.shaped y then (firstAt y ds 0).map fun k : Nat => Slot.val (.int (k : Int)) else none
  | _ => none
section
variable {Γ : Ctx} {x : DenO} {d : DenOs} {p p' pm : Bool} {pos apos : Pos} {o a : Expr} {es : List Expr}
end

/-! ### enumerate, zip -/
def pairUp : List PyData → List PyData → List PyData
  | x :: xs, y :: ys => .tuple [x, y] :: pairUp xs ys
  | _, _ => []
theorem pairUp_get : ∀ {xs ys : List PyData} {i : Nat} {d : PyData}, (pairUp xs ys)[i]? = some d → ∃ x y, xs[i]? = some x ∧ ys[i]? = some y ∧ d = .tuple [x, y]
  | [], _, _, _, h => by simp [pairUp] at h
  | _ :: _, [], _, _, h => by simp [pairUp] at h
  | x :: xs, y :: ys, 0, d, h => by simp [pairUp] at h; exact ⟨x, y, rfl, rfl, h.symm⟩
  | x :: xs, y :: ys, i + 1, d, h => by
    obtain ⟨a, b, h1, h2, h3⟩ := pairUp_get (i := i) (by simpa [pairUp] using h)
    exact ⟨a, b, by simpa using h1, by simpa using h2, h3⟩
theorem pairUp_len : ∀ (xs ys : List PyData), (pairUp xs ys).length = min xs.length ys.length
  | [], _ => by simp [pairUp]
  | _ :: _, [] => by simp [pairUp]
  | x :: xs, y :: ys => by simp [pairUp, pairUp_len xs ys]
theorem new_pair {K : PySem.W.Frag} {F2 H : Hp} {T : Addr} {x y : V} {d e : PyData} (e3 : Ex F2 H) (hn : H T = none) (h1 : Rp K F2 d x) (h2 : Rp K F2 e y) : (∀ a, H a ≠ none → upd H T (.tup [x, y]) a ≠ none) ∧ Grow F2 H F2 (upd H T (.tup [x, y])) ∧ Taken true K F2 (upd H T (.tup [x, y])) (.tuple [d, e]) (.ref T) := by
  refine ⟨fun a h => ?_, ⟨.refl _, .new hn, e3.trans (.new hn), fun _ _ h => h⟩, fun ds z => ?_⟩
  · by_cases q : a = T
    · subst q; rw [upd_same]; exact fun z => nomatch z
    · rw [upd_ne q]; exact h
  · cases z
    exact ⟨T, [x, y], rfl, .inl (.inl upd_same), .cons h1 (.cons h2 .nil)⟩
theorem sqL_inj {K : PySem.W.Frag} {H : Hp} {l : Addr} {vs : List V} (h : H l = some (.lst vs)) : SqL K H l vs := .inl (.inl h)
theorem src_enum {K : PySem.W.Frag} {F : Hp} {l : Addr} {vs : List V} {ds : List PyData} (h : F l = some (.lst vs)) (r : RpAll K F ds vs) : Src true K F (Ite K l) (pairUp (rngD 0 ds.length) ds) := by
  refine ⟨fun i H d e q => ?_, fun i H e q => ?_⟩
  · obtain ⟨x, y, g1, g2, rfl⟩ := pairUp_get q
    obtain ⟨v, h1, h2⟩ := RpAll.at' r g2
    have hx : x = .int (i : Nat) := by
      have hi : i < ds.length := (List.getElem?_eq_some_iff.mp g2).1
      unfold rngD at g1
      rw [List.getElem?_map, List.getElem?_range hi] at g1
      have := (Option.some.inj g1).symm
      rw [this]
      show PyData.int (0 + ((i : Nat) : Int)) = _
      rw [Int.zero_add]
    subst hx
    refine ⟨⟨vs, v, sqL_inj (e _ _ h), h1⟩, fun w H' ⟨T, u, e1, hn, e2, hu⟩ F2 e3 e4 => ?_⟩
    subst e1
    subst e2
    have := hu vs (sqL_inj (e _ _ h))
    rw [h1] at this
    cases this
    exact new_pair e4 hn (.int _) (h2.mono e3)
  · refine ⟨vs, sqL_inj (e _ _ h), ?_⟩
    rw [pairUp_len, rngD_length, Nat.min_self] at q
    rw [← r.length]; exact q
def iEnumD (d : Den) : DenI := fun Φ ρ => (oOf d Φ ρ).bind fun r => match r.1 with
  | .list ds => .ok (pairUp (rngD 0 ds.length) ds, r.2)
  | _ => .stuck
def iZipD (a : DenOs) : DenI := fun Φ ρ => (a Φ ρ).bind fun r => match r.1 with
  | [.list ds, .list es] => .ok (pairUp ds es, r.2)
  | [.tuple ds, .tuple es] => .ok (pairUp ds es, r.2)
  | _ => .stuck
section
variable {Γ : Ctx} {tg e e2 : Expr} {d : Den} {a : DenOs} {p tp : Bool} {fpos pos tpos : Pos} {elts : List Expr} {kk : Nat}
theorem snd_iEnum (h : SndE Γ e d p) (he : plainE e = true) (hg : Γ.sc.names.lookup ("enumerate" : Str) = some .globalImplicit) (hf : ("enumerate" : Str) ∈ Γ.blts) : SndI Γ (.Tuple elts kk tpos) (.Call (.Name "enumerate" fpos) [e] [] pos) (iEnumD d) p true := by
  intro X Φ B F H ρ σ R W C hK T Rl hq
  refine PI.w (pi_enum (gl_of C hg) (C.blt _ hf) (pa_ws (by rw [List.all_cons, List.all_nil, Bool.and_true]; exact he)) (star_of he)) ?_
  refine snd_oOf h X Φ B F H ρ σ _ W C hK T Rl (wp_mono (wp_bind (c := oOf d Φ ρ) hq) (fun y q v F1 H1 R1 e1 e2 hv => ?_) fun _ q => q)
  obtain ⟨y, ρ1⟩ := y
  have hv : Rp B.K F1 y v := hv
  cases y with
  | list ds =>
    cases hv with
    | lst h1 h2 => exact ⟨_, _, rfl, sqL_inj (R1.kept.ex _ _ h1), q _ F1 H1 R1 e1 e2 (hK ▸ src_enum h1 h2)⟩
  | _ => exact q.elim
end
end Dn

/-! Den13: sorted(set(xs)) of pairs as one operation. -/
namespace Dn
open PySem PySem.Spec L2
open PyProof.Rows hiding St

section
variable {X : Cx}
/-- set(xs), the pairs known -/
def rSetF (K : PySem.W.Frag) (P : Program) (w : World) : List V → Hp → VK → Prop := fun xs H Q => ∃ (l : Addr) (ks : List (Addr × List Int)), xs = [V.ref l] ∧ (SqL K H l (ks.map fun p => V.ref p.1) ∨ SqT K H l (ks.map fun p => V.ref p.1)) ∧ (∀ p ∈ ks, SqT K H p.1 (p.2.map V.int)) ∧
  (∀ L : List (Addr × List Int), (L.map (·.2)).Nodup → (∀ p ∈ L, p ∈ ks) → L.length ≤ 64) ∧
  ∀ a L, H a = none → (∀ p ∈ L, p ∈ ks) → (∀ p ∈ ks, p.2 ∈ L.map (·.2)) → Q (.ref a) (upd H a (SetTW P w a L))
theorem call_setF (hc : X.calm = true) (hu : X.A.units + 64 < cLine) : CallR X (.type "set") (rSetF X.K X.prog X.w) := by
  intro pins s σ H xs us Q I r ⟨l, ks, e, hl, hk, few, q⟩
  subst e
  rw [Vals.ref1 r]
  have hn : H s.heap.objs.size = none := I.hok.fresh (Nat.le_refl _)
  have fin : ∀ (g : Heap) (tk : Nat) L es ep t, SetW X.prog X.w g s.heap.objs.size L es ep t → Got ks ks.length L → (∀ b o, s.heap.get? b = some o → g.get? b = some o) → EP X pins σ Q (.ref s.heap.objs.size) { s with heap := g, toks := tk } := fun g tk L es ep t R got k =>
    ⟨.ref s.heap.objs.size, upd H s.heap.objs.size (SetTW X.prog X.w s.heap.objs.size L), I.laid (t' := tk) k (Nat.le_refl _) (setTW_new (R.w0 (few L R.2.1 fun p hp => List.mem_of_mem_take (got.sub p hp)))), rfl, q _ L hn (fun p hp => List.mem_of_mem_take (got.sub p hp)) fun p hp => got.all p (by rw [List.take_length]; exact hp)⟩
  rcases hl with hl | hl
  · obtain ⟨its, rv, pl, hz⟩ := I.list hl
    exact set_of_list (P := X.prog) (w := X.w) ks (I.ok.hd hc) pl.isList (by simpa using refs_of_vals rv) (fun p hp => I.isT (hk p hp)) few (by omega) fin
  · obtain ⟨its, rv, pl, hz⟩ := I.tuple hl
    exact set_of_tuple (P := X.prog) (w := X.w) ks (I.ok.hd hc) pl (by simpa using refs_of_vals rv) (fun p hp => I.isT (hk p hp)) few (by omega) fin
end
/-! ### pairs -/
def pairsOf : List PyData → Option (List (Int × Int))
  | [] => some []
  | .tuple [.int i, .int j] :: ds => (pairsOf ds).map ((i, j) :: ·)
  | _ :: _ => none
def prD (p : Int × Int) : PyData := .tuple [.int p.1, .int p.2]
def lexP (p q : Int × Int) : Bool := decide (p.1 < q.1 ∨ (p.1 = q.1 ∧ p.2 ≤ q.2))
def dedP : List (Int × Int) → List (Int × Int)
  | [] => []
  | p :: ps => if p ∈ ps then dedP ps else p :: dedP ps
def setSort (ps : List (Int × Int)) : List (Int × Int) := (dedP ps).mergeSort lexP
def smallP (ps : List (Int × Int)) : Bool := ps.all fun p => decide (0 ≤ p.1) && decide (p.1 < 64) && decide (0 ≤ p.2) && decide (p.2 < 64)
def coreSS (ds : List PyData) : Option (List PyData) := (pairsOf ds).bind fun ps => if smallP ps && decide ((dedP ps).length ≤ 64) then some ((setSort ps).map prD) else none
def pSortSet : PyData → Option (List PyData)
  | .list ds => coreSS ds
  | .tuple ds => coreSS ds
  | _ => none
def dSS (d : DenO) : Den := fun Φ ρ => (d Φ ρ).bind fun r => (opt (pSortSet r.1)).bind fun ds => .ok (.own ds, r.2)
theorem dedP_mem {p : Int × Int} : ∀ ps, p ∈ dedP ps ↔ p ∈ ps
  | [] => Iff.rfl
  | q :: ps => by
    unfold dedP
    split
    · rename_i h
      rw [dedP_mem ps, List.mem_cons]
      exact ⟨.inr, fun z => z.elim (fun e => e ▸ h) id⟩
    · rw [List.mem_cons, List.mem_cons, dedP_mem ps]
theorem dedP_nodup : ∀ ps, (dedP ps).Nodup
  | [] => List.nodup_nil
  | q :: ps => by
    unfold dedP
    split
    · exact dedP_nodup ps
    · rename_i h
      exact List.nodup_cons.mpr ⟨fun z => h ((dedP_mem ps).mp z), dedP_nodup ps⟩
theorem lexP_trans (a b c : Int × Int) (h : lexP a b = true) (h' : lexP b c = true) : lexP a c = true := by
  unfold lexP at *
  simp only [decide_eq_true_eq] at *
  omega
theorem lexP_total (a b : Int × Int) : (lexP a b || lexP b a) = true := by
  unfold lexP
  simp only [Bool.or_eq_true, decide_eq_true_eq]
  omega
theorem lexP_anti {a b : Int × Int} (h : lexP a b = true) (h' : lexP b a = true) : a = b := by
  unfold lexP at *
  simp only [decide_eq_true_eq] at *
  exact Prod.ext (by omega) (by omega)
theorem setSort_mem {p : Int × Int} {ps : List (Int × Int)} : p ∈ setSort ps ↔ p ∈ ps := by
  unfold setSort
  rw [List.mem_mergeSort, dedP_mem]
theorem setSort_sorted (ps : List (Int × Int)) : (setSort ps).Pairwise fun a b => lexP a b = true := List.pairwise_mergeSort lexP_trans lexP_total _
theorem setSort_nodup (ps : List (Int × Int)) : (setSort ps).Nodup := ((List.mergeSort_perm _ _).nodup_iff).mpr (dedP_nodup ps)
/-- what is sorted so, without doubles, and holds the same -/
theorem setSort_eq {ps qs : List (Int × Int)} (h : ∀ p, p ∈ qs ↔ p ∈ ps) (nd : qs.Nodup) (st : qs.Pairwise fun a b => lexP a b = true) : qs = setSort ps :=
  List.Perm.eq_of_pairwise (fun a b _ _ => lexP_anti) st (setSort_sorted ps) ((List.perm_ext_iff_of_nodup nd (setSort_nodup ps)).mpr fun p => by rw [h, setSort_mem])
def keyP (p : Int × Int) : List Int := [p.1, p.2]
/-- the pairs with their tuples -/
theorem pairs_rp {K : PySem.W.Frag} {F : Hp} : ∀ {ds : List PyData} {vs : List V} {ps : List (Int × Int)}, RpAll K F ds vs → pairsOf ds = some ps →
    ∃ ks : List (Addr × List Int), vs = ks.map (fun k => V.ref k.1) ∧ ks.map (·.2) = ps.map keyP ∧ ∀ k ∈ ks, ∃ o, F k.1 = some (.frz o (.tup (k.2.map V.int))) ∧ o.dict = none
  | [], _, _, r, h => by cases r; cases h; exact ⟨[], rfl, rfl, fun k z => nomatch z⟩
  | d :: ds, _, ps, r, h => by
    cases r with
    | cons r1 r2 =>
      unfold pairsOf at h
      split at h
      · rename_i z; cases z
      · rename_i i j ds' z
        cases z
        obtain ⟨qs, h1, rfl⟩ := Option.map_eq_some_iff.mp h
        obtain ⟨ks, g1, g2, g3⟩ := pairs_rp r2 h1
        cases r1 with
        | tup k1 k0 k2 =>
          cases k2 with
          | cons m1 m2 =>
            cases m2 with
            | cons m2 m3 =>
              cases m3
              cases m1
              cases m2
              refine ⟨(_, [i, j]) :: ks, by rw [g1]; rfl, by rw [List.map_cons, List.map_cons, g2]; rfl, fun k hk => ?_⟩
              rcases List.mem_cons.mp hk with e | hk
              · subst e; exact ⟨_, k1, k0⟩
              · exact g3 k hk
      · cases h
theorem nodup_len {α : Type} [DecidableEq α] : ∀ (xs ys : List α), xs.Nodup → (∀ x ∈ xs, x ∈ ys) → xs.length ≤ ys.length
  | [], _, _, _ => Nat.zero_le _
  | x :: xs, ys, nd, h => by
    obtain ⟨h1, h2⟩ := List.nodup_cons.mp nd
    have hx := h x List.mem_cons_self
    have := nodup_len xs (ys.erase x) h2 fun y hy => (List.mem_erase_of_ne (fun e : y = x => h1 (by rw [← e]; exact hy))).mpr (h y (List.mem_cons_of_mem _ hy))
    rw [List.length_erase_of_mem hx] at this
    have := List.length_pos_of_mem hx
    rw [List.length_cons]
    omega
theorem len_of_keys {L : List (Addr × List Int)} {qs : List (Int × Int)} (nd : (L.map (·.2)).Nodup) (sub : ∀ k ∈ L, ∃ q ∈ qs, k.2 = keyP q) (hl : (dedP qs).length ≤ 64) : L.length ≤ 64 := by
  have h : (L.map (·.2)).length ≤ ((dedP qs).map keyP).length := by
    refine nodup_len _ _ nd fun x hx => ?_
    obtain ⟨k, hk, rfl⟩ := List.mem_map.mp hx
    obtain ⟨q, hq, e⟩ := sub k hk
    rw [e]
    exact List.mem_map.mpr ⟨q, (dedP_mem qs).mpr hq, rfl⟩
  rw [List.length_map, List.length_map] at h
  omega
theorem keyP_inj {p q : Int × Int} (h : keyP p = keyP q) : p = q := by
  unfold keyP at h
  injection h with h1 h2
  injection h2 with h2 _
  exact Prod.ext h1 h2
theorem back_keys {L : List (Addr × List Int)} {qs : List (Int × Int)} (sub : ∀ k ∈ L, ∃ q ∈ qs, k.2 = keyP q) : ∃ rs : List (Int × Int), L.map (·.2) = rs.map keyP ∧ ∀ r ∈ rs, r ∈ qs := by
  induction L with
  | nil => exact ⟨[], rfl, fun r h => nomatch h⟩
  | cons k L ih =>
    obtain ⟨rs, h1, h2⟩ := ih fun y hy => sub y (List.mem_cons_of_mem _ hy)
    obtain ⟨q, hq, e⟩ := sub k List.mem_cons_self
    refine ⟨q :: rs, by rw [List.map_cons, List.map_cons, h1, e], fun r hr => ?_⟩
    rcases List.mem_cons.mp hr with z | z
    · rw [z]; exact hq
    · exact h2 r z
theorem boot_set' : bootBuiltins "set" = some (.type "set") := by decide +kernel
theorem rp_keys {K : PySem.W.Frag} {F : Hp} : ∀ {L : List (Addr × List Int)} {rs : List (Int × Int)}, L.map (·.2) = rs.map keyP → (∀ k ∈ L, ∃ o, F k.1 = some (.frz o (.tup (k.2.map V.int))) ∧ o.dict = none) → RpAll K F (rs.map prD) (L.map fun k => V.ref k.1)
  | [], [], _, _ => .nil
  | [], _ :: _, h, _ => by cases h
  | _ :: _, [], h, _ => by cases h
  | k :: L, r :: rs, h, f => by
    rw [List.map_cons, List.map_cons] at h
    injection h with h1 h2
    obtain ⟨o, g1, g2⟩ := f k List.mem_cons_self
    rw [h1] at g1
    exact .cons (.tup g1 g2 (.cons (.int _) (.cons (.int _) .nil))) (rp_keys h2 fun y hy => f y (List.mem_cons_of_mem _ hy))
theorem pSortSet_inv {y : PyData} {ds : List PyData} (h : pSortSet y = some ds) : ∃ ys ps, (y = .list ys ∨ y = .tuple ys) ∧ pairsOf ys = some ps ∧ smallP ps = true ∧ (dedP ps).length ≤ 64 ∧ ds = (setSort ps).map prD := by
  have core : ∀ ys, coreSS ys = some ds → ∃ ps, pairsOf ys = some ps ∧ smallP ps = true ∧ (dedP ps).length ≤ 64 ∧ ds = (setSort ps).map prD := fun ys h => by
    unfold coreSS at h
    obtain ⟨ps, h1, h2⟩ := Option.bind_eq_some_iff.mp h
    split at h2
    · rename_i c
      rw [Bool.and_eq_true, decide_eq_true_eq] at c
      cases h2
      exact ⟨ps, h1, c.1, c.2, rfl⟩
    · cases h2
  unfold pSortSet at h
  split at h
  · obtain ⟨ps, g⟩ := core _ h; exact ⟨_, ps, .inl rfl, g⟩
  · obtain ⟨ps, g⟩ := core _ h; exact ⟨_, ps, .inr rfl, g⟩
  · cases h
theorem snd_sortSet {Γ : Ctx} {e : Expr} {d : DenO} {p m : Bool} {fpos spos pos pos2 : Pos} (h : SndO Γ e d p m) (he : plainE e = true) (hg : Γ.sc.names.lookup ("sorted" : Str) = some .globalImplicit) (hf : ("sorted" : Str) ∈ Γ.blts) (hg2 : Γ.sc.names.lookup ("set" : Str) = some .globalImplicit) (hf2 : ("set" : Str) ∈ Γ.blts) :
    SndE Γ (.Call (.Name "sorted" fpos) [.Call (.Name "set" spos) [e] [] pos2] [] pos) (dSS d) p := by
  intro X Φ B F H ρ σ Q W C hK T R hq
  have hu := C.room.un
  have I1 : PE X (.Call (.Name "set" spos) [e] [] pos2) (tCB (rSetF X.K X.prog X.w) (wEs X [e])) :=
    pe_callTy (call_setF C.calm (by omega)) (gl_of C hg2) (C.blt _ hf2) boot_set' (pa_ws (by rw [List.all_cons, List.all_nil, Bool.and_true]; exact he)) (by decide) (by decide) (star_of he)
  refine PE.w (pe_callB (call_sortedW C.calm (by omega)) (gl_of C hg) (C.blt _ hf) boot_sorted' (pa_cons I1 pa_nil) (by decide) (by decide)) ?_
  refine h X Φ B F H ρ σ _ W C hK T R (wp_mono (wp_bind (c := d Φ ρ) hq) (fun y q v F1 H1 R1 e1 e2 hv => ?_) fun _ q => q)
  obtain ⟨y, ρ1⟩ := y
  cases g : pSortSet y with
  | none =>
    replace q : ((opt (pSortSet y)).bind fun ds => Out.ok (Slot.own ds, ρ1)).wp (EvP B F H σ p Q) (ExP X B F σ W) := q
    rw [g] at q; exact q.elim
  | some ds =>
    replace q : ((opt (pSortSet y)).bind fun ds => Out.ok (Slot.own ds, ρ1)).wp (EvP B F H σ p Q) (ExP X B F σ W) := q
    rw [g] at q
    replace q : EvP B F H σ p Q (.own ds, ρ1) := q
    obtain ⟨ys, ps, hy, h1, h2, h3, rfl⟩ := pSortSet_inv g
    obtain ⟨l, vs, rfl, k1, k2⟩ := hv.bp.seq R1.kept.ex hy
    obtain ⟨ks, rfl, g2, g3⟩ := pairs_rp k2 h1
    have hF : ∀ {F' : Hp}, Ex F1 F' → ∀ k ∈ ks, SqT X.K F' k.1 (k.2.map V.int) := fun ex k hk => by
      obtain ⟨o, z, _⟩ := g3 k hk
      exact .inl (.inr ⟨o, ex _ _ z⟩)
    have sub : ∀ k ∈ ks, ∃ p ∈ ps, k.2 = keyP p := fun k hk => by
      have : k.2 ∈ ps.map keyP := by rw [← g2]; exact List.mem_map.mpr ⟨k, hk, rfl⟩
      obtain ⟨p, hp, e⟩ := List.mem_map.mp this
      exact ⟨p, hp, e.symm⟩
    have bd : ∀ p ∈ ps, (0 ≤ p.1 ∧ p.1 < 64) ∧ (0 ≤ p.2 ∧ p.2 < 64) := fun p hp => by
      have := List.all_eq_true.mp h2 p hp
      simp only [Bool.and_eq_true, decide_eq_true_eq] at this
      exact ⟨⟨this.1.1.1, this.1.1.2⟩, this.1.2, this.2⟩
    refine ⟨l, ks, rfl, hK ▸ k1, hF R1.kept.ex, fun L nd hs => len_of_keys nd (fun k hk => sub k (hs k hk)) h3, fun a L ha hL1 hL2 => ?_⟩
    have exa : Ex H1 (upd H1 a (SetTW X.prog X.w a L)) := .new ha
    refine ⟨a, L, rfl, upd_same, fun k hk => hF (R1.kept.ex.trans exa) k (hL1 k hk), fun k hk => ?_, fun L' t pm nd hw ht => ?_⟩
    · obtain ⟨p, hp, e⟩ := sub k (hL1 k hk)
      exact ⟨p.1, p.2, e⟩
    · have inL : ∀ k ∈ L', k ∈ ks := fun k hk => hL1 k (pm.mem_iff.mp hk)
      obtain ⟨rs, w1, w2⟩ := back_keys (L := L') (qs := ps) fun k hk => sub k (inL k hk)
      have rnd : rs.Nodup := by
        rw [w1] at nd
        exact List.Pairwise.of_map keyP (fun a b hne e => hne (congrArg keyP e)) nd
      have rmem : ∀ r, r ∈ rs ↔ r ∈ ps := fun r => by
        refine ⟨w2 r, fun hr => ?_⟩
        have z1 : keyP r ∈ ks.map (·.2) := by rw [g2]; exact List.mem_map.mpr ⟨r, hr, rfl⟩
        obtain ⟨k, hk, ek⟩ := List.mem_map.mp z1
        have z2 : k.2 ∈ L'.map (·.2) := (pm.map (·.2)).mem_iff.mpr (hL2 k hk)
        rw [ek, w1] at z2
        obtain ⟨r', hr', er⟩ := List.mem_map.mp z2
        rw [← keyP_inj er]; exact hr'
      have rst : rs.Pairwise fun a b => lexP a b = true := by
        let f : List Int → List Int → Prop := fun x y => x.getD 0 0 < y.getD 0 0 ∨ x.getD 0 0 = y.getD 0 0 ∧ x.getD 1 0 ≤ y.getD 1 0
        have z : (L'.map (·.2)).Pairwise f := List.pairwise_map.mpr (hw.imp fun {x y} h => by
          rw [leK_eq, decide_eq_true_eq] at h
          exact h)
        rw [w1, List.pairwise_map] at z
        exact z.imp fun {x y} h => decide_eq_true h
      have er := setSort_eq rmem rnd rst
      subst er
      exact pq_of (R1.grow exa) e1 (fun z => (e2 z).trans exa) q t _ ht (rp_keys w1 fun k hk => g3 k (inL k hk))
/-! ### x = [..] where a comprehension's block sees x -/
end Dn

/-! Den14: plain reasoning over meanings. -/
namespace Dn
open PySem PySem.Spec L2
open PyProof.Rows hiding St

theorem run_at (T : Tx) {x : Str} {d : DefI} (h : T.find x = some d) (n : Nat) (as : List Slot) : T.run (n + 1) x as = dBody d.ps.length d.N.length d.b (T.run n) as := by
  show (match T.find x with
    | some d => dBody d.ps.length d.N.length d.b (T.run n) as
    | none => match T.findX x with
      | some d => dBodyX (d.ps.length + d.k) d.N.length d.b (T.run n) as
      | none => .stuck) = _
  rw [h]
theorem wp_bind' {α β : Type} {c : Out α} {f : α → Out β} {P : β → Prop} {E : Exc → Prop} (h : c.wp (fun a => (f a).wp P E) E) : (c.bind f).wp P E := by
  cases c with
  | ok a => exact h
  | exc x => exact h
  | stuck => exact h
  | any g => exact h
  | exs x ρ => exact h
theorem wp_eq {α : Type} {c : Out α} {a : α} {P : α → Prop} {E : Exc → Prop} (e : c = .ok a) (h : P a) : c.wp P E := by rw [e]; exact h
theorem ok_bind {α β : Type} (a : α) (f : α → Out β) : (Out.ok a).bind f = f a := rfl
theorem forL_wp {f : PyData → Env → Out (Fl × Env)} {P : Fl × Env → Prop} {E : Exc → Prop} (I : List PyData → Env → Prop) (fin : ∀ ρ, I [] ρ → P (.nx, ρ))
    (step : ∀ d ds ρ, I (d :: ds) ρ → (f d ρ).wp (fun r => match r.1 with
      | .nx => I ds r.2
      | .cnt => I ds r.2
      | .brk => P (.nx, r.2)
      | .ret s => P (.ret s, r.2)) E) : ∀ (ds : List PyData) (ρ : Env), I ds ρ → (forL f ds ρ).wp P E
  | [], ρ, h => fin ρ h
  | d :: ds, ρ, h => by
    refine wp_bind' (wp_mono (step d ds ρ h) (fun r q => ?_) fun _ q => q)
    obtain ⟨fl, ρ1⟩ := r
    cases fl with
    | nx => exact forL_wp I fin step ds ρ1 q
    | cnt => exact forL_wp I fin step ds ρ1 q
    | brk => exact q
    | ret s => exact q
theorem whileN_wp {c : Den} {b : DenS} {Φ : Calls} {P : Fl × Env → Prop} {E : Exc → Prop} (I : Nat → Env → Prop)
    (step : ∀ k ρ, I k ρ → (c Φ ρ).wp (fun r => match r.1 with
      | .val (.bool true) => (b Φ r.2).wp (fun s => match s.1 with
        | .nx => ∃ j, j < k ∧ I j s.2
        | .cnt => ∃ j, j < k ∧ I j s.2
        | .brk => P (.nx, s.2)
        | .ret x => P (.ret x, s.2)) E
      | .val (.bool false) => P (.nx, r.2)
      | _ => False) E) : ∀ (n k : Nat) (ρ : Env), k < n → I k ρ → (whileN c b Φ n ρ).wp P E
  | 0, k, ρ, hk, _ => absurd hk (Nat.not_lt_zero _)
  | n + 1, k, ρ, hk, h => by
    refine wp_bind' (wp_mono (step k ρ h) (fun r q => ?_) fun _ q => q)
    obtain ⟨s, ρ1⟩ := r
    cases s with
    | val d =>
      cases d with
      | bool v =>
        cases v with
        | true =>
          refine wp_bind' (wp_mono q (fun r q => ?_) fun _ q => q)
          obtain ⟨fl, ρ2⟩ := r
          cases fl with
          | nx => obtain ⟨j, hj, hi⟩ := q; exact whileN_wp I step n j ρ2 (by omega) hi
          | cnt => obtain ⟨j, hj, hi⟩ := q; exact whileN_wp I step n j ρ2 (by omega) hi
          | brk => exact q
          | ret x => exact q
        | false => exact q
      | _ => exact q.elim
    | _ => exact q.elim
/-- the law's end, by what it may give -/
theorem law_of {K : PySem.W.Frag} {mg : Str → Option Value} {H : Hp} {a : Addr} {ns : List Int} {φ : List Slot → Out (Slot × List Slot)} (h : (φ [.scr ns]).wp (fun r => r.1 = .val (.bool true)) fun _ => False) (hS : SqL K H a (ns.map V.int)) {Q : VK} {E : XK} (hQ : ∀ H', Q (.bl true) H') : SpF mg K 1 φ [.ref a] H Q E := by
  refine ⟨rfl, H, [.scr ns], .refl H, rfl, ⟨rfl, fun i d q => ?_, fun i ms q => ?_, fun i s q qs => ?_, fun i v q => ?_, fun i j s t b ne q qs => ?_⟩, fun s hs => ?_, ?_⟩
  · cases i with
    | zero => cases q
    | succ i => simp at q
  · cases i with
    | zero => cases q; exact ⟨a, rfl, hS⟩
    | succ i => simp at q
  · cases i with
    | zero => cases q; cases qs
    | succ i => simp at q
  · cases i with
    | zero => cases q; rfl
    | succ i => simp at q
  · cases i with
    | zero => cases q; cases qs
    | succ i => simp at q
  · simp at hs; subst hs; exact fun z => nomatch z
  · refine wp_mono h (fun r e v F' H' b => ?_) fun _ z => z.elim
    obtain ⟨r, outs⟩ := r
    have e : r = .val (.bool true) := e
    subst e
    rcases b.ret with ⟨d, e, r⟩ | ⟨e, _⟩
    · cases e; cases r; exact hQ _
    · cases e
theorem noExc {P : Program} {w : World} {o : List PySem.Env} {H : Hp} {s s' : Shared} {e : Value} (h : L2N.CX P w o H s (fun _ _ _ => False) e s') : False := by
  obtain ⟨_, _, _, _, _, _, _, _, _, _, _, _, z⟩ := h
  exact z
end Dn

/-! Den15: how meanings are taken apart, one step at a time. -/
namespace Dn
open PySem PySem.Spec L2
open PyProof.Rows hiding St
section
variable {Φ : Calls} {ρ ρ2 : Env} {a b c t : Den} {o e l : DenO} {as : DenOs} {f : Prim} {s s' : DenS} {i j n np : Nat} {d x y : PyData} {r : DenA} {is : List Nat} {q : Str} {T : String} {g : MutF} {tg : Tgt} {so : DenI}
  {g3 : PyData → Option Int → Option Int → Option Slot} {l1 l2 : Option DenO} {g1 g2 : Int → Int → Bool} {ds es xs : List PyData} {ss : List Slot} {sl s2 : Slot} {la : List (Option Nat × Slot)} {ns : List Int} {k m : Int} {v : Bool}
def kSeq (s' : DenS) (Φ : Calls) : Fl × Env → Out (Fl × Env) := fun r => match r.1 with
  | .nx => s' Φ r.2
  | f => .ok (f, r.2)
@[simp] theorem x_dSeq : dSeq s s' Φ ρ = (s Φ ρ).bind (kSeq s' Φ) := id rfl
@[simp] theorem x_dSeq1 : kSeq s' Φ (.nx, ρ) = s' Φ ρ := id rfl
@[simp] theorem x_dSeq2 : kSeq s' Φ (.brk, ρ) = .ok (.brk, ρ) := id rfl
@[simp] theorem x_dSeq3 : kSeq s' Φ (.cnt, ρ) = .ok (.cnt, ρ) := id rfl
@[simp] theorem x_dSeq4 : kSeq s' Φ (.ret sl, ρ) = .ok (.ret sl, ρ) := id rfl
def vGet (o : Option Slot) (i : Nat) (ρ : Env) : Out (Slot × Env) := match o with
  | some (.val d) => .ok (.val d, ρ)
  | some (.own ds) => .ok (.val (.list ds), ρ.set i (.val (.list ds)))
  | some (.odc false es) => .ok (.val (.dict es), ρ.set i (.val (.dict es)))
  | _ => .stuck
@[simp] theorem x_dVar : dVar i Φ ρ = vGet (ρ[i]?) i ρ := id rfl
@[simp] theorem x_dVar1 : vGet (some (.val d)) i ρ = .ok (.val d, ρ) := id rfl
@[simp] theorem x_dVar2 : vGet (some (.own ds)) i ρ = .ok (.val (.list ds), ρ.set i (.val (.list ds))) := id rfl
def oGet (o : Option Slot) (ρ : Env) : Out (PyData × Env) := match o with
  | some (.val d) => .ok (d, ρ)
  | some (.own ds) => .ok (.list ds, ρ)
  | some (.odc false es) => .ok (.dict es, ρ)
  | _ => .stuck
@[simp] theorem x_oVar : oVar i Φ ρ = oGet (ρ[i]?) ρ := id rfl
@[simp] theorem x_oVar1 : oGet (some (.val d)) ρ = .ok (d, ρ) := id rfl
@[simp] theorem x_oVar2 : oGet (some (.own ds)) ρ = .ok (.list ds, ρ) := id rfl
@[simp] theorem x_dLit : dLit d Φ ρ = .ok (.val d, ρ) := id rfl
def kOf : Slot × Env → Out (PyData × Env) := fun r => match r.1 with
  | .val x => .ok (x, r.2)
  | .own ds => .ok (.list ds, r.2)
  | .odc false es => .ok (.dict es, r.2)
  | _ => .stuck
@[simp] theorem x_oOf : oOf a Φ ρ = (a Φ ρ).bind kOf := id rfl
@[simp] theorem x_oOf1 : kOf (.val d, ρ) = .ok (d, ρ) := id rfl
@[simp] theorem x_oOf2 : kOf (.own ds, ρ) = .ok (.list ds, ρ) := id rfl
def kOs2 (x : PyData) : List PyData × Env → Out (List PyData × Env) := fun y => .ok (x :: y.1, y.2)
def kOs (as : DenOs) (Φ : Calls) : PyData × Env → Out (List PyData × Env) := fun x => (as Φ x.2).bind (kOs2 x.1)
@[simp] theorem x_osNil : osNil Φ ρ = .ok ([], ρ) := id rfl
@[simp] theorem x_osCons : osCons o as Φ ρ = (o Φ ρ).bind (kOs as Φ) := id rfl
@[simp] theorem x_osCons1 : kOs as Φ (x, ρ) = (as Φ ρ).bind (kOs2 x) := id rfl
@[simp] theorem x_osCons2 : kOs2 x (ds, ρ) = .ok (x :: ds, ρ) := id rfl
@[simp] theorem x_fsNil : fsNil Φ ρ = .ok ([], ρ) := id rfl
@[simp] theorem x_fsCons : fsCons a as Φ ρ = (oOf a Φ ρ).bind (kOs as Φ) := id rfl
def kTup : List PyData × Env → Out (Slot × Env) := fun x => guard' (decide (x.1.length ≤ 1000)) (.ok (.val (.tuple x.1), x.2))
def kLst : List PyData × Env → Out (Slot × Env) := fun x => guard' (decide (x.1.length ≤ 1000)) (.ok (.own x.1, x.2))
@[simp] theorem x_dTup : dTup as Φ ρ = (as Φ ρ).bind kTup := id rfl
@[simp] theorem x_dTup1 : kTup (ds, ρ) = guard' (decide (ds.length ≤ 1000)) (.ok (.val (.tuple ds), ρ)) := id rfl
@[simp] theorem x_dLst : dLst as Φ ρ = (as Φ ρ).bind kLst := id rfl
@[simp] theorem x_dLst1 : kLst (ds, ρ) = guard' (decide (ds.length ≤ 1000)) (.ok (.own ds, ρ)) := id rfl
def kP2 (o : Option Slot) (ρ : Env) : Out (Slot × Env) := (opt o).bind fun s => .ok (s, ρ)
def kP (f : Prim) : List PyData × Env → Out (Slot × Env) := fun x => kP2 (f x.1) x.2
@[simp] theorem x_dP : dP f as Φ ρ = (as Φ ρ).bind (kP f) := id rfl
@[simp] theorem x_dP1 : kP f (ds, ρ) = kP2 (f ds) ρ := id rfl
@[simp] theorem x_dP2 : kP2 (some sl) ρ = .ok (sl, ρ) := id rfl
def kNot : Slot × Env → Out (Slot × Env) := fun x => match x.1 with
  | .val (.bool b) => .ok (.val (.bool !b), x.2)
  | _ => .stuck
@[simp] theorem x_dNot : dNot a Φ ρ = (a Φ ρ).bind kNot := id rfl
@[simp] theorem x_dNot1 : kNot (.val (.bool v), ρ) = .ok (.val (.bool !v), ρ) := id rfl
def kAnd (b : Den) (Φ : Calls) : Slot × Env → Out (Slot × Env) := fun x => match x.1 with
  | .val (.bool true) => b Φ x.2
  | .val (.bool false) => .ok (.val (.bool false), x.2)
  | _ => .stuck
@[simp] theorem x_dAnd : dAnd a b Φ ρ = (a Φ ρ).bind (kAnd b Φ) := id rfl
@[simp] theorem x_dAnd1 : kAnd b Φ (.val (.bool true), ρ) = b Φ ρ := id rfl
@[simp] theorem x_dAnd2 : kAnd b Φ (.val (.bool false), ρ) = .ok (.val (.bool false), ρ) := id rfl
def kOr (b : Den) (Φ : Calls) : Slot × Env → Out (Slot × Env) := fun x => match x.1 with
  | .val (.bool true) => .ok (.val (.bool true), x.2)
  | .val (.bool false) => b Φ x.2
  | _ => .stuck
@[simp] theorem x_dOr : dOr a b Φ ρ = (a Φ ρ).bind (kOr b Φ) := id rfl
@[simp] theorem x_dOr1 : kOr b Φ (.val (.bool true), ρ) = .ok (.val (.bool true), ρ) := id rfl
@[simp] theorem x_dOr2 : kOr b Φ (.val (.bool false), ρ) = b Φ ρ := id rfl
def kIf (a b : Den) (Φ : Calls) : Slot × Env → Out (Slot × Env) := fun x => match x.1 with
  | .val (.bool true) => a Φ x.2
  | .val (.bool false) => b Φ x.2
  | _ => .stuck
@[simp] theorem x_dIf : dIf t a b Φ ρ = (t Φ ρ).bind (kIf a b Φ) := id rfl
@[simp] theorem x_dIf1 : kIf a b Φ (.val (.bool true), ρ) = a Φ ρ := id rfl
@[simp] theorem x_dIf2 : kIf a b Φ (.val (.bool false), ρ) = b Φ ρ := id rfl
def kScr2 (o : Option Int) (ρ : Env) : Out (Slot × Env) := (opt o).bind fun n => .ok (.val (.int n), ρ)
def kScr (ns : List Int) : PyData × Env → Out (Slot × Env) := fun x => match x.1 with
  | .int k => kScr2 (atI ns k) x.2
  | _ => .stuck
def sAt (p : Option Slot) (o : DenO) (Φ : Calls) (ρ : Env) : Out (Slot × Env) := match p with
  | some (.scr ns) => (o Φ ρ).bind (kScr ns)
  | _ => .stuck
@[simp] theorem x_dScrAt : dScrAt i o Φ ρ = sAt (ρ[i]?) o Φ ρ := id rfl
@[simp] theorem x_dScrAt1 : sAt (some (.scr ns)) o Φ ρ = (o Φ ρ).bind (kScr ns) := id rfl
@[simp] theorem x_dScrAt2 : kScr ns (.int k, ρ) = kScr2 (atI ns k) ρ := id rfl
@[simp] theorem x_dScrAt3 : kScr2 (some k) ρ = .ok (.val (.int k), ρ) := id rfl
def sLen (p : Option Slot) (ρ : Env) : Out (Slot × Env) := match p with
  | some (.scr ns) => .ok (.val (.int ns.length), ρ)
  | _ => .stuck
@[simp] theorem x_dScrLen : dScrLen i Φ ρ = sLen (ρ[i]?) ρ := id rfl
@[simp] theorem x_dScrLen1 : sLen (some (.scr ns)) ρ = .ok (.val (.int ns.length), ρ) := id rfl
def kPart : PyData × Env → Out (Option Int × Env) := fun x => match x.1 with
  | .int k => .ok (some k, x.2)
  | _ => .stuck
@[simp] theorem x_oPart0 : oPart none Φ ρ = .ok (none, ρ) := id rfl
@[simp] theorem x_oPart1 : oPart (some o) Φ ρ = (o Φ ρ).bind kPart := id rfl
@[simp] theorem x_oPart2 : kPart (.int k, ρ) = .ok (some k, ρ) := id rfl
def kAs (p : Option Nat × Slot) : List (Option Nat × Slot) × Env → Out (List (Option Nat × Slot) × Env) := fun y => .ok (p :: y.1, y.2)
def aVar (p : Option Slot) (i : Nat) (r : DenA) (Φ : Calls) (ρ : Env) : Out (List (Option Nat × Slot) × Env) := match p with
  | some (.val d) => (r Φ ρ).bind (kAs (none, .val d))
  | some (.scr ns) => (r Φ ρ).bind (kAs (none, .scr ns))
  | some (.own ds) => (r Φ (ρ.set i .un)).bind (kAs (some i, .own ds))
  | some (.odc t es) => (r Φ (ρ.set i .un)).bind (kAs (some i, .odc t es))
  | some (.obj k ds) => (r Φ (ρ.set i .un)).bind (kAs (some i, .obj k ds))
  | _ => .stuck
def kAe (r : DenA) (Φ : Calls) : Slot × Env → Out (List (Option Nat × Slot) × Env) := fun x => (r Φ x.2).bind (kAs (none, x.1))
@[simp] theorem x_asNil : asNil Φ ρ = .ok ([], ρ) := id rfl
@[simp] theorem x_asVar : asVar i r Φ ρ = aVar (ρ[i]?) i r Φ ρ := id rfl
@[simp] theorem x_asVar1 : aVar (some (.val d)) i r Φ ρ = (r Φ ρ).bind (kAs (none, .val d)) := id rfl
@[simp] theorem x_asVar2 : aVar (some (.scr ns)) i r Φ ρ = (r Φ ρ).bind (kAs (none, .scr ns)) := id rfl
@[simp] theorem x_asVar3 : aVar (some (.own ds)) i r Φ ρ = (r Φ (ρ.set i .un)).bind (kAs (some i, .own ds)) := id rfl
@[simp] theorem x_asVar4 {p : Option Nat × Slot} : kAs p (la, ρ) = .ok (p :: la, ρ) := id rfl
@[simp] theorem x_asExp : asExp a r Φ ρ = (a Φ ρ).bind (kAe r Φ) := id rfl
@[simp] theorem x_asExp1 : kAe r Φ (sl, ρ) = (r Φ ρ).bind (kAs (none, sl)) := id rfl
def kCall2 (n : Nat) (la : List (Option Nat × Slot)) (ρ : Env) : Slot × List Slot → Out (Slot × Env) := fun r => guard' (r.2.length == n) (.ok (r.1, giveBack la r.2 ρ))
def kCall (q : Str) (n : Nat) (Φ : Calls) : List (Option Nat × Slot) × Env → Out (Slot × Env) := fun y => guard' (y.1.length == n) ((Φ q (y.1.map (·.2))).bind (kCall2 n y.1 y.2))
@[simp] theorem x_dCall : dCall q n r Φ ρ = (r Φ ρ).bind (kCall q n Φ) := id rfl
@[simp] theorem x_dCall1 : kCall q n Φ (la, ρ) = guard' (la.length == n) ((Φ q (la.map (·.2))).bind (kCall2 n la ρ)) := id rfl
@[simp] theorem x_dCall2 : kCall2 n la ρ (sl, ss) = guard' (ss.length == n) (.ok (sl, giveBack la ss ρ)) := id rfl
@[simp] theorem x_gb0 : giveBack [] [] ρ = ρ := id rfl
@[simp] theorem x_gb1 : giveBack ((some i, sl) :: la) (s2 :: ss) ρ = giveBack la ss (ρ.set i s2) := id rfl
@[simp] theorem x_gb2 : giveBack ((none, sl) :: la) (s2 :: ss) ρ = giveBack la ss ρ := id rfl
@[simp] theorem x_dSkip : dSkip Φ ρ = .ok (.nx, ρ) := id rfl
@[simp] theorem x_dBrk : dBrk Φ ρ = .ok (.brk, ρ) := id rfl
@[simp] theorem x_dCnt : dCnt Φ ρ = .ok (.cnt, ρ) := id rfl
@[simp] theorem x_dStop : dStop Φ ρ = .stuck := id rfl
def kDo : Slot × Env → Out (Fl × Env) := fun r => .ok (.nx, r.2)
@[simp] theorem x_dDo : dDo a Φ ρ = (a Φ ρ).bind kDo := id rfl
@[simp] theorem x_dDo1 : kDo (sl, ρ) = .ok (.nx, ρ) := id rfl
def kIfS (s s' : DenS) (Φ : Calls) : Slot × Env → Out (Fl × Env) := fun r => match r.1 with
  | .val (.bool true) => s Φ r.2
  | .val (.bool false) => s' Φ r.2
  | _ => .stuck
@[simp] theorem x_dIfS : dIfS t s s' Φ ρ = (t Φ ρ).bind (kIfS s s' Φ) := id rfl
@[simp] theorem x_dIfS1 : kIfS s s' Φ (.val (.bool true), ρ) = s Φ ρ := id rfl
@[simp] theorem x_dIfS2 : kIfS s s' Φ (.val (.bool false), ρ) = s' Φ ρ := id rfl
def kSet (i : Nat) : Slot × Env → Out (Fl × Env) := fun r => .ok (.nx, r.2.set i r.1)
@[simp] theorem x_dSet : dSet i a Φ ρ = (a Φ ρ).bind (kSet i) := id rfl
@[simp] theorem x_dSet1 : kSet i (sl, ρ) = .ok (.nx, ρ.set i sl) := id rfl
def rGet (o : Option Slot) (i : Nat) (ρ : Env) : Out (Fl × Env) := match o with
  | some (.val d) => .ok (.ret (.val d), ρ)
  | some (.own ds) => .ok (.ret (.own ds), ρ.set i .un)
  | some (.odc t es) => .ok (.ret (.odc t es), ρ.set i .un)
  | _ => .stuck
@[simp] theorem x_dRetV : dRetV i Φ ρ = rGet (ρ[i]?) i ρ := id rfl
@[simp] theorem x_dRetV1 : rGet (some (.val d)) i ρ = .ok (.ret (.val d), ρ) := id rfl
@[simp] theorem x_dRetV2 : rGet (some (.own ds)) i ρ = .ok (.ret (.own ds), ρ.set i .un) := id rfl
def kRet : Slot × Env → Out (Fl × Env) := fun r => .ok (.ret r.1, r.2)
@[simp] theorem x_dRet : dRet a Φ ρ = (a Φ ρ).bind kRet := id rfl
@[simp] theorem x_dRet1 : kRet (sl, ρ) = .ok (.ret sl, ρ) := id rfl
@[simp] theorem x_dRetN : dRetN Φ ρ = .ok (.ret (.val .none), ρ) := id rfl
def kUnp2 (o : Option Env) : Out (Fl × Env) := (opt o).bind fun ρ => .ok (.nx, ρ)
def kUnp (is : List Nat) : Slot × Env → Out (Fl × Env) := fun r => match r.1 with
  | .val (.tuple ds) => kUnp2 (setAll is ds r.2)
  | _ => .stuck
@[simp] theorem x_dUnp : dUnp is a Φ ρ = (a Φ ρ).bind (kUnp is) := id rfl
@[simp] theorem x_dUnp1 : kUnp is (.val (.tuple ds), ρ) = kUnp2 (setAll is ds ρ) := id rfl
@[simp] theorem x_dUnp2 : kUnp2 (some ρ) = .ok (.nx, ρ) := id rfl
@[simp] theorem x_set0 : setAll [] [] ρ = some ρ := id rfl
@[simp] theorem x_set1 : setAll (i :: is) (d :: ds) ρ = setAll is ds (ρ.set i (.val d)) := id rfl
def kPar (i j : Nat) : List PyData × Env → Out (Fl × Env) := fun r => match r.1 with
  | [x, y] => .ok (.nx, (r.2.set i (.val x)).set j (.val y))
  | _ => .stuck
@[simp] theorem x_dPar : dPar i j as Φ ρ = (as Φ ρ).bind (kPar i j) := id rfl
@[simp] theorem x_dPar1 : kPar i j ([x, y], ρ) = .ok (.nx, (ρ.set i (.val x)).set j (.val y)) := id rfl
def kSx4 (o : Option Nat) (i : Nat) (ds : List PyData) (x : PyData) (ρ : Env) : Out (Fl × Env) := (opt o).bind fun m => .ok (.nx, ρ.set i (.own (ds.set m x)))
def kSx2 (i : Nat) (x : PyData) : PyData × Env → Out (Fl × Env) := fun j => match j.1, j.2[i]? with
  | .int n, some (.own ds) => kSx4 (ixN ds.length n) i ds x j.2
  | _, _ => .stuck
def kSx3 (o : Option Slot) (i : Nat) (n : Int) (x : PyData) (ρ : Env) : Out (Fl × Env) := match o with
  | some (.own ds) => kSx4 (ixN ds.length n) i ds x ρ
  | _ => .stuck
def kSx (i : Nat) (o : DenO) (Φ : Calls) : PyData × Env → Out (Fl × Env) := fun r => guard' (isOwnL r.2 i) ((o Φ r.2).bind (kSx2 i r.1))
@[simp] theorem x_dSetIx : dSetIx i o a Φ ρ = (oOf a Φ ρ).bind (kSx i o Φ) := id rfl
@[simp] theorem x_dSetIx1 : kSx i o Φ (x, ρ) = guard' (isOwnL ρ i) ((o Φ ρ).bind (kSx2 i x)) := id rfl
@[simp] theorem x_dSetIx2 : kSx2 i x (.int k, ρ) = kSx3 (ρ[i]?) i k x ρ := by
  unfold kSx2 kSx3
  cases h : ρ[i]? with
  | none => simp [h]
  | some s => cases s <;> simp [h]
@[simp] theorem x_dSetIx3 : kSx3 (some (.own ds)) i k x ρ = kSx4 (ixN ds.length k) i ds x ρ := id rfl
@[simp] theorem x_dSetIx4 : kSx4 (some j) i ds x ρ = .ok (.nx, ρ.set i (.own (ds.set j x))) := id rfl
def kMut3 (o : Option (PyData × List PyData)) (i : Nat) (ρ : Env) : Out (Slot × Env) := (opt o).bind fun m => .ok (.val m.1, ρ.set i (.own m.2))
def kMut2 (p : Option Slot) (i : Nat) (g : MutF) (xs : List PyData) (ρ : Env) : Out (Slot × Env) := match p with
  | some (.own ds) => kMut3 (g ds xs) i ρ
  | _ => .stuck
def kMut (i : Nat) (g : MutF) : List PyData × Env → Out (Slot × Env) := fun r => kMut2 (r.2[i]?) i g r.1 r.2
@[simp] theorem x_dMut : dMut i g as Φ ρ = guard' (isOwnL ρ i) ((as Φ ρ).bind (kMut i g)) := id rfl
@[simp] theorem x_dMut1 : kMut i g (xs, ρ) = kMut2 (ρ[i]?) i g xs ρ := id rfl
@[simp] theorem x_dMut2 : kMut2 (some (.own ds)) i g xs ρ = kMut3 (g ds xs) i ρ := id rfl
@[simp] theorem x_dMut3 : kMut3 (some (x, ds)) i ρ = .ok (.val x, ρ.set i (.own ds)) := id rfl
def kSq : PyData × Env → Out (List PyData × Env) := fun r => match r.1 with
  | .list ds => .ok (ds, r.2)
  | .tuple ds => .ok (ds, r.2)
  | _ => .stuck
@[simp] theorem x_iSeq : iSeq o Φ ρ = (o Φ ρ).bind kSq := id rfl
@[simp] theorem x_iSeq1 : kSq (.list ds, ρ) = .ok (ds, ρ) := id rfl
@[simp] theorem x_iSeq2 : kSq (.tuple ds, ρ) = .ok (ds, ρ) := id rfl
def kR1 : PyData × Env → Out (List PyData × Env) := fun r => match r.1 with
  | .int n => guard' (small62 n) (.ok (rngD 0 n.toNat, r.2))
  | _ => .stuck
@[simp] theorem x_iR1 : iR1 o Φ ρ = (o Φ ρ).bind kR1 := id rfl
@[simp] theorem x_iR1a : kR1 (.int k, ρ) = guard' (small62 k) (.ok (rngD 0 k.toNat, ρ)) := id rfl
def kR2b (x : PyData) : PyData × Env → Out (List PyData × Env) := fun s => match x, s.1 with
  | .int i, .int j => guard' (small62 i && small62 j) (.ok (rngD i (j - i).toNat, s.2))
  | _, _ => .stuck
def kR2 (e : DenO) (Φ : Calls) : PyData × Env → Out (List PyData × Env) := fun r => (e Φ r.2).bind (kR2b r.1)
@[simp] theorem x_iR2 : iR2 o e Φ ρ = (o Φ ρ).bind (kR2 e Φ) := id rfl
@[simp] theorem x_iR2a : kR2 e Φ (x, ρ) = (e Φ ρ).bind (kR2b x) := id rfl
@[simp] theorem x_iR2b : kR2b (.int k) (.int m, ρ) = guard' (small62 k && small62 m) (.ok (rngD k (m - k).toNat, ρ)) := id rfl
def fB2 (o : Option Env) (s : DenS) (Φ : Calls) : Out (Fl × Env) := (opt o).bind fun ρ => s Φ ρ
def fB (tg : Tgt) (s : DenS) (Φ : Calls) : PyData → Env → Out (Fl × Env) := fun d ρ => fB2 (putT tg d ρ) s Φ
def kFor (tg : Tgt) (s : DenS) (Φ : Calls) : List PyData × Env → Out (Fl × Env) := fun r => forL (fB tg s Φ) r.1 r.2
@[simp] theorem x_dFor : dFor tg so s Φ ρ = (so Φ ρ).bind (kFor tg s Φ) := id rfl
@[simp] theorem x_dFor1 : kFor tg s Φ (ds, ρ) = forL (fB tg s Φ) ds ρ := id rfl
@[simp] theorem x_dFor2 : fB tg s Φ d ρ = fB2 (putT tg d ρ) s Φ := id rfl
@[simp] theorem x_dFor3 : fB2 (some ρ) s Φ = s Φ ρ := id rfl
@[simp] theorem x_forL0 {h : PyData → Env → Out (Fl × Env)} : forL h [] ρ = .ok (.nx, ρ) := id rfl
@[simp] theorem x_putNm : putT (.nm i) d ρ = some (ρ.set i (.val d)) := id rfl
@[simp] theorem x_putTp : putT (.tp is) (.tuple ds) ρ = setAll is ds ρ := id rfl
@[simp] theorem x_dWhile : dWhile a s Φ ρ = whileN a s Φ turnsMost ρ := id rfl
def kLR : List PyData × Env → Out (Slot × Env) := fun r => guard' (decide (r.1.length ≤ 1000000)) (.ok (.own r.1, r.2))
@[simp] theorem x_dListR : dListR so Φ ρ = (so Φ ρ).bind kLR := id rfl
@[simp] theorem x_dListR1 : kLR (ds, ρ) = guard' (decide (ds.length ≤ 1000000)) (.ok (.own ds, ρ)) := id rfl
def kEn : PyData × Env → Out (List PyData × Env) := fun r => match r.1 with
  | .list ds => .ok (pairUp (rngD 0 ds.length) ds, r.2)
  | _ => .stuck
@[simp] theorem x_iEnumD : iEnumD a Φ ρ = (oOf a Φ ρ).bind kEn := id rfl
@[simp] theorem x_iEnumD1 : kEn (.list ds, ρ) = .ok (pairUp (rngD 0 ds.length) ds, ρ) := id rfl
def kZp : List PyData × Env → Out (List PyData × Env) := fun r => match r.1 with
  | [.list ds, .list es] => .ok (pairUp ds es, r.2)
  | [.tuple ds, .tuple es] => .ok (pairUp ds es, r.2)
  | _ => .stuck
@[simp] theorem x_iZipD : iZipD as Φ ρ = (as Φ ρ).bind kZp := id rfl
@[simp] theorem x_iZipD1 : kZp ([.list ds, .list es], ρ) = .ok (pairUp ds es, ρ) := id rfl
@[simp] theorem x_iZipD2 : kZp ([.tuple ds, .tuple es], ρ) = .ok (pairUp ds es, ρ) := id rfl
def kSS2 (o : Option (List PyData)) (ρ : Env) : Out (Slot × Env) := (opt o).bind fun ds => .ok (.own ds, ρ)
def kSS : PyData × Env → Out (Slot × Env) := fun r => kSS2 (pSortSet r.1) r.2
@[simp] theorem x_dSS : dSS o Φ ρ = (o Φ ρ).bind kSS := id rfl
@[simp] theorem x_dSS1 : kSS (x, ρ) = kSS2 (pSortSet x) ρ := id rfl
@[simp] theorem x_dSS2 : kSS2 (some ds) ρ = .ok (.own ds, ρ) := id rfl
def kLc2 (is : List Nat) (ρ : Env) : List PyData × Env → Out (Slot × Env) := fun z => .ok (.own z.1, unwipe is ρ z.2)
def kLc (tg : Tgt) (t a : Den) (is : List Nat) (Φ : Calls) : List PyData × Env → Out (Slot × Env) := fun r => guard' (decide (r.1.length ≤ 1000000)) ((noX (lcL (lcT tg t a is Φ) r.1 (wipeE is r.2))).bind (kLc2 is r.2))
@[simp] theorem x_dLc : dLc tg so t a is Φ ρ = (so Φ ρ).bind (kLc tg t a is Φ) := id rfl
@[simp] theorem x_dLc1 : kLc tg t a is Φ (ds, ρ) = guard' (decide (ds.length ≤ 1000000)) ((noX (lcL (lcT tg t a is Φ) ds (wipeE is ρ))).bind (kLc2 is ρ)) := id rfl
@[simp] theorem x_dLc2 : kLc2 is ρ (ds, ρ2) = .ok (.own ds, unwipe is ρ ρ2) := id rfl
def lT3 (is : List Nat) : PyData × Env → Out (Option PyData × Env) := fun y => .ok (some y.1, wipeE is y.2)
def lT2 (a : Den) (is : List Nat) (Φ : Calls) : Slot × Env → Out (Option PyData × Env) := fun b => match b.1 with
  | .val (.bool true) => (oOf a Φ b.2).bind (lT3 is)
  | .val (.bool false) => .ok (none, wipeE is b.2)
  | _ => .stuck
def lT1 (o : Option Env) (t a : Den) (is : List Nat) (Φ : Calls) : Out (Option PyData × Env) := (opt o).bind fun ρ => (t Φ ρ).bind (lT2 a is Φ)
@[simp] theorem x_lcT : lcT tg t a is Φ d ρ = lT1 (putT tg d ρ) t a is Φ := id rfl
@[simp] theorem x_lcT1 : lT1 (some ρ) t a is Φ = (t Φ ρ).bind (lT2 a is Φ) := id rfl
@[simp] theorem x_lcT2 : lT2 a is Φ (.val (.bool true), ρ) = (oOf a Φ ρ).bind (lT3 is) := id rfl
@[simp] theorem x_lcT3 : lT2 a is Φ (.val (.bool false), ρ) = .ok (none, wipeE is ρ) := id rfl
@[simp] theorem x_lcT4 : lT3 is (d, ρ) = .ok (some d, wipeE is ρ) := id rfl
@[simp] theorem x_dYes : dYes Φ ρ = .ok (.val (.bool true), ρ) := id rfl
@[simp] theorem x_wipe0 : wipeE [] ρ = ρ := id rfl
@[simp] theorem x_wipe1 : wipeE (i :: is) ρ = (wipeE is ρ).set i .un := id rfl
def uW (o : Option Slot) (i : Nat) (ρ : Env) : Env := match o with
  | some (.val d) => ρ.set i (.val d)
  | _ => ρ
@[simp] theorem x_unw0 : unwipe [] ρ ρ2 = ρ2 := id rfl
@[simp] theorem x_unw1 : unwipe (i :: is) ρ ρ2 = uW (ρ[i]?) i (unwipe is ρ ρ2) := by
  show (match ρ[i]? with
    | some (.val d) => (unwipe is ρ ρ2).set i (.val d)
    | _ => unwipe is ρ ρ2) = _
  unfold uW
  split <;> rfl
@[simp] theorem x_unw2 : uW (some (.val d)) i ρ = ρ.set i (.val d) := id rfl
@[simp] theorem x_unw3 : uW (some .un) i ρ = ρ := id rfl
@[simp] theorem x_unw4 : uW (some (.own ds)) i ρ = ρ := id rfl
def kSl3 (g3 : PyData → Option Int → Option Int → Option Slot) (x : PyData) (lo : Option Int) : Option Int × Env → Out (Slot × Env) := fun u => kP2 (g3 x lo u.1) u.2
def kSl2 (g3 : PyData → Option Int → Option Int → Option Slot) (l2 : Option DenO) (Φ : Calls) (x : PyData) : Option Int × Env → Out (Slot × Env) := fun l => (oPart l2 Φ l.2).bind (kSl3 g3 x l.1)
def kSl (g3 : PyData → Option Int → Option Int → Option Slot) (l1 l2 : Option DenO) (Φ : Calls) : PyData × Env → Out (Slot × Env) := fun x => (oPart l1 Φ x.2).bind (kSl2 g3 l2 Φ x.1)
@[simp] theorem x_dSl : dSl g3 o l1 l2 Φ ρ = (o Φ ρ).bind (kSl g3 l1 l2 Φ) := id rfl
@[simp] theorem x_dSl1 : kSl g3 l1 l2 Φ (x, ρ) = (oPart l1 Φ ρ).bind (kSl2 g3 l2 Φ x) := id rfl
@[simp] theorem x_dSl2 {lo : Option Int} : kSl2 g3 l2 Φ x (lo, ρ) = (oPart l2 Φ ρ).bind (kSl3 g3 x lo) := id rfl
@[simp] theorem x_dSl3 {lo hi : Option Int} : kSl3 g3 x lo (hi, ρ) = kP2 (g3 x lo hi) ρ := id rfl
def kCh4 (g2 : Int → Int → Bool) (j : Int) : PyData × Env → Out (Slot × Env) := fun z => match z.1 with
  | .int k => .ok (.val (.bool (g2 j k)), z.2)
  | _ => .stuck
def kCh3 (b : Bool) (g2 : Int → Int → Bool) (l : DenO) (Φ : Calls) (j : Int) (ρ : Env) : Out (Slot × Env) := if b then (l Φ ρ).bind (kCh4 g2 j) else .ok (.val (.bool false), ρ)
def kCh2 (g1 g2 : Int → Int → Bool) (l : DenO) (Φ : Calls) (x : PyData) : PyData × Env → Out (Slot × Env) := fun y => match x, y.1 with
  | .int i, .int j => kCh3 (g1 i j) g2 l Φ j y.2
  | _, _ => .stuck
def kCh (g1 g2 : Int → Int → Bool) (e l : DenO) (Φ : Calls) : PyData × Env → Out (Slot × Env) := fun x => (e Φ x.2).bind (kCh2 g1 g2 l Φ x.1)
@[simp] theorem x_dCh : dCh g1 g2 o e l Φ ρ = (o Φ ρ).bind (kCh g1 g2 e l Φ) := id rfl
@[simp] theorem x_dCh1 : kCh g1 g2 e l Φ (x, ρ) = (e Φ ρ).bind (kCh2 g1 g2 l Φ x) := id rfl
@[simp] theorem x_dCh2 : kCh2 g1 g2 l Φ (.int k) (.int m, ρ) = kCh3 (g1 k m) g2 l Φ m ρ := id rfl
@[simp] theorem x_dCh3 : kCh3 true g2 l Φ m ρ = (l Φ ρ).bind (kCh4 g2 m) := id rfl
@[simp] theorem x_dCh4 : kCh3 false g2 l Φ m ρ = .ok (.val (.bool false), ρ) := id rfl
@[simp] theorem x_dCh5 : kCh4 g2 m (.int k, ρ) = .ok (.val (.bool (g2 m k)), ρ) := id rfl
def kM2 (f : Prim) (x : PyData) : List PyData × Env → Out (Slot × Env) := fun a => kP2 (f (x :: a.1)) a.2
def kM (T : String) (f : Prim) (as : DenOs) (Φ : Calls) : PyData × Env → Out (Slot × Env) := fun o => guard' (tyD o.1 == T) ((as Φ o.2).bind (kM2 f o.1))
@[simp] theorem x_dM : dM T f o as Φ ρ = (o Φ ρ).bind (kM T f as Φ) := id rfl
@[simp] theorem x_dM1 : kM T f as Φ (x, ρ) = guard' (tyD x == T) ((as Φ ρ).bind (kM2 f x)) := id rfl
@[simp] theorem x_dM2 : kM2 f x (ds, ρ) = kP2 (f (x :: ds)) ρ := id rfl
@[simp] theorem x_tyT : tyD (.tuple ds) = "tuple" := id rfl
@[simp] theorem x_tyL : tyD (.list ds) = "list" := id rfl
@[simp] theorem x_ok {A1 B1 : Type} {u : A1} {h : A1 → Out B1} : (Out.ok u).bind h = h u := id rfl
@[simp] theorem x_stk {A1 B1 : Type} {h : A1 → Out B1} : (Out.stuck : Out A1).bind h = .stuck := id rfl
@[simp] theorem x_gt {A1 : Type} {h : Out A1} : guard' true h = h := id rfl
@[simp] theorem x_nox {A1 : Type} {u : A1} : noX (Out.ok u) = .ok u := id rfl
@[simp] theorem x_wpo {A1 : Type} {u : A1} {P : A1 → Prop} {E : Exc → Prop} : (Out.ok u).wp P E = P u := id rfl
def kBody (ss : List Slot) (np : Nat) : Fl × Env → Out (Slot × List Slot) := fun r => match r.1 with
  | .ret s => fin ss np s r.2
  | .nx => fin ss np (.val .none) r.2
  | _ => .stuck
@[simp] theorem x_body : dBody np n s Φ ss = (s Φ (ss ++ List.replicate (n - np) .un)).bind (kBody ss np) := id rfl
@[simp] theorem x_body1 : kBody ss np (.ret sl, ρ) = guard' (outsOk ss (ρ.take np)) (.ok (sl, ρ.take np)) := id rfl
@[simp] theorem x_body2 : kBody ss np (.nx, ρ) = guard' (outsOk ss (ρ.take np)) (.ok (.val .none, ρ.take np)) := id rfl
@[simp] theorem x_outs0 : outsOk [] ss = true := by cases ss <;> rfl
@[simp] theorem x_outs1 : outsOk (.val d :: ss) (sl :: ρ) = outsOk ss ρ := id rfl
@[simp] theorem x_outs2 : outsOk (.scr ns :: ss) (sl :: ρ) = outsOk ss ρ := id rfl
@[simp] theorem x_outs3 : outsOk (.own ds :: ss) (.own es :: ρ) = outsOk ss ρ := id rfl
@[simp] theorem x_outs4 : outsOk (.own ds :: ss) (.val d :: ρ) = outsOk ss ρ := id rfl
@[simp] theorem x_own0 : isOwnL (.own ds :: ρ) 0 = true := id rfl
@[simp] theorem x_own1 : isOwnL (sl :: ρ) (i + 1) = isOwnL ρ i := by
  unfold isOwnL
  rw [List.getElem?_cons_succ]
@[simp] theorem x_len1 : pLen [.list ds] = some (.val (.int ds.length)) := id rfl
@[simp] theorem x_len2 : pLen [.tuple ds] = some (.val (.int ds.length)) := id rfl
@[simp] theorem x_add1 : pAdd [.int k, .int m] = some (.val (.int (k + m))) := id rfl
@[simp] theorem x_sub1 : pSub [.int k, .int m] = some (.val (.int (k - m))) := id rfl
@[simp] theorem x_lt1 : pLt [.int k, .int m] = some (.val (.bool (decide (k < m)))) := id rfl
@[simp] theorem x_le1 : pLe [.int k, .int m] = some (.val (.bool (decide (k ≤ m)))) := id rfl
@[simp] theorem x_gt1 : pGt [.int k, .int m] = some (.val (.bool (decide (m < k)))) := id rfl
@[simp] theorem x_ge1 : pGe [.int k, .int m] = some (.val (.bool (decide (m ≤ k)))) := id rfl
@[simp] theorem x_eq1 : pEq [.int k, .int m] = some (.val (.bool (decide (k = m)))) := by
  simp [pEq, SeqAt.shaped, PyData.canLay0, PyData.depth, PyData.eqv]
  rfl
@[simp] theorem x_ne1 : pNe [.int k, .int m] = some (.val (.bool (!decide (k = m)))) := by
  simp [pNe, SeqAt.shaped, PyData.canLay0, PyData.depth, PyData.eqv]
  rfl
@[simp] theorem x_ix1 : pIx [.list ds, .int k] = (atI ds k).map .val := id rfl
@[simp] theorem x_ix2 : pIx [.tuple ds, .int k] = (atI ds k).map .val := id rfl
@[simp] theorem x_is1 : pIs T [x] = some (.val (.bool (isT T x))) := id rfl
@[simp] theorem x_lo1 : pListOf [.list ds] = some (.own ds) := id rfl
@[simp] theorem x_lo2 : pListOf [.tuple ds] = some (.own ds) := id rfl
@[simp] theorem x_to1 : pTupOf [.list ds] = some (.val (.tuple ds)) := id rfl
@[simp] theorem x_to2 : pTupOf [.tuple ds] = some (.val (.tuple ds)) := id rfl
theorem x_div (h : 0 < m) (h' : m < 1073741824) : pDiv [.int k, .int m] = some (.val (.int (k / m))) := by
  have : m.natAbs.log2 < 9000 := Nat.lt_of_lt_of_le (PySem.Flt.log2_lt_of (k := 30) (by decide) (by omega)) (by decide)
  simp [pDiv, pI2, h, this]
theorem x_mod (h : 0 < m) : pMod [.int k, .int m] = some (.val (.int (k % m))) := by
  simp [pMod, pI2, h]
theorem big2_of {i j : Int} {a b : Nat} (ha : i.natAbs < 2 ^ a) (hb : j.natAbs < 2 ^ b) (h0 : 0 < a) (h1 : 0 < b) (h : a + b ≤ 1000000) : big2 i j = true := by
  have := wide_mul ha hb h0 h1 h
  unfold big2
  unfold CMulW at this
  simpa using this
theorem x_mul (h : big2 k m = true) : pMul [.int k, .int m] = some (.val (.int (k * m))) := by
  simp [pMul, h]
theorem x_ixn {α : Type} {xs : List α} {n : Nat} {z : α} (h : xs[n]? = some z) : atI xs (n : Int) = some z := by
  unfold atI ixN
  have := (List.getElem?_eq_some_iff.mp h).1
  rw [if_pos (Int.natCast_nonneg n), if_pos (by omega)]
  exact h
@[simp] theorem x_at0 {α : Type} {z : α} {zs : List α} : atI (z :: zs) 0 = some z := x_ixn (n := 0) rfl
@[simp] theorem x_at1 {α : Type} {z w : α} {zs : List α} : atI (z :: w :: zs) 1 = some w := x_ixn (n := 1) rfl
@[simp] theorem x_at2 {α : Type} {z w u : α} {zs : List α} : atI (z :: w :: u :: zs) 2 = some u := x_ixn (n := 2) rfl
@[simp] theorem x_at3 {α : Type} {z w u t : α} {zs : List α} : atI (z :: w :: u :: t :: zs) 3 = some t := x_ixn (n := 3) rfl
end
end Dn

/-! Den16: loops by places; lists of whole numbers, of pairs, as data. -/
namespace Dn
open PySem PySem.Spec L2
open PyProof.Rows hiding St
/-- what a turn must reach -/
def LoopP (N : Env → Prop) (P : Fl × Env → Prop) : Fl × Env → Prop := fun r => match r.1 with
  | .nx => N r.2
  | .cnt => N r.2
  | .brk => P (.nx, r.2)
  | .ret s => P (.ret s, r.2)
@[simp] theorem loopP_nx {N : Env → Prop} {P : Fl × Env → Prop} {ρ : Env} : LoopP N P (.nx, ρ) = N ρ := id rfl
@[simp] theorem loopP_cnt {N : Env → Prop} {P : Fl × Env → Prop} {ρ : Env} : LoopP N P (.cnt, ρ) = N ρ := id rfl
@[simp] theorem loopP_brk {N : Env → Prop} {P : Fl × Env → Prop} {ρ : Env} : LoopP N P (.brk, ρ) = P (.nx, ρ) := id rfl
@[simp] theorem loopP_ret {N : Env → Prop} {P : Fl × Env → Prop} {s : Slot} {ρ : Env} : LoopP N P (.ret s, ρ) = P (.ret s, ρ) := id rfl
theorem forI_wp {f : PyData → Env → Out (Fl × Env)} {P : Fl × Env → Prop} {E : Exc → Prop} {ds : List PyData} {ρ : Env} (I : Nat → Env → Prop) (h : I 0 ρ) (fin : ∀ ρ, I ds.length ρ → P (.nx, ρ))
    (step : ∀ i d ρ, ds[i]? = some d → I i ρ → (f d ρ).wp (LoopP (I (i + 1)) P) E) : (forL f ds ρ).wp P E := by
  refine forL_wp (fun l ρ => ∃ i, l = ds.drop i ∧ i ≤ ds.length ∧ I i ρ) ?fin ?step ds ρ ⟨0, by rw [List.drop_zero], Nat.zero_le _, h⟩
  case fin =>
    intro ρ ⟨i, e, hi, q⟩
    have : i = ds.length := by
      have := congrArg List.length e
      rw [List.length_drop, List.length_nil] at this
      omega
    subst this
    exact fin ρ q
  case step =>
    intro d l ρ ⟨i, e, hi, q⟩
    have lt : i < ds.length := by
      have := congrArg List.length e
      rw [List.length_drop, List.length_cons] at this
      omega
    rw [List.drop_eq_getElem_cons lt] at e
    injection e with e1 e2
    refine wp_mono (step i d ρ (by rw [e1]; exact List.getElem?_eq_getElem lt) q) (fun r z => ?_) fun _ z => z
    obtain ⟨fl, ρ1⟩ := r
    cases fl with
    | nx => exact ⟨i + 1, e2, lt, z⟩
    | cnt => exact ⟨i + 1, e2, lt, z⟩
    | brk => exact z
    | ret s => exact z
theorem rngD_get {lo : Int} {n i : Nat} {d : PyData} (h : (rngD lo n)[i]? = some d) : i < n ∧ d = .int (lo + (i : Nat)) := by
  have hi : i < n := by
    have := (List.getElem?_eq_some_iff.mp h).1
    rw [rngD_length] at this
    exact this
  unfold rngD at h
  rw [List.getElem?_map, List.getElem?_range hi] at h
  exact ⟨hi, (Option.some.inj h).symm⟩
theorem forR_wp {f : PyData → Env → Out (Fl × Env)} {P : Fl × Env → Prop} {E : Exc → Prop} {lo : Int} {n : Nat} {ρ : Env} (I : Nat → Env → Prop) (h : I 0 ρ) (fin : ∀ ρ, I n ρ → P (.nx, ρ))
    (step : ∀ i ρ, i < n → I i ρ → (f (.int (lo + (i : Nat))) ρ).wp (LoopP (I (i + 1)) P) E) : (forL f (rngD lo n) ρ).wp P E := by
  refine forI_wp I h (fun ρ z => fin ρ (by rw [rngD_length] at z; exact z)) fun i d ρ hd q => ?_
  obtain ⟨hi, e⟩ := rngD_get hd
  subst e
  exact step i ρ hi q
/-! ### lists of whole numbers, of pairs -/
abbrev nsD (ns : List Int) : List PyData := ns.map .int
abbrev psD (ps : List (Int × Int)) : List PyData := ps.map prD
theorem rngD_map (lo : Int) (n : Nat) : rngD lo n = nsD ((List.range n).map fun i => lo + (i : Nat)) := by
  unfold rngD nsD
  rw [List.map_map]
  rfl
theorem pairsOf_map : ∀ ps : List (Int × Int), pairsOf (psD ps) = some ps
  | [] => rfl
  | p :: ps => by
    show (pairsOf (psD ps)).map ((p.1, p.2) :: ·) = _
    rw [pairsOf_map ps]
    rfl
theorem boolsOf_map : ∀ bs : List Bool, boolsOf (bs.map .bool) = some bs
  | [] => rfl
  | b :: bs => by
    show (boolsOf (bs.map .bool)).map (b :: ·) = _
    rw [boolsOf_map bs]
    rfl
theorem lay_ns : ∀ ns : List Int, PyData.canLayAll0 (nsD ns) = true ∧ PyData.depthAll (nsD ns) = 0
  | [] => by simp [PyData.canLayAll0, PyData.depthAll]
  | n :: ns => by
    obtain ⟨h1, h2⟩ := lay_ns ns
    simp only [List.map_cons, PyData.canLayAll0, PyData.depthAll, PyData.canLay0, PyData.depth, h1, h2]
    simp
theorem lay_ps : ∀ ps : List (Int × Int), PyData.canLayAll0 (psD ps) = true ∧ PyData.depthAll (psD ps) ≤ 1
  | [] => by simp [PyData.canLayAll0, PyData.depthAll]
  | p :: ps => by
    obtain ⟨h1, h2⟩ := lay_ps ps
    have h2 : PyData.depthAll (ps.map prD) ≤ 1 := h2
    simp only [List.map_cons, PyData.canLayAll0, PyData.depthAll, prD, PyData.canLay0, PyData.depth, h1]
    refine ⟨by simp, by simp; omega⟩
theorem sh_nsL (ns : List Int) : SeqAt.shaped (.list (nsD ns)) = true := by
  obtain ⟨h1, h2⟩ := lay_ns ns
  simp [SeqAt.shaped, PyData.canLay0, PyData.depth, h1, h2]
theorem sh_psT (ps : List (Int × Int)) : SeqAt.shaped (.tuple (psD ps)) = true := by
  obtain ⟨h1, h2⟩ := lay_ps ps
  simp [SeqAt.shaped, PyData.canLay0, PyData.depth, h1]
  omega
theorem sh_psL (ps : List (Int × Int)) : SeqAt.shaped (.list (psD ps)) = true := by
  obtain ⟨h1, h2⟩ := lay_ps ps
  simp [SeqAt.shaped, PyData.canLay0, PyData.depth, h1]
  omega
theorem sh_pr (p : Int × Int) : SeqAt.shaped (prD p) = true := by simp [SeqAt.shaped, prD, PyData.canLay0, PyData.canLayAll0, PyData.depth, PyData.depthAll]
/-- an order as data -/
def ordD (n : Int) (ps : List (Int × Int)) : PyData := .tuple [.int n, .tuple (psD ps)]
theorem sh_ord (n : Int) (ps : List (Int × Int)) : SeqAt.shaped (ordD n ps) = true := by
  obtain ⟨h1, h2⟩ := lay_ps ps
  simp [SeqAt.shaped, ordD, PyData.canLay0, PyData.canLayAll0, PyData.depth, PyData.depthAll, h1]
  omega
theorem eqv_pr (p q : Int × Int) : PyData.eqv (prD p) (prD q) = (p == q) := by
  simp only [prD, PyData.eqv, PyData.eqvAll, Bool.and_true]
  rfl
theorem eqv_ns : ∀ ns ms : List Int, PyData.eqvAll (nsD ns) (nsD ms) = (ns == ms)
  | [], [] => by simp [PyData.eqvAll]
  | [], _ :: _ => by simp [PyData.eqvAll]
  | _ :: _, [] => by simp [PyData.eqvAll]
  | n :: ns, m :: ms => by
    simp only [List.map_cons, PyData.eqvAll, PyData.eqv]
    rw [eqv_ns ns ms]
    rfl
theorem eqv_ps : ∀ ps qs : List (Int × Int), PyData.eqvAll (psD ps) (psD qs) = (ps == qs)
  | [], [] => by simp [PyData.eqvAll]
  | [], _ :: _ => by simp [PyData.eqvAll]
  | _ :: _, [] => by simp [PyData.eqvAll]
  | p :: ps, q :: qs => by
    simp only [List.map_cons, PyData.eqvAll, eqv_pr]
    rw [eqv_ps ps qs]
    rfl
theorem any_pr (ps : List (Int × Int)) (p : Int × Int) : anyEq (psD ps) (prD p) = decide (p ∈ ps) := by
  unfold anyEq
  rw [List.any_map]
  have : ((fun z => PyData.eqv z (prD p)) ∘ prD) = fun q => q == p := by
    funext q
    exact eqv_pr q p
  rw [this, Bool.eq_iff_iff, List.any_eq_true, decide_eq_true_eq]
  constructor
  · rintro ⟨q, hq, e⟩
    rw [← eq_of_beq e]
    exact hq
  · exact fun h => ⟨p, h, beq_self_eq_true p⟩
end Dn

/-! Den17: orders as data, comprehensions over them. -/
namespace Dn
open PySem PySem.Spec L2
open PyProof.Rows hiding St
theorem ok_of_wp {α : Type} {c : Out α} {a : α} (h : c.wp (fun r => r = a) fun _ => False) : c = .ok a := by
  cases c with
  | ok b => exact congrArg Out.ok h
  | exc x => exact h.elim
  | stuck => exact h.elim
  | any _ => exact h.elim
  | exs _ _ => exact h.elim
/-- a run, not to be taken apart by itself -/
@[irreducible] def Tx.go (T : Tx) (n : Nat) : Calls := T.run n
theorem go_run (T : Tx) (n : Nat) : T.go n = T.run n := by
  unfold Tx.go
  rfl
theorem go_at (T : Tx) {x : Str} {d : DefI} (h : T.find x = some d) (n : Nat) (as : List Slot) : T.go (n + 1) x as = dBody d.ps.length d.N.length d.b (T.go n) as := by
  rw [go_run, go_run]
  exact run_at T h n as
theorem of_wp {α : Type} {c : Out α} {P : α → Prop} (h : c.wp P fun _ => False) : ∃ r, c = .ok r ∧ P r := by
  cases c with
  | ok a => exact ⟨a, rfl, h⟩
  | exc x => exact h.elim
  | stuck => exact h.elim
  | any _ => exact h.elim
  | exs _ _ => exact h.elim
theorem psD_get {ps : List (Int × Int)} {i : Nat} {d : PyData} (h : (psD ps)[i]? = some d) : ∃ p, ps[i]? = some p ∧ p ∈ ps ∧ d = prD p := by
  unfold psD at h
  rw [List.getElem?_map] at h
  obtain ⟨p, hp, e⟩ := Option.map_eq_some_iff.mp h
  exact ⟨p, hp, List.mem_of_getElem? hp, e.symm⟩
theorem x_ninT (ps : List (Int × Int)) (i j : Int) : pNin [.tuple [.int i, .int j], .tuple (psD ps)] = some (.val (.bool (!decide ((i, j) ∈ ps)))) := by
  have h1 := sh_pr (i, j)
  have h2 := sh_psT ps
  have h3 := any_pr ps (i, j)
  unfold prD at h1 h3
  unfold pNin
  simp only [h1, h2, h3, Bool.and_self, if_true]
theorem x_inT (ps : List (Int × Int)) (i j : Int) : pIn [.tuple [.int i, .int j], .tuple (psD ps)] = some (.val (.bool (decide ((i, j) ∈ ps)))) := by
  have h1 := sh_pr (i, j)
  have h2 := sh_psT ps
  have h3 := any_pr ps (i, j)
  unfold prD at h1 h3
  unfold pIn
  simp only [h1, h2, h3, Bool.and_self, if_true]
theorem lcL_enc {α : Type} {f : PyData → Env → Out (Option PyData × Env)} {ρ : Env} (enc : α → PyData) (h : α → PyData) : ∀ (xs : List α), (∀ x ∈ xs, f (enc x) ρ = .ok (some (h x), ρ)) → lcL f (xs.map enc) ρ = .ok (xs.map h, ρ)
  | [], _ => rfl
  | x :: xs, hf => by
    show (f (enc x) ρ).bind _ = _
    rw [hf x List.mem_cons_self, ok_bind, lcL_enc enc h xs fun y hy => hf y (List.mem_cons_of_mem _ hy)]
    rfl
/-- with a test -/
theorem lcL_enc2 {α : Type} {f : PyData → Env → Out (Option PyData × Env)} {ρ : Env} (enc : α → PyData) (c : α → Bool) (h : α → PyData) : ∀ (xs : List α), (∀ x ∈ xs, f (enc x) ρ = .ok (if c x then some (h x) else none, ρ)) → lcL f (xs.map enc) ρ = .ok ((xs.filter c).map h, ρ)
  | [], _ => rfl
  | x :: xs, hf => by
    show (f (enc x) ρ).bind _ = _
    rw [hf x List.mem_cons_self, ok_bind, lcL_enc2 enc c h xs fun y hy => hf y (List.mem_cons_of_mem _ hy)]
    rw [List.filter_cons]
    cases c x <;> rfl
theorem x_all {α : Type} (xs : List α) (b : α → Bool) : pAll [.list (xs.map fun x => .bool (b x))] = some (.val (.bool (xs.all b))) := by
  have : (xs.map fun x => PyData.bool (b x)) = (xs.map b).map .bool := by rw [List.map_map]; rfl
  rw [this]
  show Option.map (fun bs : List Bool => Slot.val (PyData.bool (bs.all id))) (boolsOf ((xs.map b).map PyData.bool)) = _
  rw [boolsOf_map]
  simp
theorem beq_dec {α : Type} [BEq α] [LawfulBEq α] [DecidableEq α] (a b : α) : (a == b) = decide (a = b) := by
  rw [Bool.eq_iff_iff]
  simp
theorem x_eqPL (ps qs : List (Int × Int)) : pEq [.list (psD ps), .list (psD qs)] = some (.val (.bool (decide (ps = qs)))) := by
  unfold pEq
  simp only [sh_psL, PyData.eqv, eqv_ps, Bool.and_self, if_true, beq_dec]
theorem x_nePL (ps qs : List (Int × Int)) : pNe [.list (psD ps), .list (psD qs)] = some (.val (.bool (!decide (ps = qs)))) := by
  unfold pNe
  simp only [sh_psL, PyData.eqv, eqv_ps, Bool.and_self, if_true, beq_dec]
theorem x_ssT64 (ps : List (Int × Int)) (h : smallP ps = true) (h2 : (dedP ps).length ≤ 64) : pSortSet (.tuple (psD ps)) = some (psD (setSort ps)) := by
  simp [pSortSet, coreSS, pairsOf_map, h, h2]
theorem x_ssT (ps : List (Int × Int)) (h : smallP ps = true) (h2 : (dedP ps).length ≤ 62) : pSortSet (.tuple (psD ps)) = some (psD (setSort ps)) := x_ssT64 ps h (by omega)
theorem x_ssL64 (ps : List (Int × Int)) (h : smallP ps = true) (h2 : (dedP ps).length ≤ 64) : pSortSet (.list (psD ps)) = some (psD (setSort ps)) := by
  simp [pSortSet, coreSS, pairsOf_map, h, h2]
/-- pairs within n -/
def inN (n : Int) (ps : List (Int × Int)) : Prop := ∀ p ∈ ps, 0 ≤ p.1 ∧ p.1 < n ∧ 0 ≤ p.2 ∧ p.2 < n
theorem inN_small {n : Int} {ps : List (Int × Int)} (h : inN n ps) (hn : n ≤ 64) : smallP ps = true := by
  unfold smallP
  rw [List.all_eq_true]
  intro p hp
  have := h p hp
  simp only [Bool.and_eq_true, decide_eq_true_eq]
  omega
/-- a sorted list without doubles is its own set -/
theorem setSort_self {ps : List (Int × Int)} (nd : ps.Nodup) (st : ps.Pairwise fun a b => lexP a b = true) : setSort ps = ps := (setSort_eq (ps := ps) (fun _ => Iff.rfl) nd st).symm
theorem dedP_of {ps : List (Int × Int)} (nd : ps.Nodup) : (dedP ps).length = ps.length := by
  have h1 := nodup_len _ _ (dedP_nodup ps) fun x hx => (dedP_mem ps).mp hx
  have h2 := nodup_len _ _ nd fun x hx => (dedP_mem ps).mpr hx
  omega
/-- an order -/
structure IsOrd (n : Int) (ps : List (Int × Int)) : Prop where
  lo : 1 ≤ n
  hi : n ≤ 8
  bd : inN n ps
  nd : ps.Nodup
  st : ps.Pairwise fun a b => lexP a b = true
  irr : ∀ p ∈ ps, p.1 ≠ p.2
  tr : ∀ p ∈ ps, ∀ q ∈ ps, p.2 = q.1 → (p.1, q.2) ∈ ps
def allPairs : List (Int × Int) := ((List.range 8).flatMap fun i : Nat => (List.range 8).map fun j : Nat => ((i : Int), (j : Int))).filter fun p => p.1 ≠ p.2
theorem IsOrd.len {n : Int} {ps : List (Int × Int)} (h : IsOrd n ps) : ps.length ≤ 56 := by
  have e : allPairs.length = 56 := by decide +kernel
  rw [← e]
  refine nodup_len _ _ h.nd fun p hp => ?_
  have b := h.bd p hp
  have i := h.irr p hp
  have := h.hi
  unfold allPairs
  rw [List.mem_filter, List.mem_flatMap]
  refine ⟨⟨p.1.toNat, List.mem_range.mpr (by omega), List.mem_map.mpr ⟨p.2.toNat, List.mem_range.mpr (by omega), ?_⟩⟩, by simpa using i⟩
  exact Prod.ext (by simp; omega) (by simp; omega)
end Dn

/-! Den18: sorting pairs, places, rows told. -/
namespace Dn
open PySem PySem.Spec L2
open PyProof.Rows hiding St
def sortP (ps : List (Int × Int)) : List (Int × Int) := ps.mergeSort lexP
theorem x_addPL (ps qs : List (Int × Int)) (h : ps.length + qs.length ≤ 1000000) : pAdd [.list (psD ps), .list (psD qs)] = some (.own (psD (ps ++ qs))) := by
  show (if (psD ps).length + (psD qs).length ≤ 1000000 then some (Slot.own (psD ps ++ psD qs)) else none) = _
  rw [if_pos (by simpa using h)]
  simp
theorem x_neLL (ns ms : List Int) : pNe [.list (nsD ns), .list (nsD ms)] = some (.val (.bool (!decide (ns = ms)))) := by
  unfold pNe
  simp only [sh_nsL, PyData.eqv, eqv_ns, Bool.and_self, if_true, beq_dec]
theorem x_neL0 (ns : List Int) : pNe [.list (nsD ns), .list []] = some (.val (.bool (!decide (ns = [])))) := x_neLL ns []
/-- rows as data -/
abbrev rsD (rs : List (List Int)) : List PyData := rs.map fun r => .tuple (nsD r)
/-- what all rows tell -/
def tells (rs : List (List Int)) (p : Int × Int) : Bool := decide (p.1 ≠ p.2) && rs.all fun r => decide (r.idxOf p.1 < r.idxOf p.2)
def gridP (n : Nat) : List (Int × Int) := (List.range n).flatMap fun a : Nat => (List.range n).map fun b : Nat => ((a : Int), (b : Int))
def toldP (n : Nat) (rs : List (List Int)) : List (Int × Int) := (gridP n).filter (tells rs)
theorem mem_grid {n : Nat} {p : Int × Int} : p ∈ gridP n ↔ 0 ≤ p.1 ∧ p.1 < n ∧ 0 ≤ p.2 ∧ p.2 < n := by
  unfold gridP
  rw [List.mem_flatMap]
  constructor
  · rintro ⟨a, ha, h⟩
    obtain ⟨b, hb, rfl⟩ := List.mem_map.mp h
    rw [List.mem_range] at ha hb
    simp only
    omega
  · intro h
    exact ⟨p.1.toNat, List.mem_range.mpr (by omega), List.mem_map.mpr ⟨p.2.toNat, List.mem_range.mpr (by omega), Prod.ext (by simp; omega) (by simp; omega)⟩⟩
theorem grid_sorted (n : Nat) : (gridP n).Pairwise fun p q => p.1 < q.1 ∨ (p.1 = q.1 ∧ p.2 < q.2) := by
  unfold gridP
  rw [List.pairwise_flatMap]
  constructor
  · intro a _
    rw [List.pairwise_map]
    refine List.Pairwise.imp (fun {x y} h => ?_) (List.pairwise_lt_range (n := n))
    right
    exact ⟨rfl, by simpa using h⟩
  · refine List.Pairwise.imp (fun {x y} h p hp q hq => ?_) (List.pairwise_lt_range (n := n))
    obtain ⟨b, _, rfl⟩ := List.mem_map.mp hp
    obtain ⟨c, _, rfl⟩ := List.mem_map.mp hq
    left
    simpa using h
theorem erase_map {α β : Type} (f : α → β) : ∀ (l : List α) (k : Nat), (l.map f).eraseIdx k = (l.eraseIdx k).map f
  | [], k => by cases k <;> rfl
  | a :: l, 0 => rfl
  | a :: l, k + 1 => congrArg (f a :: ·) (erase_map f l k)
theorem erase_perm {α : Type} : ∀ (l : List α) (k : Nat) (h : k < l.length), (l[k] :: l.eraseIdx k).Perm l
  | a :: l, 0, _ => List.Perm.refl _
  | a :: l, k + 1, h => by
    have ih := erase_perm l k (by simpa using h)
    exact (List.Perm.swap a _ _).trans (List.Perm.cons a ih)
/-- place i of a list goes out -/
theorem popAt_ns (l : List Int) (i : Int) (h : 0 ≤ i) (h2 : i < l.length) (h3 : l.length ≤ 1000000) : ∃ v, mPopAt (nsD l) [.int i] = some (.int v, nsD (l.eraseIdx i.toNat)) ∧ (v :: l.eraseIdx i.toNat).Perm l := by
  have lt : i.toNat < l.length := by omega
  refine ⟨l[i.toNat], ?_, ?_⟩
  · have e1 : seqIndex? i (nsD l).length = some i.toNat := by
      rw [List.length_map]
      unfold seqIndex?
      simp
      omega
    have e2 : (nsD l)[i.toNat]? = some (.int l[i.toNat]) := by
      rw [List.getElem?_map, List.getElem?_eq_getElem lt]
      rfl
    show (if (decide (-(2 ^ 62) ≤ i) && decide (i < 2 ^ 62)) = true then (seqIndex? i (nsD l).length).bind fun k => ((nsD l)[k]?).map fun d => (d, (nsD l).eraseIdx k) else none) = _
    rw [if_pos (by rw [Bool.and_eq_true, decide_eq_true_eq, decide_eq_true_eq]; omega), e1]
    show ((nsD l)[i.toNat]?).map _ = _
    rw [e2]
    show some (PyData.int _, (l.map PyData.int).eraseIdx i.toNat) = _
    rw [erase_map]
  · exact erase_perm l _ lt
theorem x_app (ds : List PyData) (d : PyData) (h : ds.length < 1000000) : mAppend ds [d] = some (.none, ds ++ [d]) := by
  show (if ds.length < 1000000 then some (PyData.none, ds ++ [d]) else none) = _
  rw [if_pos h]
theorem x_ext (ds es : List PyData) (h : ds.length + es.length ≤ 1000000) : mExtend ds [.list es] = some (.none, ds ++ es) := by
  show (if ds.length + es.length ≤ 1000000 then some (PyData.none, ds ++ es) else none) = _
  rw [if_pos h]
def kLoop (f : PyData → Env → Out (Fl × Env)) (ds : List PyData) : Fl × Env → Out (Fl × Env) := fun r => match r.1 with
  | .nx => forL f ds r.2
  | .cnt => forL f ds r.2
  | .brk => .ok (.nx, r.2)
  | .ret s => .ok (.ret s, r.2)
section
variable {f : PyData → Env → Out (Fl × Env)} {d : PyData} {ds : List PyData} {ρ : Env} {sl : Slot}
@[simp] theorem x_loop1 : kLoop f ds (.nx, ρ) = forL f ds ρ := id rfl
@[simp] theorem x_loop2 : kLoop f ds (.cnt, ρ) = forL f ds ρ := id rfl
@[simp] theorem x_loop3 : kLoop f ds (.brk, ρ) = .ok (.nx, ρ) := id rfl
@[simp] theorem x_loop4 : kLoop f ds (.ret sl, ρ) = .ok (.ret sl, ρ) := id rfl
end
theorem x_ord0 (m : Int) (ps : List (Int × Int)) : pIx [ordD m ps, .int 0] = some (.val (.int m)) := rfl
theorem x_ord1 (m : Int) (ps : List (Int × Int)) : pIx [ordD m ps, .int 1] = some (.val (.tuple (psD ps))) := rfl
theorem small_in {i : Int} (h : 0 ≤ i) (h2 : i ≤ 1000000) : small62 i = true := by
  have a : -(2 ^ 62) ≤ i := by omega
  have b : i < 2 ^ 62 := by omega
  unfold small62
  rw [decide_eq_true a, decide_eq_true b]
  rfl
end Dn

/-! Den19: the greatest list of members that all go together (plain Lean, no program in sight). -/
namespace Dn
variable {α : Type}
def clq (c : α → α → Bool) : List α → Nat
  | [] => 0
  | t :: l => max (clq c l) (1 + clq c (l.filter (c t)))
termination_by l => l.length
decreasing_by
  · simp
  · have h := List.length_filter_le (fun x : {x // x ∈ l} => c t x.val) l.attach
    rw [List.length_attach] at h
    simp only [List.length_unattach, List.length_cons]
    exact Nat.lt_succ_of_le h
theorem nodup_sub_len [BEq α] [LawfulBEq α] : ∀ (s l : List α), s.Nodup → (∀ x ∈ s, x ∈ l) → s.length ≤ l.length := by
  intro s
  induction s with
  | nil => intro l _ _; exact Nat.zero_le _
  | cons t s ih =>
    intro l nd h
    have ⟨n1, n2⟩ := List.nodup_cons.mp nd
    have ht := h t List.mem_cons_self
    have := ih (l.erase t) n2 fun x hx => (List.mem_erase_of_ne (fun e => n1 (by rw [← e]; exact hx))).mpr (h x (List.mem_cons_of_mem _ hx))
    have e := List.length_erase_of_mem ht
    have pos := List.length_pos_of_mem ht
    rw [List.length_cons]
    omega
end Dn

/-! Den21: rows of growing lists; row number k holds the pairwise lists of length k (plain Lean). -/
namespace Dn
def addsTo (c : Nat → Nat → Bool) (s : List Nat) (t : Nat) : Bool := s.all fun a => decide (a < t) && c a t
def grow (c : Nat → Nat → Bool) (m : Nat) (row : List (List Nat)) : List (List Nat) := row.flatMap fun s => ((List.range m).filter (addsTo c s)).map fun t => s ++ [t]
def lev (c : Nat → Nat → Bool) (m : Nat) : Nat → List (List Nat)
  | 0 => [[]]
  | k + 1 => grow c m (lev c m k)
end Dn

/-! Den22: turns of an order and its sharp turns: their greatest crossing lists are of one length (plain Lean). -/
namespace Dn
abbrev PrI := Int × Int
def apartB (ps : List PrI) (a b : Int) : Bool := decide (a ≠ b) && (decide ((a, b) ∉ ps) && decide ((b, a) ∉ ps))
def onB (ps : List PrI) (p q : PrI) : Bool := decide (p.1 = q.2) || decide ((p.1, q.2) ∈ ps)
def crossB (ps : List PrI) (p q : PrI) : Bool := onB ps p q && onB ps q p
def sharpB (ps : List PrI) (p : PrI) : Bool := (ps.filter fun q => decide (q.2 = p.1)).all (fun q => decide ((q.1, p.2) ∈ ps)) && (ps.filter fun q => decide (q.1 = p.2)).all fun q => decide ((p.1, q.2) ∈ ps)
theorem apartB_iff {ps : List PrI} {a b : Int} : apartB ps a b = true ↔ a ≠ b ∧ (a, b) ∉ ps ∧ (b, a) ∉ ps := by
  unfold apartB
  rw [Bool.and_eq_true, Bool.and_eq_true, decide_eq_true_eq, decide_eq_true_eq, decide_eq_true_eq]
section
variable {ps : List PrI} (irr : ∀ p ∈ ps, p.1 ≠ p.2) (tr : ∀ p ∈ ps, ∀ q ∈ ps, p.2 = q.1 → (p.1, q.2) ∈ ps)
include irr tr
end
end Dn

/-! Den23: small laws of data that many texts use: pairs by rows, lists of lists, slices, greatest and least. -/
namespace Dn
open PySem PySem.Spec L2
open PyProof.Rows hiding St
@[simp] theorem x_neg1 {k : Int} : pNeg [.int k] = some (.val (.int (-k))) := id rfl
def isW : PyData → Bool
  | .int _ => true
  | _ => false
def rowP (m i : Nat) : List (Int × Int) := (List.range m).map fun b : Nat => ((i : Int), (b : Int))
def partP (m i : Nat) : List (Int × Int) := (List.range i).flatMap fun a : Nat => rowP m a
theorem part_succ (m i : Nat) : partP m (i + 1) = partP m i ++ rowP m i := by
  unfold partP
  rw [List.range_succ, List.flatMap_append]
  simp
theorem row_len (m i : Nat) : (rowP m i).length = m := by simp [rowP]
theorem part_len (m i : Nat) : (partP m i).length = i * m := by
  induction i with
  | zero => simp [partP]
  | succ i ih => rw [part_succ, List.length_append, ih, Nat.succ_mul, row_len]
def upTo (m : Nat) : List Int := (List.range m).map fun i : Nat => (i : Int)
theorem upTo_len (m : Nat) : (upTo m).length = m := by simp [upTo]
theorem mem_upTo {m : Nat} {x : Int} : x ∈ upTo m ↔ 0 ≤ x ∧ x < m := by
  unfold upTo
  rw [List.mem_map]
  constructor
  · rintro ⟨i, hi, rfl⟩
    rw [List.mem_range] at hi
    omega
  · intro h
    exact ⟨x.toNat, List.mem_range.mpr (by omega), by omega⟩
theorem upTo_nd (m : Nat) : (upTo m).Nodup := by
  unfold upTo
  exact List.Pairwise.map _ (fun a b h e => h (by omega)) (List.nodup_range (n := m))
theorem rng_upTo (m : Nat) : rngD 0 m = nsD (upTo m) := by
  rw [rngD_map]
  unfold upTo
  simp
theorem x_max2 (a b : Nat) : pMax [.int a, .int b] = some (.val (.int (max a b : Nat))) := by
  show some (Slot.val (PyData.int (if (b : Int) > a then (b : Int) else a))) = _
  congr 3
  split <;> omega
theorem x_min2 (a b : Nat) : pMin [.int a, .int b] = some (.val (.int (min a b : Nat))) := by
  show some (Slot.val (PyData.int (if (b : Int) < a then (b : Int) else a))) = _
  congr 3
  split <;> omega
theorem x_maxmin1 (k c : Nat) : pMin [.int k, .int c] = some (.val (.int (min k c : Nat))) ∧ pMax [.int 1, .int (min k c : Nat)] = some (.val (.int (max 1 (min k c) : Nat))) := ⟨x_min2 k c, x_max2 1 _⟩
/-! ### enumerate, slices -/
/-! ### lists of things, lists of such -/
abbrev nlD (s : List Nat) : List PyData := s.map fun i : Nat => .int (i : Int)
abbrev lsD (ls : List (List Nat)) : List PyData := ls.map fun s => .list (nlD s)
theorem nlD_ns (s : List Nat) : nlD s = nsD (s.map fun i : Nat => (i : Int)) := by
  unfold nlD nsD
  rw [List.map_map]
  rfl
theorem sh_nil : SeqAt.shaped (.list []) = true := by decide
theorem x_eqNl0 (s : List Nat) : pEq [.list (nlD s), .list []] = some (.val (.bool (decide (s = [])))) := by
  unfold pEq
  have h := sh_nsL (s.map fun i : Nat => (i : Int))
  rw [← nlD_ns] at h
  simp only [h, sh_nil, Bool.and_self, if_true]
  cases s <;> simp [PyData.eqv, PyData.eqvAll]
theorem x_last {α : Type} (xs : List α) (z : α) : atI (xs ++ [z]) (-1) = some z := by
  unfold atI ixN
  rw [if_neg (by decide)]
  have e : ((xs ++ [z]).length : Int) = xs.length + 1 := by simp
  rw [if_pos (by omega)]
  have e2 : ((-1 : Int) + ((xs ++ [z]).length : Int)).toNat = xs.length := by omega
  show (xs ++ [z])[((-1 : Int) + ((xs ++ [z]).length : Int)).toNat]? = some z
  rw [e2]
  simp
/-- how many lists there are -/
def subs {α : Type} : List α → List (List α)
  | [] => [[]]
  | a :: l => subs l ++ (subs l).map (a :: ·)
def levs (c : Nat → Nat → Bool) (m j : Nat) : List (List Nat) := (List.range j).flatMap (lev c m)
/-- the first of the longest -/
def bestOf (b : List Nat) (l : List (List Nat)) : List Nat := l.foldl (fun b s => if b.length < s.length then s else b) b
end Dn

/-! Den24: an own name handed over ahead of arguments that change it; `is` of truths. -/
namespace Dn
open PySem PySem.Spec L2
open PyProof.Rows hiding St
/-- a name that owns a list, lent behind the arguments after it -/
def asLate (i : Nat) (r : DenA) : DenA := fun Φ ρ => if isOwnL ρ i then ((r Φ ρ).bind fun y => match y.2[i]? with
  | some (.own ds) => .ok ((some i, .own ds) :: y.1, y.2.set i .un)
  | _ => .stuck) else asVar i r Φ ρ
section
variable {Γ : Ctx} {e : Expr} {es : List Expr} {d : DenOs} {r : DenA} {p : Bool} {pos : Pos}
variable {B : Bd} {F H : Hp} {ρ : Env} {σ : St}
/-! ### is, of truths -/
def pIsB : Prim
  | [.bool a, .bool b] => some (.val (.bool (decide (a = b))))
  | _ => none
def pIsNB : Prim
  | [.bool a, .bool b] => some (.val (.bool (!decide (a = b))))
  | _ => none
variable {a b : Expr}
end
/-! ### step by step -/
section
variable {Φ : Calls} {ρ : Env} {i : Nat} {r : DenA} {la : List (Option Nat × Slot)} {ds : List PyData} {u v : Bool}
def kLate2 (o : Option Slot) (i : Nat) (la : List (Option Nat × Slot)) (ρ : Env) : Out (List (Option Nat × Slot) × Env) := match o with
  | some (.own ds) => .ok ((some i, .own ds) :: la, ρ.set i .un)
  | _ => .stuck
def kLate (i : Nat) : List (Option Nat × Slot) × Env → Out (List (Option Nat × Slot) × Env) := fun y => kLate2 (y.2[i]?) i y.1 y.2
def lateG (o : Option Slot) (i : Nat) (r : DenA) (Φ : Calls) (ρ : Env) : Out (List (Option Nat × Slot) × Env) := match o with
  | some (.own _) => (r Φ ρ).bind (kLate i)
  | _ => aVar o i r Φ ρ
@[simp] theorem x_asLate : asLate i r Φ ρ = lateG (ρ[i]?) i r Φ ρ := by
  unfold asLate isOwnL lateG
  cases h : ρ[i]? with
  | none => simp [h]
  | some s => cases s <;> simp [h] <;> rfl
@[simp] theorem x_lateG1 : lateG (some (.own ds)) i r Φ ρ = (r Φ ρ).bind (kLate i) := id rfl
@[simp] theorem x_lateG2 {d : PyData} : lateG (some (.val d)) i r Φ ρ = (r Φ ρ).bind (kAs (none, .val d)) := id rfl
@[simp] theorem x_lateG3 {ns : List Int} : lateG (some (.scr ns)) i r Φ ρ = (r Φ ρ).bind (kAs (none, .scr ns)) := id rfl
@[simp] theorem x_asLate1 : kLate i (la, ρ) = kLate2 (ρ[i]?) i la ρ := id rfl
@[simp] theorem x_asLate2 : kLate2 (some (.own ds)) i la ρ = .ok ((some i, .own ds) :: la, ρ.set i .un) := id rfl
@[simp] theorem x_isB : pIsB [.bool u, .bool v] = some (.val (.bool (decide (u = v)))) := id rfl
@[simp] theorem x_isNB : pIsNB [.bool u, .bool v] = some (.val (.bool (!decide (u = v)))) := id rfl
end
end Dn

/-! Den25: repr of data without dicts; how long it can be. -/
namespace Dn
open PySem PySem.Spec L2
open PyProof.Rows hiding St
mutual
/-- a bound for the length of the text -/
def wt : PyData → Nat
  | .none => 10
  | .bool _ => 10
  | .int _ => 2000
  | .str x => (reprText x).length
  | .list ds => wtAll ds + 10
  | .tuple ds => wtAll ds + 10
  | .dict es => wtKv es + 10
def wtAll : List PyData → Nat
  | [] => 0
  | d :: ds => wt d + 2 + wtAll ds
def wtKv : List (PyData × PyData) → Nat
  | [] => 0
  | (k, d) :: ds => wt k + wt d + 6 + wtKv ds
end
mutual
theorem shown_wt : ∀ d : PyData, d.showable = true → d.shown.length ≤ wt d
  | .none, _ => by unfold wt; simp only [PyData.shown]; decide +kernel
  | .bool b, _ => by unfold wt; simp only [PyData.shown]; cases b <;> decide +kernel
  | .int i, h => by
    unfold wt
    have := int_text_len_1921 (i := i) (by simpa [PyData.showable] using h)
    simp only [PyData.shown]
    exact Nat.le_trans this (by decide)
  | .str x, _ => by unfold wt; simp only [PyData.shown]; exact Nat.le_refl _
  | .list ds, h => by
    have h1 := shown_wtAll ds (by simpa [PyData.showable] using h)
    have h2 := listText_len_le (PyData.shownAll ds)
    unfold wt
    simp only [PyData.shown]
    omega
  | .tuple ds, h => by
    have h1 := shown_wtAll ds (by simpa [PyData.showable] using h)
    have h2 := tupleText_len_le (PyData.shownAll ds)
    unfold wt
    simp only [PyData.shown]
    omega
  | .dict es, h => by
    have h1 := shown_wtKv es (by simpa [PyData.showable] using h)
    have h2 := dictText_len_le (PyData.shownKv es)
    unfold wt
    simp only [PyData.shown]
    omega
theorem shown_wtAll : ∀ ds : List PyData, PyData.showableAll ds = true → ((PyData.shownAll ds).map (·.length)).sum + 2 * (PyData.shownAll ds).length ≤ wtAll ds
  | [], _ => by simp [PyData.shownAll]
  | d :: ds, h => by
    simp only [PyData.showableAll, Bool.and_eq_true] at h
    have h1 := shown_wt d h.1
    have h2 := shown_wtAll ds h.2
    unfold wtAll
    simp only [PyData.shownAll, List.map_cons, List.sum_cons, List.length_cons]
    omega
theorem shown_wtKv : ∀ ds : List (PyData × PyData), PyData.showableKv ds = true → ((PyData.shownKv ds).map (·.length)).sum + 2 * (PyData.shownKv ds).length ≤ wtKv ds
  | [], _ => by simp [PyData.shownKv]
  | (k, d) :: ds, h => by
    simp only [PyData.showableKv, Bool.and_eq_true] at h
    have h0 := shown_wt k h.1.1
    have h1 := shown_wt d h.1.2
    have h2 := shown_wtKv ds h.2
    have h3 : (k.shown ++ ": " ++ d.shown).length = k.shown.length + 2 + d.shown.length := by
      rw [strLen_append, strLen_append]
      rfl
    unfold wtKv
    simp only [PyData.shownKv, List.map_cons, List.sum_cons, List.length_cons]
    rw [h3]
    omega
end
/-! ### how data is read, dicts among it -/
def atomK : PyData → Bool
  | .int _ => true
  | .str _ => true
  | _ => false
mutual
/-- no dict within, or keys that are whole numbers and texts -/
def rdB : PyData → Bool
  | .list ds => rdAll ds
  | .tuple ds => rdAll ds
  | .dict es => rdKv es
  | _ => true
def rdAll : List PyData → Bool
  | [] => true
  | d :: ds => rdB d && rdAll ds
def rdKv : List (PyData × PyData) → Bool
  | [] => true
  | (k, d) :: ds => atomK k && rdB d && rdKv ds
end
mutual
def flatB : PyData → Bool
  | .list _ => false
  | .tuple ds => flatAll ds
  | .dict es => flatKv es
  | _ => true
def flatAll : List PyData → Bool
  | [] => true
  | d :: ds => flatB d && flatAll ds
def flatKv : List (PyData × PyData) → Bool
  | [] => true
  | (_, d) :: ds => flatB d && flatKv ds
end
mutual
theorem rd_lay : ∀ d : PyData, d.canLay0 = true → rdB d = true
  | .none, _ => by simp [rdB]
  | .bool _, _ => by simp [rdB]
  | .int _, _ => by simp [rdB]
  | .str _, _ => by simp [rdB]
  | .list ds, h => by simpa [rdB] using rd_layAll ds (by simpa [PyData.canLay0] using h)
  | .tuple ds, h => by simpa [rdB] using rd_layAll ds (by simpa [PyData.canLay0] using h)
  | .dict _, h => by simp [PyData.canLay0] at h
theorem rd_layAll : ∀ ds : List PyData, PyData.canLayAll0 ds = true → rdAll ds = true
  | [], _ => by simp [rdAll]
  | d :: ds, h => by
    simp only [PyData.canLayAll0, Bool.and_eq_true] at h
    simp [rdAll, rd_lay d h.1, rd_layAll ds h.2]
end
/-! ### data read, its dicts apart from the modules' table -/
mutual
inductive RdS (h : Heap) : Value → PyData → Prop
  | none : RdS h .none .none
  | bool (b : Bool) : RdS h (.bool b) (.bool b)
  | int (i : Int) (t : Tok) : RdS h (.int i t) (.int i)
  | str (x : Str) (t : Tok) : RdS h (.str x t) (.str x)
  | list {a : Addr} {o : Obj} {vs : Array Value} {n : Nat} {xs : List PyData} : h.get? a = some o → o.cls = .type "list" → o.data = .seq vs n → RdSAll h vs.toList xs → RdS h (.ref a) (.list xs)
  | tuple {a : Addr} {o : Obj} {vs : Array Value} {n : Nat} {xs : List PyData} : h.get? a = some o → o.cls = .type "tuple" → o.data = .seq vs n → RdSAll h vs.toList xs → RdS h (.ref a) (.tuple xs)
  | dict {a : Addr} {o : Obj} {es : Array DictEntry} {n : Nat} {kvs : List (PyData × PyData)} : (a == sysModules) = false → h.get? a = some o → o.cls = .type "dict" → o.data = .dict es n → RdSAll h (es.toList.map (·.key)) (kvs.map (·.1)) →
      RdSAll h (es.toList.map (·.val)) (kvs.map (·.2)) → RdS h (.ref a) (.dict kvs)
inductive RdSAll (h : Heap) : List Value → List PyData → Prop
  | nil : RdSAll h [] []
  | cons {v : Value} {vs : List Value} {d : PyData} {ds : List PyData} : RdS h v d → RdSAll h vs ds → RdSAll h (v :: vs) (d :: ds)
end
mutual
theorem RdS.reads {h : Heap} : ∀ {v : Value} {d : PyData}, RdS h v d → ∃ as, Reads h v d as
  | _, _, .none => ⟨_, .none⟩
  | _, _, .bool b => ⟨_, .bool b⟩
  | _, _, .int i t => ⟨_, .int i t⟩
  | _, _, .str x t => ⟨_, .str x t⟩
  | _, _, .list h1 h2 h3 h4 => let ⟨_, q⟩ := h4.reads; ⟨_, .list h1 h2 h3 q⟩
  | _, _, .tuple h1 h2 h3 h4 => let ⟨_, q⟩ := h4.reads; ⟨_, .tuple h1 h2 h3 q⟩
  | _, _, .dict _ h1 h2 h3 h4 h5 => let ⟨_, q⟩ := h4.reads; let ⟨_, q2⟩ := h5.reads; ⟨_, .dict h1 h2 h3 q q2⟩
theorem RdSAll.reads {h : Heap} : ∀ {vs : List Value} {ds : List PyData}, RdSAll h vs ds → ∃ as, ReadsAll h vs ds as
  | _, _, .nil => ⟨_, .nil⟩
  | _, _, .cons h1 h2 => let ⟨_, q⟩ := h1.reads; let ⟨_, q2⟩ := h2.reads; ⟨_, .cons q q2⟩
end
section
variable {prog : Program} {w : World} {h₀ : Heap}
mutual
theorem reprK_of : ∀ {v : Value} {d : PyData}, RdS h₀ v d → d.showable = true → d.shown.length ≤ sizeLine → ∃ bs, ReadAtMost h₀ d.depth bs ∧ ReprK prog w bs h₀ d.depth v d.shown
  | _, _, .none, _, _ => ⟨[], (fun _ h => nomatch h), by simp only [PyData.shown]; exact .of_is ReprIs.none _ _ _⟩
  | _, _, .bool b, _, _ => ⟨[], (fun _ h => nomatch h), by simp only [PyData.shown]; exact .of_is (ReprIs.bool b) _ _ _⟩
  | _, _, .int i t, hs, _ => ⟨[], (fun _ h => nomatch h), by simp only [PyData.shown]; exact .of_is (ReprIs.int t (by simpa [PyData.showable] using hs)) _ _ _⟩
  | _, _, .str x t, _, hz => ⟨[], (fun _ h => nomatch h), by simp only [PyData.shown]; exact .of_is (ReprIs.str x t (by simpa only [PyData.shown] using hz)) _ _ _⟩
  | _, _, .list (a := a) (vs := vs) (xs := xs) h1 h2 h3 h4, hs, hz => by
    have hz' : (listText (PyData.shownAll xs)).length ≤ sizeLine := by simpa only [PyData.shown] using hz
    obtain ⟨bs, hb, hk⟩ := reprAllK_of h4 (by simpa [PyData.showable] using hs) (fun t ht => Nat.le_trans (listText_mem_le ht) hz')
    obtain ⟨_, r⟩ := (RdS.list h1 h2 h3 h4).reads
    have hna : a ∉ bs := not_mem_of_deeper r (by simp only [PyData.depth]; omega) hb
    refine ⟨a :: bs, ReadAtMost.cons r (by simp only [PyData.depth]; omega) hb, ?_⟩
    simp only [PyData.depth, PyData.shown]
    obtain ⟨l⟩ := vs
    cases l with
    | nil =>
      have h4' : RdSAll h₀ [] xs := h4
      cases h4'
      simp only [PyData.shownAll, listText_nil]
      exact ReprK.listEmpty h1 h2 h3
    | cons x l => exact ReprK.list h1 h2 h3 hna (by simpa using hk.length_eq) (fun i y e => hk.item i y (by simpa using e))
  | _, _, .tuple (a := a) (xs := xs) h1 h2 h3 h4, hs, hz => by
    have hz' : (tupleText (PyData.shownAll xs)).length ≤ sizeLine := by simpa only [PyData.shown] using hz
    obtain ⟨bs, hb, hk⟩ := reprAllK_of h4 (by simpa [PyData.showable] using hs) (fun t ht => Nat.le_trans (tupleText_mem_le ht) hz')
    obtain ⟨_, r⟩ := (RdS.tuple h1 h2 h3 h4).reads
    have hna : a ∉ bs := not_mem_of_deeper r (by simp only [PyData.depth]; omega) hb
    refine ⟨a :: bs, ReadAtMost.cons r (by simp only [PyData.depth]; omega) hb, ?_⟩
    simp only [PyData.depth, PyData.shown]
    exact ReprK.tuple h1 h2 h3 hna hk
  | _, _, .dict (a := a) (es := es) (kvs := kvs) hsys h1 h2 h3 h4 h5, hs, hz => by
    have hz' : (dictText (PyData.shownKv kvs)).length ≤ sizeLine := by simpa only [PyData.shown] using hz
    obtain ⟨hs1, hs2⟩ := PyData.showableKv_split kvs (by simpa [PyData.showable] using hs)
    obtain ⟨b1, hb1, k1⟩ := reprAllK_of h4 hs1 (fun t ht => let ⟨p, hp, hl⟩ := PyData.shownKv_key_le kvs t ht; Nat.le_trans hl (Nat.le_trans (dictText_mem_le hp) hz'))
    obtain ⟨b2, hb2, k2⟩ := reprAllK_of h5 hs2 (fun t ht => let ⟨p, hp, hl⟩ := PyData.shownKv_val_le kvs t ht; Nat.le_trans hl (Nat.le_trans (dictText_mem_le hp) hz'))
    obtain ⟨_, r⟩ := (RdS.dict hsys h1 h2 h3 h4 h5).reads
    have hb : ReadAtMost h₀ (PyData.depthKv kvs) (b1 ++ b2) := (hb1.mono (PyData.depthAll_keys_le kvs)).append (hb2.mono (PyData.depthAll_vals_le kvs))
    have hna : a ∉ b1 ++ b2 := not_mem_of_deeper r (by simp only [PyData.depth]; omega) hb
    refine ⟨a :: (b1 ++ b2), ReadAtMost.cons r (by simp only [PyData.depth]; omega) hb, ?_⟩
    simp only [PyData.depth, PyData.shown, PyData.shownKv_eq]
    exact ReprK.dict h1 h2 h3 hsys hna (ReprEntriesK.of_two es.toList _ _
      (k1.more_le (fun b hb => List.mem_append_left _ hb) (PyData.depthAll_keys_le kvs)) (k2.more_le (fun b hb => List.mem_append_right _ hb) (PyData.depthAll_vals_le kvs)))
theorem reprAllK_of : ∀ {vs : List Value} {ds : List PyData}, RdSAll h₀ vs ds → PyData.showableAll ds = true → (∀ t ∈ PyData.shownAll ds, t.length ≤ sizeLine) → ∃ bs, ReadAtMost h₀ (PyData.depthAll ds) bs ∧ ReprAllK prog w bs h₀ (PyData.depthAll ds) vs (PyData.shownAll ds)
  | _, _, .nil, _, _ => ⟨[], (fun _ h => nomatch h), by simp only [PyData.shownAll]; exact .nil⟩
  | _, _, .cons (d := d) (ds := ds) h1 h2, hs, hz => by
    have hs' : d.showable = true ∧ PyData.showableAll ds = true := by simpa [PyData.showableAll] using hs
    obtain ⟨b1, hb1, k1⟩ := reprK_of h1 hs'.1 (hz _ (by simp only [PyData.shownAll]; exact List.mem_cons_self ..))
    obtain ⟨b2, hb2, k2⟩ := reprAllK_of h2 hs'.2 (fun t ht => hz t (by simp only [PyData.shownAll]; exact List.mem_cons_of_mem _ ht))
    have e1 : d.depth ≤ PyData.depthAll (d :: ds) := by simp only [PyData.depthAll]; omega
    have e2 : PyData.depthAll ds ≤ PyData.depthAll (d :: ds) := by simp only [PyData.depthAll]; omega
    refine ⟨b1 ++ b2, (hb1.mono e1).append (hb2.mono e2), ?_⟩
    simp only [PyData.shownAll]
    exact .cons ((k1.more fun b hb => List.mem_append_left _ hb).level_le e1) (k2.more_le (fun b hb => List.mem_append_right _ hb) e2)
end
variable {a : Addr} {d : PyData}
theorem showsBy_of (r : RdS h₀ (.ref a) d) (hs : d.showable = true) (hsz : d.shown.length ≤ sizeLine) : ∃ T idr, ShowsBy prog w h₀ a d T idr := by
  obtain ⟨_, rr⟩ := r.reads
  cases r with
  | list h1 h2 h3 h4 =>
    rename_i o vs n xs
    have hz' : (listText (PyData.shownAll xs)).length ≤ sizeLine := by simpa only [PyData.shown] using hsz
    obtain ⟨bs, hb, hk⟩ := reprAllK_of (prog := prog) (w := w) h4 (by simpa [PyData.showable] using hs) (fun t ht => Nat.le_trans (listText_mem_le ht) hz')
    have hna : a ∉ bs := not_mem_of_deeper rr (by simp only [PyData.depth]; omega) hb
    refine ⟨"list", "list.__repr__", F.slot_list_repr.toG, F.slot_list_str, F.slot_list_format, fun s hk0 => ⟨o, hk0 _ _ h1, h2⟩, fun A E s Q hg hu hk0 hQ => ?_⟩
    simp only [PyData.depth] at hu
    simp only [PyData.shown] at hQ
    obtain ⟨l⟩ := vs
    cases l with
    | nil =>
      have h4' : RdSAll h₀ [] xs := h4
      cases h4'
      simp only [PyData.shownAll, listText_nil] at hQ
      exact call_list_repr_empty ⟨o, hk0 _ _ h1, h2⟩ (hk0 _ _ h1) h3 (hQ s.heap _ _ fun _ _ e => e)
    | cons x l =>
      exact call_list_reprK h1 h2 h3 hna (by simpa using hk.length_eq) (fun i y e => hk.item i y (by simpa using e)) hg (fun b _ => Clear.nil b) hu hk0 hQ hz'
  | tuple h1 h2 h3 h4 =>
    rename_i o vs n xs
    have hz' : (tupleText (PyData.shownAll xs)).length ≤ sizeLine := by simpa only [PyData.shown] using hsz
    obtain ⟨bs, hb, hk⟩ := reprAllK_of (prog := prog) (w := w) h4 (by simpa [PyData.showable] using hs) (fun t ht => Nat.le_trans (tupleText_mem_le ht) hz')
    have hna : a ∉ bs := not_mem_of_deeper rr (by simp only [PyData.depth]; omega) hb
    refine ⟨"tuple", "tuple.__repr__", F.slot_tuple_repr, F.slot_tuple_str, F.slot_tuple_format, fun s hk0 => ⟨o, hk0 _ _ h1, h2⟩, fun A E s Q hg hu hk0 hQ => ?_⟩
    simp only [PyData.depth] at hu
    simp only [PyData.shown] at hQ
    exact call_tuple_reprK h1 h2 h3 hna hk hg (fun b _ => Clear.nil b) hu hk0 hQ hz'
  | dict hsys h1 h2 h3 h4 h5 =>
    rename_i o es n kvs
    have hz' : (dictText (PyData.shownKv kvs)).length ≤ sizeLine := by simpa only [PyData.shown] using hsz
    obtain ⟨hs1, hs2⟩ := PyData.showableKv_split kvs (by simpa [PyData.showable] using hs)
    obtain ⟨b1, hb1, k1⟩ := reprAllK_of (prog := prog) (w := w) h4 hs1 (fun t ht => let ⟨p, hp, hl⟩ := PyData.shownKv_key_le kvs t ht; Nat.le_trans hl (Nat.le_trans (dictText_mem_le hp) hz'))
    obtain ⟨b2, hb2, k2⟩ := reprAllK_of (prog := prog) (w := w) h5 hs2 (fun t ht => let ⟨p, hp, hl⟩ := PyData.shownKv_val_le kvs t ht; Nat.le_trans hl (Nat.le_trans (dictText_mem_le hp) hz'))
    have hb : ReadAtMost h₀ (PyData.depthKv kvs) (b1 ++ b2) := (hb1.mono (PyData.depthAll_keys_le kvs)).append (hb2.mono (PyData.depthAll_vals_le kvs))
    have hna : a ∉ b1 ++ b2 := not_mem_of_deeper rr (by simp only [PyData.depth]; omega) hb
    refine ⟨"dict", "dict.__repr__", F.slot_dict_repr, F.slot_dict_str, F.slot_dict_format, fun s hk0 => ⟨o, hk0 _ _ h1, h2⟩, fun A E s Q hg hu hk0 hQ => ?_⟩
    simp only [PyData.depth] at hu
    simp only [PyData.shown, PyData.shownKv_eq] at hQ
    exact call_dict_reprK h1 h2 h3 hsys hna (ReprEntriesK.of_two es.toList _ _
      (k1.more_le (fun b hb => List.mem_append_left _ hb) (PyData.depthAll_keys_le kvs)) (k2.more_le (fun b hb => List.mem_append_right _ hb) (PyData.depthAll_vals_le kvs))) hg (fun b _ => Clear.nil b) hu hk0 hQ (by rw [← PyData.shownKv_eq]; exact hz')
theorem repr_of_safe {A : Around} {E : Value → Shared → Prop} {s : Shared} {Q : Value → Shared → Prop} (r : RdS h₀ (.ref a) d) (hs : d.showable = true) (hg : A.guards = some []) (hu : A.units + (d.depth + 1) < cLine) (hk0 : ∀ b o, h₀.get? b = some o → s.heap.get? b = some o)
    (hQ : ∀ h' u tk, (∀ b o, s.heap.get? b = some o → h'.get? b = some o) → Q (.str d.shown u) { s with heap := h', toks := tk })
    (hsz : d.shown.length ≤ sizeLine) : wpAny (model prog w) A (call (.builtin "repr") [.ref a]) Q E s := by
  obtain ⟨T, idr, S⟩ := showsBy_of (prog := prog) (w := w) r hs hsz
  exact call_repr_slot (by omega) (S.typeIs s hk0) S.slotRepr (S.call A.in1 E s _ hg (by show A.units + 1 + d.depth < cLine; omega) hk0 fun h' u tk hk => ⟨_, _, rfl, hQ h' u tk hk⟩)
end
section
variable {X : Cx} {pins : List (Addr × Obj)} {σ : St} {H : Hp} {s : Shared} (I : Inv X pins σ H s)
include I
mutual
theorem rp_reads : ∀ (d : PyData) (v : V) (u : Value), Rp X.K H d v → RelV v u → rdB d = true → RdS s.heap u d
  | .none, _, _, h, r, _ => by cases h; cases r; exact .none
  | .bool b, _, _, h, r, _ => by cases h; cases r; exact .bool b
  | .int i, _, _, h, r, _ => by cases h; obtain ⟨t, rfl⟩ := r; exact .int i t
  | .str x, _, _, h, r, _ => by cases h; obtain ⟨t, rfl⟩ := r; exact .str x t
  | .list ds, _, _, h, r, z => by
    cases h with
    | lst h1 h2 =>
      cases r
      obtain ⟨_, its, n, rv, e⟩ := I.hok _ _ h1
      exact .list e rfl rfl (by simpa using rp_readsAll ds _ its h2 rv (by simpa [rdB] using z))
  | .tuple ds, _, _, h, r, z => by
    cases h with
    | tup h1 _ h2 =>
      cases r
      obtain ⟨_, _, its, rv, o, e, hc, n, hd⟩ := I.hok _ _ h1
      exact .tuple e hc hd (by simpa using rp_readsAll ds _ its h2 rv (by simpa [rdB] using z))
  | .dict es, _, _, h, r, z => by
    cases h with
    | dK h1 h2 =>
      cases r
      obtain ⟨_, hsys, vs, rel, o, ds, ep, e, ex, hd, _, prs, _⟩ := I.hok _ _ h1
      obtain ⟨q1, q2⟩ := rp_readsK es _ vs ds.toList h2 rel prs (by simpa [rdB] using z)
      exact .dict hsys e ex.1 hd q1 q2
    | dT h1 h2 =>
      cases r
      obtain ⟨_, _, hsys, vs, rel, o, ds, ep, e, ex, hd, _, prs, _⟩ := I.hok _ _ h1
      obtain ⟨q1, q2⟩ := rp_readsK es _ vs ds.toList h2 rel prs (by simpa [rdB] using z)
      exact .dict hsys e ex.1 hd q1 q2
theorem rp_readsAll : ∀ (ds : List PyData) (vs : List V) (us : List Value), RpAll X.K H ds vs → Vals vs us → rdAll ds = true → RdSAll s.heap us ds
  | [], _, _, h, r, _ => by cases h; cases r; exact .nil
  | d :: ds, _, _, h, r, z => by
    simp only [rdAll, Bool.and_eq_true] at z
    cases h with
    | cons h1 h2 =>
      cases r with
      | cons r1 r2 => exact .cons (rp_reads d _ _ h1 r1 z.1) (rp_readsAll ds _ _ h2 r2 z.2)
theorem rp_readsK : ∀ (es : List (PyData × PyData)) (kvs : List (Key × V)) (vs : List (Key × Value)) (ds : List DictEntry), RpK X.K H es kvs → KV kvs vs → Pairs (mixKind X.prog X.w) ds vs → rdKv es = true →
    RdSAll s.heap (ds.map (·.key)) (es.map (·.1)) ∧ RdSAll s.heap (ds.map (·.val)) (es.map (·.2))
  | [], _, _, _, h, r, p, _ => by
    cases h
    cases r
    cases p
    exact ⟨.nil, .nil⟩
  | (kd, d) :: es, _, _, _, h, r, p, z => by
    simp only [rdKv, Bool.and_eq_true] at z
    cases h with
    | cons h1 h2 =>
      rename_i k _ _
      cases r with
      | cons r1 r2 =>
        cases p with
        | cons p1 p2 p3 =>
          obtain ⟨q1, q2⟩ := rp_readsK es _ _ _ h2 r2 p3 z.2
          obtain ⟨e1, e2⟩ := r1
          rw [← p2] at e2
          rw [← e1] at p1
          have key : ∀ w : Value, keyIs k w = true → RdS s.heap w (keyD k) := by
            intro w hw
            rcases keyIs_shape hw with ⟨i, t, ek, ev⟩ | ⟨x, t, ek, ev⟩
            · rw [ek, ev]; exact .int i t
            · rw [ek, ev]; exact .str x t
          exact ⟨.cons (key _ p1) q1, .cons (rp_reads d _ _ h1 e2 z.1.2) q2⟩
end
end
def reprOk (d : PyData) : Bool := (decide (d.depth ≤ 64) && rdB d) && d.showable && decide (d.shown.length ≤ 16000000)
def pRepr : Prim
  | [d] => if reprOk d then some (.val (.str d.shown)) else none
  | _ => none
theorem reprOk_of {d : PyData} (h1 : SeqAt.shaped d = true) (h2 : d.showable = true) (h3 : wt d ≤ 16000000) : reprOk d = true := by
  have lay := shaped_lay h1
  have dep : d.depth ≤ 64 := by
    unfold SeqAt.shaped at h1
    simp only [Bool.and_eq_true, decide_eq_true_eq] at h1
    exact h1.2
  unfold reprOk
  rw [h2, decide_eq_true (Nat.le_trans (shown_wt d h2) h3), decide_eq_true dep, rd_lay d lay]
  rfl
theorem reprOk_rd {d : PyData} (h1 : d.depth ≤ 64) (h0 : rdB d = true) (h2 : d.showable = true) (h3 : wt d ≤ 16000000) : reprOk d = true := by
  unfold reprOk
  rw [h2, decide_eq_true (Nat.le_trans (shown_wt d h2) h3), decide_eq_true h1, h0]
  rfl
theorem x_repr {d : PyData} (h : reprOk d = true) : pRepr [d] = some (.val (.str d.shown)) := by
  show (if reprOk d = true then some (Slot.val (PyData.str d.shown)) else none) = _
  rw [if_pos h]
theorem x_neStr (x y : Str) : pNe [.str x, .str y] = some (.val (.bool (!decide (x = y)))) := by
  show some (Slot.val (PyData.bool (!(x == y)))) = _
  rw [beq_dec]
def rRepr (K : PySem.W.Frag) : List V → Hp → VK → Prop := fun xs H Q => ∃ v d, xs = [v] ∧ Rp K H d v ∧ reprOk d = true ∧ Q (.str d.shown) H
theorem call_reprD {X : Cx} (g : X.A.guards = some []) (hr : Room 0 X.A) : CallR X (.builtin "repr") (rRepr X.K) := by
  intro pins s σ H xs us Q I r h
  obtain ⟨v, d, rfl, hd, ok, q⟩ := h
  obtain ⟨u, rfl, ru⟩ := vals1 r
  unfold reprOk at ok
  simp only [Bool.and_eq_true, decide_eq_true_eq] at ok
  obtain ⟨⟨⟨dep, rd⟩, o2⟩, o3⟩ := ok
  have rds := rp_reads I d v u hd ru rd
  have sz : d.shown.length ≤ sizeLine := Nat.le_trans o3 (by decide)
  have un := room_u hr
  have ref : ∀ a, u = .ref a → wpAny (model X.prog X.w) X.A (call (.builtin "repr") [u]) (EP X pins σ Q) X.xe s := fun a e => by
    subst e
    exact repr_of_safe rds o2 g (by omega) (fun _ _ e => e) (fun h' u tk hk => ⟨.str d.shown, H, I.kept hk, ⟨u, rfl⟩, q⟩) sz
  cases hd with
  | non =>
    cases rds
    exact PySem.P.repr_of_none ⟨.str _, H, I.tok _, ⟨_, rfl⟩, by simpa [PyData.shown] using q⟩
  | bl b =>
    cases rds
    exact PySem.P.repr_of_bool ⟨.str _, H, I.tok _, ⟨_, rfl⟩, by simpa [PyData.shown] using q⟩
  | int i =>
    cases rds
    exact PySem.P.repr_of_int (by simpa [PyData.showable] using o2) ⟨.str _, H, I.tok _, ⟨_, rfl⟩, by simpa [PyData.shown] using q⟩
  | str x =>
    cases rds
    simp only [PyData.shown] at sz q
    exact PySem.P.repr_of_str ⟨.str _, H, I.tok _, ⟨_, rfl⟩, q⟩ sz
  | lst h1 h2 => cases ru; exact ref _ rfl
  | tup h1 _ h2 => cases ru; exact ref _ rfl
  | dK h1 h2 => cases ru; exact ref _ rfl
  | dT h1 h2 => cases ru; exact ref _ rfl
theorem rl_repr (K : PySem.W.Frag) : Rule K (rRepr K) pRepr := by
  intro F H ds vs Q s e hb hs q
  unfold pRepr at hs
  split at hs
  · rename_i d
    split at hs
    · rename_i ok
      cases hs
      obtain ⟨v, rfl, h1⟩ := hb.one
      exact ⟨v, d, rfl, h1.rp e, ok, pq_val e q (.str _)⟩
    · cases hs
  · cases hs
/-- repr(e) -/
theorem e_repr {Γ : Ctx} {a : Expr} {d : DenOs} {p : Bool} {fpos pos : Pos} (h : SndOs Γ [a] d p) (he : plainE a = true) (hg : Γ.sc.names.lookup ("repr" : Str) = some .globalImplicit) (hf : ("repr" : Str) ∈ Γ.blts) : SndE Γ (.Call (.Name "repr" fpos) [a] [] pos) (dP pRepr d) p := by
  intro X Φ B F H ρ σ Q W C hK T R hq
  have he' : [a].all plainE = true := by rw [List.all_cons, he]; rfl
  exact PE.w (pe_callB (call_reprD C.grd C.room) (gl_of C hg) (C.blt _ hf) (by decide +kernel) (pa_ws he') (by decide) (by decide) (star_of he) rfl) (ops_run (r := rRepr) rl_repr h C hK T R hq)
/-! ### the usual data -/
set_option exponentiation.threshold 3000 in
theorem show_nsAll : ∀ ns : List Int, (∀ n ∈ ns, n.natAbs < 2 ^ 100) → PyData.showableAll (nsD ns) = true ∧ wtAll (nsD ns) = 2002 * ns.length
  | [], _ => ⟨by simp [PyData.showableAll], by simp [wtAll]⟩
  | n :: ns, h => by
    obtain ⟨h1, h2⟩ := show_nsAll ns fun x hx => h x (List.mem_cons_of_mem _ hx)
    have : n.natAbs.log2 < 1920 := PySem.Flt.log2_lt_of (k := 1920) (by decide) (Nat.lt_of_lt_of_le (h n List.mem_cons_self) (Nat.pow_le_pow_right (by decide) (by decide)))
    refine ⟨by simp only [List.map_cons, PyData.showableAll, PyData.showable, h1, this]; rfl, ?_⟩
    simp only [List.map_cons, wtAll, wt, h2, List.length_cons]
    omega
theorem show_psAll : ∀ ps : List (Int × Int), (∀ p ∈ ps, p.1.natAbs < 2 ^ 100 ∧ p.2.natAbs < 2 ^ 100) → PyData.showableAll (psD ps) = true ∧ wtAll (psD ps) = 4016 * ps.length
  | [], _ => ⟨by simp [PyData.showableAll], by simp [wtAll]⟩
  | p :: ps, h => by
    obtain ⟨h1, h2⟩ := show_psAll ps fun x hx => h x (List.mem_cons_of_mem _ hx)
    have b := h p List.mem_cons_self
    obtain ⟨h3, h4⟩ := show_nsAll [p.1, p.2] (fun n hn => by
      simp only [List.mem_cons, List.not_mem_nil, or_false] at hn
      rcases hn with rfl | rfl
      · exact b.1
      · exact b.2)
    have h3 : PyData.showableAll [.int p.1, .int p.2] = true := h3
    have h4 : wtAll [.int p.1, .int p.2] = 4004 := h4
    have h1 : PyData.showableAll (ps.map prD) = true := h1
    refine ⟨by
      show PyData.showableAll (.tuple [.int p.1, .int p.2] :: ps.map prD) = true
      unfold PyData.showableAll
      rw [h1]
      unfold PyData.showable
      rw [h3]
      rfl, ?_⟩
    have h2 : wtAll (ps.map prD) = 4016 * ps.length := h2
    show wtAll (.tuple [.int p.1, .int p.2] :: ps.map prD) = _
    unfold wtAll
    rw [h2]
    unfold wt
    rw [h4, List.length_cons]
    omega
theorem rep_ord {m : Int} {ps : List (Int × Int)} (hm : m.natAbs < 2 ^ 100) (h : ∀ p ∈ ps, p.1.natAbs < 2 ^ 100 ∧ p.2.natAbs < 2 ^ 100) (hl : ps.length ≤ 3000) : reprOk (ordD m ps) = true := by
  obtain ⟨h1, h2⟩ := show_psAll ps h
  obtain ⟨h3, _⟩ := show_nsAll [m] (fun n hn => by rw [List.mem_singleton.mp hn]; exact hm)
  refine reprOk_of (sh_ord m ps) ?_ ?_
  · have h3 : PyData.showableAll [.int m] = true := h3
    simp only [PyData.showableAll, Bool.and_true] at h3
    have h1 : PyData.showableAll (psD ps) = true := h1
    unfold ordD
    simp only [PyData.showable, PyData.showableAll] at h3 ⊢
    rw [h1, h3]
    rfl
  · have h2 : wtAll (psD ps) = 4016 * ps.length := h2
    unfold ordD
    simp only [wt, wtAll]
    rw [h2]
    omega
end Dn

/-! Den26: closures of pairs (plain Lean). -/
namespace Dn
open PySem PySem.Spec L2
open PyProof.Rows hiding St
def Srt (ps : List (Int × Int)) : Prop := ps.Nodup ∧ ps.Pairwise fun a b => lexP a b = true
theorem srt_ext {ps qs : List (Int × Int)} (h1 : Srt ps) (h2 : Srt qs) (h : ∀ p, p ∈ ps ↔ p ∈ qs) : ps = qs :=
  (setSort_eq h h1.1 h1.2).trans (setSort_self h2.1 h2.2)
theorem setSort_srt (ps : List (Int × Int)) : Srt (setSort ps) := ⟨setSort_nodup ps, setSort_sorted ps⟩
theorem grid_srt (n : Nat) (q : Int × Int → Bool) : Srt ((gridP n).filter q) := by
  have srt : ((gridP n).filter q).Pairwise fun p q => p.1 < q.1 ∨ (p.1 = q.1 ∧ p.2 < q.2) := List.Pairwise.filter _ (grid_sorted n)
  refine ⟨List.Pairwise.imp (fun {p q} h e => ?_) srt, List.Pairwise.imp (fun {p q} h => ?_) srt⟩
  · subst e
    omega
  · unfold lexP
    rw [decide_eq_true_eq]
    omega
theorem IsOrd.srt {n : Int} {ps : List (Int × Int)} (o : IsOrd n ps) : Srt ps := ⟨o.nd, o.st⟩
theorem Srt.filter {ps : List (Int × Int)} (h : Srt ps) (q : Int × Int → Bool) : Srt (ps.filter q) := ⟨h.1.sublist List.filter_sublist, h.2.sublist List.filter_sublist⟩
/-- a chain of pairs leads from a to b -/
inductive Ch (ps : List (Int × Int)) : Int → Int → Prop
  | one {a b : Int} : (a, b) ∈ ps → Ch ps a b
  | more {a c b : Int} : (a, c) ∈ ps → Ch ps c b → Ch ps a b
theorem Ch.trans {ps : List (Int × Int)} {a b c : Int} (h : Ch ps a b) (h' : Ch ps b c) : Ch ps a c := by
  induction h with
  | one e => exact .more e h'
  | more e _ ih => exact .more e (ih h')
theorem Ch.mono {ps qs : List (Int × Int)} (h : ∀ p ∈ ps, Ch qs p.1 p.2) {a b : Int} (c : Ch ps a b) : Ch qs a b := by
  induction c with
  | one e => exact h _ e
  | more e _ ih => exact (h _ e).trans ih
theorem Ch.inN {n : Int} {ps : List (Int × Int)} (h : inN n ps) {a b : Int} (c : Ch ps a b) : 0 ≤ a ∧ a < n ∧ 0 ≤ b ∧ b < n := by
  induction c with
  | one e => exact h _ e
  | more e _ ih =>
    have := h _ e
    simp only at this
    omega
/-- .. with none but things below k between -/
inductive ChK (ps : List (Int × Int)) (k : Int) : Int → Int → Prop
  | one {a b : Int} : (a, b) ∈ ps → ChK ps k a b
  | more {a c b : Int} : (a, c) ∈ ps → c < k → ChK ps k c b → ChK ps k a b
theorem ChK.up {ps : List (Int × Int)} {k l : Int} (h : k ≤ l) {a b : Int} (c : ChK ps k a b) : ChK ps l a b := by
  induction c with
  | one e => exact .one e
  | more e hk _ ih => exact .more e (by omega) ih
theorem ChK.ch {ps : List (Int × Int)} {k : Int} {a b : Int} (c : ChK ps k a b) : Ch ps a b := by
  induction c with
  | one e => exact .one e
  | more e hk _ ih => exact .more e ih
theorem ChK.join {ps : List (Int × Int)} {k l c : Int} (h : c < l) (hk : k ≤ l) {a b : Int} (x : ChK ps k a c) (y : ChK ps k c b) : ChK ps l a b := by
  induction x with
  | one e => exact .more e h (y.up hk)
  | more e hc _ ih => exact .more e (by omega) (ih h y)
theorem ChK.split {ps : List (Int × Int)} {k : Int} {a b : Int} (x : ChK ps (k + 1) a b) : ChK ps k a b ∨ (ChK ps k a k ∧ ChK ps k k b) := by
  induction x with
  | one e => exact .inl (.one e)
  | more e hc _ ih =>
    rename_i a c b _
    by_cases z : c = k
    · subst z
      rcases ih with h | ⟨_, h⟩
      · exact .inr ⟨.one e, h⟩
      · exact .inr ⟨.one e, h⟩
    · have lt : c < k := by omega
      rcases ih with h | ⟨h1, h2⟩
      · exact .inl (.more e lt h)
      · exact .inr ⟨.more e lt h1, h2⟩
theorem chK_zero {ps : List (Int × Int)} {n : Int} (h : inN n ps) {a b : Int} : ChK ps 0 a b ↔ (a, b) ∈ ps := by
  constructor
  · intro c
    cases c with
    | one e => exact e
    | more e hc _ =>
      have := h _ e
      simp only at this
      omega
  · exact .one
theorem chK_all {ps : List (Int × Int)} {n : Int} (h : inN n ps) {a b : Int} : ChK ps n a b ↔ Ch ps a b := by
  refine ⟨ChK.ch, fun c => ?_⟩
  induction c with
  | one e => exact .one e
  | more e c ih => exact .more e (h _ e).2.2.2 ih
noncomputable def chB (ps : List (Int × Int)) : Int × Int → Bool := fun p => @decide (Ch ps p.1 p.2) (Classical.propDecidable _)
noncomputable def chkB (ps : List (Int × Int)) (k : Int) : Int × Int → Bool := fun p => @decide (ChK ps k p.1 p.2) (Classical.propDecidable _)
theorem chB_iff {ps : List (Int × Int)} {p : Int × Int} : chB ps p = true ↔ Ch ps p.1 p.2 := by
  unfold chB
  exact @decide_eq_true_iff _ (Classical.propDecidable _)
theorem chkB_iff {ps : List (Int × Int)} {k : Int} {p : Int × Int} : chkB ps k p = true ↔ ChK ps k p.1 p.2 := by
  unfold chkB
  exact @decide_eq_true_iff _ (Classical.propDecidable _)
/-- the closure -/
noncomputable def clo (n : Nat) (ps : List (Int × Int)) : List (Int × Int) := (gridP n).filter (chB ps)
noncomputable def cloK (n : Nat) (ps : List (Int × Int)) (k : Int) : List (Int × Int) := (gridP n).filter (chkB ps k)
theorem mem_clo {n : Nat} {ps : List (Int × Int)} (h : inN n ps) {p : Int × Int} : p ∈ clo n ps ↔ Ch ps p.1 p.2 := by
  unfold clo
  rw [List.mem_filter, mem_grid, chB_iff]
  exact ⟨fun x => x.2, fun x => ⟨x.inN h, x⟩⟩
theorem mem_cloK {n : Nat} {ps : List (Int × Int)} (h : inN n ps) {k : Int} {p : Int × Int} : p ∈ cloK n ps k ↔ ChK ps k p.1 p.2 := by
  unfold cloK
  rw [List.mem_filter, mem_grid, chkB_iff]
  exact ⟨fun x => x.2, fun x => ⟨x.ch.inN h, x⟩⟩
theorem clo_srt (n : Nat) (ps : List (Int × Int)) : Srt (clo n ps) := grid_srt n _
theorem cloK_srt (n : Nat) (ps : List (Int × Int)) (k : Int) : Srt (cloK n ps k) := grid_srt n _
theorem cloK_zero {n : Nat} {ps : List (Int × Int)} (h : inN n ps) : cloK n ps 0 = setSort ps :=
  srt_ext (cloK_srt n ps 0) (setSort_srt ps) fun p => by rw [mem_cloK h, chK_zero h, setSort_mem]
theorem cloK_all {n : Nat} {ps : List (Int × Int)} (h : inN n ps) : cloK n ps n = clo n ps :=
  srt_ext (cloK_srt n ps n) (clo_srt n ps) fun p => by rw [mem_cloK h, mem_clo h, chK_all h]
/-- a turn of the program's closing -/
def moreK (F : List (Int × Int)) (k : Int) : List (Int × Int) := F.flatMap fun p => if p.2 = k then (F.filter fun q => decide (q.1 = k)).map fun q => (p.1, q.2) else []
theorem mem_moreK {F : List (Int × Int)} {k : Int} {p : Int × Int} : p ∈ moreK F k ↔ (p.1, k) ∈ F ∧ (k, p.2) ∈ F := by
  unfold moreK
  rw [List.mem_flatMap]
  constructor
  · rintro ⟨q, hq, h⟩
    split at h
    · rename_i c
      obtain ⟨r, hr, rfl⟩ := List.mem_map.mp h
      obtain ⟨h1, h2⟩ := List.mem_filter.mp hr
      rw [decide_eq_true_eq] at h2
      refine ⟨?_, ?_⟩
      · rw [← c]; exact hq
      · rw [← h2]; exact h1
    · exact absurd h List.not_mem_nil
  · rintro ⟨h1, h2⟩
    refine ⟨_, h1, ?_⟩
    rw [if_pos rfl]
    exact List.mem_map.mpr ⟨_, List.mem_filter.mpr ⟨h2, decide_eq_true rfl⟩, rfl⟩
theorem cloK_succ {n : Nat} {ps : List (Int × Int)} (h : inN n ps) (k : Int) : setSort (cloK n ps k ++ moreK (cloK n ps k) k) = cloK n ps (k + 1) := by
  refine srt_ext (setSort_srt _) (cloK_srt n ps (k + 1)) fun p => ?_
  rw [setSort_mem, List.mem_append, mem_moreK, mem_cloK h, mem_cloK h, mem_cloK h, mem_cloK h]
  constructor
  · rintro (c | ⟨c1, c2⟩)
    · exact c.up (by omega)
    · exact c1.join (by omega) (by omega) c2
  · exact fun c => c.split
/-- a turn of the law's closing -/
def compP (F : List (Int × Int)) : List (Int × Int) := F.flatMap fun p => (F.filter fun q => decide (q.1 = p.2)).map fun q => (p.1, q.2)
theorem mem_compP {F : List (Int × Int)} {p : Int × Int} : p ∈ compP F ↔ ∃ c, (p.1, c) ∈ F ∧ (c, p.2) ∈ F := by
  unfold compP
  rw [List.mem_flatMap]
  constructor
  · rintro ⟨q, hq, h⟩
    obtain ⟨r, hr, rfl⟩ := List.mem_map.mp h
    obtain ⟨h1, h2⟩ := List.mem_filter.mp hr
    rw [decide_eq_true_eq] at h2
    exact ⟨q.2, hq, by rw [← h2]; exact h1⟩
  · rintro ⟨c, h1, h2⟩
    exact ⟨_, h1, List.mem_map.mpr ⟨_, List.mem_filter.mpr ⟨h2, decide_eq_true rfl⟩, rfl⟩⟩
/-- between the pairs and their closure -/
structure Mid (ps F : List (Int × Int)) : Prop where
  srt : Srt F
  sub : ∀ p ∈ ps, p ∈ F
  ch : ∀ p ∈ F, Ch ps p.1 p.2
theorem Mid.start (ps : List (Int × Int)) : Mid ps (setSort ps) := ⟨setSort_srt ps, fun p h => setSort_mem.mpr h, fun p h => .one (setSort_mem.mp h)⟩
theorem Mid.comp_ch {ps F : List (Int × Int)} (h : Mid ps F) {p : Int × Int} (hp : p ∈ compP F) : Ch ps p.1 p.2 := by
  obtain ⟨c, h1, h2⟩ := mem_compP.mp hp
  exact (h.ch _ h1).trans (h.ch _ h2)
theorem Mid.step {ps F : List (Int × Int)} (h : Mid ps F) : Mid ps (setSort (F ++ compP F)) := by
  refine ⟨setSort_srt _, fun p hp => setSort_mem.mpr (List.mem_append.mpr (.inl (h.sub p hp))), fun p hp => ?_⟩
  rcases List.mem_append.mp (setSort_mem.mp hp) with z | z
  · exact h.ch p z
  · exact h.comp_ch z
theorem len_ext {α : Type} [DecidableEq α] {xs ys : List α} (nx : xs.Nodup) (ny : ys.Nodup) (h : ∀ x ∈ xs, x ∈ ys) (e : ys.length ≤ xs.length) : ∀ y ∈ ys, y ∈ xs := fun y hy => by
  refine Decidable.byContradiction fun c => ?_
  have := nodup_len (y :: xs) ys (List.nodup_cons.mpr ⟨c, nx⟩) fun x hx => by
    rcases List.mem_cons.mp hx with rfl | z
    · exact hy
    · exact h x z
  rw [List.length_cons] at this
  omega
theorem Mid.same {ps F : List (Int × Int)} (h : Mid ps F) (e : (setSort (F ++ compP F)).length = F.length) : setSort (F ++ compP F) = F := by
  refine srt_ext (setSort_srt _) h.srt fun p => ⟨fun hp => ?_, fun hp => setSort_mem.mpr (List.mem_append.mpr (.inl hp))⟩
  exact len_ext h.srt.1 (setSort_nodup _) (fun x hx => setSort_mem.mpr (List.mem_append.mpr (.inl hx))) (by omega) p hp
theorem Mid.fin {ps F : List (Int × Int)} {n : Nat} (hn : inN n ps) (h : Mid ps F) (e : setSort (F ++ compP F) = F) : F = clo n ps := by
  refine srt_ext h.srt (clo_srt n ps) fun p => ?_
  rw [mem_clo hn]
  refine ⟨h.ch p, fun c => ?_⟩
  have tr : ∀ {a b c : Int}, (a, b) ∈ F → (b, c) ∈ F → (a, c) ∈ F := fun {a b c} h1 h2 => by
    rw [← e]
    exact setSort_mem.mpr (List.mem_append.mpr (.inr (mem_compP.mpr ⟨b, h1, h2⟩)))
  obtain ⟨a, b⟩ := p
  simp only at c
  induction c with
  | one z => exact h.sub _ z
  | more z _ ih => exact tr (h.sub _ z) ih
/-- no thing leads to itself -/
def Acyc (ps : List (Int × Int)) : Prop := ∀ a, ¬ Ch ps a a
theorem clo_ord {n : Nat} {ps : List (Int × Int)} (h1 : 1 ≤ n) (h2 : n ≤ 8) (h : inN n ps) (ac : Acyc ps) : IsOrd n (clo n ps) := by
  refine ⟨by omega, by omega, fun p hp => ((mem_clo h).mp hp).inN h, (clo_srt n ps).1, (clo_srt n ps).2, fun p hp e => ?_, fun p hp q hq e => ?_⟩
  · have := (mem_clo h).mp hp
    rw [e] at this
    exact ac _ this
  · have a := (mem_clo h).mp hp
    have b := (mem_clo h).mp hq
    rw [e] at a
    exact (mem_clo h).mpr (a.trans b)
theorem sub_clo {n : Nat} {ps F : List (Int × Int)} (h1 : 1 ≤ n) (h2 : n ≤ 8) (h : inN n ps) (ac : Acyc ps) (hF : ∀ p ∈ F, Ch ps p.1 p.2) : (dedP F).length ≤ 56 := by
  have o := clo_ord h1 h2 h ac
  exact Nat.le_trans (nodup_len _ _ (dedP_nodup F) fun p hp => (mem_clo h).mpr (hF p ((dedP_mem F).mp hp))) o.len
/-- next pairs lead to all -/
def nextB (n : Nat) (ps : List (Int × Int)) (p : Int × Int) : Bool := (List.range n).all fun c : Nat => !(decide ((p.1, (c : Int)) ∈ ps) && decide (((c : Int), p.2) ∈ ps))
def btw (n : Nat) (ps : List (Int × Int)) (a b : Int) : Nat := (List.range n).countP fun c : Nat => decide ((a, (c : Int)) ∈ ps) && decide (((c : Int), b) ∈ ps)
/-- turned about -/
def swapP (p : Int × Int) : Int × Int := (p.2, p.1)
end Dn

/-! Den27: lengths, list + list, small lists of numbers. -/
namespace Dn
open PySem PySem.Spec L2
open PyProof.Rows hiding St
theorem flat_len2 {α β : Type} (g : α → List β) (c : Nat) (h : ∀ a, (g a).length ≤ c) : ∀ l : List α, (l.flatMap g).length ≤ l.length * c
  | [] => by simp
  | a :: l => by
    have h1 := h a
    have h2 := flat_len2 g c h l
    rw [List.flatMap_cons, List.length_append, List.length_cons, Nat.succ_mul]
    omega
theorem x_atN (xs : List Int) (k : Nat) (h : k < xs.length) : atI (nsD xs) (k : Int) = some (.int xs[k]) := by
  refine x_ixn ?_
  rw [List.getElem?_map, List.getElem?_eq_getElem h]
  rfl
theorem x_ixNs (xs : List Int) (k : Nat) (h : k < xs.length) : pIx [.list (nsD xs), .int (k : Int)] = some (.val (.int xs[k])) := by
  show (atI (nsD xs) (k : Int)).map Slot.val = _
  rw [x_atN xs k h]
  rfl
/-- one of some numbers, by a digit -/
theorem pick_n (xs : List Int) (d : Int) (h0 : 0 ≤ d) (h1 : d < xs.length) : ∃ v, v ∈ xs ∧ pIx [.list (nsD xs), .int d] = some (.val (.int v)) := by
  obtain ⟨k, rfl⟩ : ∃ k : Nat, d = k := ⟨d.toNat, by omega⟩
  have hk : k < xs.length := by omega
  exact ⟨xs[k], List.getElem_mem hk, x_ixNs xs k hk⟩
theorem emod_in (b m : Int) (h : 0 < m) : 0 ≤ b % m ∧ b % m < m := ⟨Int.emod_nonneg b (by omega), Int.emod_lt_of_pos b h⟩
/-- acyclic by places -/
theorem acyc_of {ps : List (Int × Int)} (f : Int → Nat) (h : ∀ p ∈ ps, f p.1 < f p.2) : Acyc ps := by
  have lt : ∀ {a b : Int}, Ch ps a b → f a < f b := fun {a b} c => by
    induction c with
    | one e => exact h _ e
    | more e _ ih =>
      have := h _ e
      simp only at this
      omega
  exact fun a c => Nat.lt_irrefl _ (lt c)
end Dn

/-! Den28: displays of constants, nested, read at once. -/
namespace Dn
open PySem PySem.Spec L2
open PyProof.Rows hiding St
def zipB {α β : Type} (f : α → β → Bool) : List α → List β → Bool
  | [], [] => true
  | a :: l, b :: m => f a b && zipB f l m
  | _, _ => false
def litB : Const → PyData → Bool
  | .none, .none => true
  | .bool a, .bool b => a == b
  | .int a, .int b => decide (a = b)
  | .str a, .str b => a == b
  | _, _ => false
def negB (a : Expr) (d : PyData) : Bool := match a, d with
  | .Constant (.int i) _ _, .int j => decide (j = -i)
  | _, _ => false
def powB (a b : Expr) (d : PyData) : Bool := match a, b, d with
  | .Constant (.int i) _ _, .Constant (.int j) _ _, .int k => (decide (0 ≤ j) && decide (j ≤ 1000000) && decide (i.natAbs < 2 ^ 64)) && decide (k = i ^ j.toNat)
  | _, _, _ => false
theorem negB_of {a : Expr} {d : PyData} (h : negB a d = true) : ∃ i k pos, a = .Constant (.int i) k pos ∧ d = .int (-i) := by
  unfold negB at h
  split at h
  · exact ⟨_, _, _, rfl, by rw [of_decide_eq_true h]⟩
  · cases h
theorem powB_of {a b : Expr} {d : PyData} (h : powB a b d = true) : ∃ i j k l p q, a = .Constant (.int i) k p ∧ b = .Constant (.int j) l q ∧ (decide (0 ≤ j) && decide (j ≤ 1000000) && decide (i.natAbs < 2 ^ 64)) = true ∧ d = .int (i ^ j.toNat) := by
  unfold powB at h
  split at h
  · rw [Bool.and_eq_true] at h
    exact ⟨_, _, _, _, _, _, rfl, rfl, h.1, by rw [of_decide_eq_true h.2]⟩
  · cases h
def dicB (ks : List (Option Expr)) (vs : List Expr) (d : PyData) : Bool := match ks, vs, d with
  | [some (.Constant (.str x) _ _)], [.Constant (.int i) _ _], .dict [(.str y, .int j)] => x == y && decide (i = j)
  | [], [], .dict [] => true
  | _, _, _ => false
theorem dicB_of {ks : List (Option Expr)} {vs : List Expr} {d : PyData} (h : dicB ks vs d = true) : (ks = [] ∧ vs = [] ∧ d = .dict []) ∨ ∃ x i k l p q, ks = [some (.Constant (.str x) k p)] ∧ vs = [.Constant (.int i) l q] ∧ d = .dict [(.str x, .int i)] := by
  unfold dicB at h
  split at h
  · rw [Bool.and_eq_true] at h
    exact .inr ⟨_, _, _, _, _, _, rfl, rfl, by rw [eq_of_beq h.1, of_decide_eq_true h.2]⟩
  · exact .inl ⟨rfl, rfl, rfl⟩
  · cases h
def constB : Nat → Expr → PyData → Bool
  | 0, _, _ => false
  | _ + 1, .Constant c _ _, d => litB c d
  | n + 1, .List es _, .list ds => zipB (constB n) es ds && decide (ds.length ≤ 1000)
  | n + 1, .Tuple es _ _, .tuple ds => zipB (constB n) es ds && decide (ds.length ≤ 1000)
  | _ + 1, .UnaryOp .USub a _, d => negB a d
  | _ + 1, .BinOp a .Pow b _, d => powB a b d
  | _ + 1, .Dict ks vs _, d => dicB ks vs d
  | _, _, _ => false
def dConst (d : PyData) : Den := fun _ ρ => .ok (match d with
  | .list ds => .own ds
  | d => .val d, ρ)
def fsConst (ds : List PyData) : DenOs := fun _ ρ => .ok (ds, ρ)
section
variable {Γ : Ctx}
theorem oOf_const (d : PyData) (Φ : Calls) (ρ : Env) : oOf (dConst d) Φ ρ = .ok (d, ρ) := by cases d <;> rfl
theorem constB_plain {n : Nat} {e : Expr} {d : PyData} (h : constB n e d = true) : plainE e = true := by
  cases n with
  | zero => cases h
  | succ n => cases e <;> first | rfl | (cases d <;> cases h)
theorem litB_of {c : Const} {d : PyData} (h : litB c d = true) : litOf c = some d := by
  cases c <;> cases d <;> first | rfl | (cases h; done) | (simp [litB] at h; subst h; rfl)
theorem fs_const (f : Expr → PyData → Bool) (hf : ∀ e d, f e d = true → SndE Γ e (dConst d) true) (hp : ∀ e d, f e d = true → plainE e = true) : ∀ (es : List Expr) (ds : List PyData), zipB f es ds = true → SndFs Γ es (fsConst ds) true ∧ es.all plainE = true
  | [], [], h => ⟨snd_fsNil, rfl⟩
  | [], _ :: _, h => by cases h
  | _ :: _, [], h => by cases h
  | e :: es, d :: ds, h => by
    unfold zipB at h
    rw [Bool.and_eq_true] at h
    obtain ⟨g1, g2⟩ := fs_const f hf hp es ds h.2
    have := snd_fsCons (hf e d h.1) g1
    have q : fsCons (dConst d) (fsConst ds) = fsConst (d :: ds) := by
      funext Φ ρ
      show (oOf (dConst d) Φ ρ).bind _ = _
      rw [oOf_const]
      rfl
    rw [q] at this
    exact ⟨this, by rw [List.all_cons, hp e d h.1, g2]; rfl⟩
theorem snd_cdict {x : Str} {i : Int} {k l : Nat} {p q pos : Pos} : SndE Γ (.Dict [some (.Constant (.str x) k p)] [.Constant (.int i) l q] pos) (dConst (.dict [(.str x, .int i)])) true := by
  intro X Φ B F H ρ σ Q W C hK T R hq
  refine PE.w (pe_disp (pps_cons pe_str pe_int pps_nil) rfl rfl (fun z => nomatch z) (Nat.le_of_lt_succ (by show 1 < 16; decide))) ?_
  intro t ht
  have e : mergeK [] [((.inr x : Key), V.int i)] = [((.inr x : Key), V.int i)] := rfl
  refine ⟨upd_same, [(.inr x, .int i)], rfl, by show 1 ≤ 15; decide, ?_⟩
  rw [e, upd_upd]
  exact pq_of R (.refl F) (fun _ => .refl H) hq _ _ _ (Grow.new R.kept.ex ht) (.dK upd_same (.cons (k := .inr x) (.int i) .nil))
theorem snd_cdict0 {pos : Pos} : SndE Γ (.Dict [] [] pos) (dConst (.dict [])) true := by
  intro X Φ B F H ρ σ Q W C hK T R hq
  refine PE.w pe_dnewK fun t ht => ?_
  exact pq_of R (.refl F) (fun _ => .refl H) hq _ _ _ (Grow.new R.kept.ex ht) (.dK upd_same .nil)
theorem snd_const : ∀ (n : Nat) (e : Expr) (d : PyData), constB n e d = true → SndE Γ e (dConst d) true
  | 0, _, _, h => by cases h
  | n + 1, e, d, h => by
    have ih := snd_const n
    cases e with
    | Constant c k pos =>
      have h : litB c d = true := h
      have h := litB_of h
      have := snd_lit (Γ := Γ) (pos := pos) (k := k) (c := c) (d := d) h
      have q : dLit d = dConst d := by
        funext Φ ρ
        cases c <;> cases h <;> rfl
      rw [q] at this
      exact this
    | List es pos =>
      cases d with
      | list ds =>
        have h : (zipB (constB n) es ds && decide (ds.length ≤ 1000)) = true := h
        rw [Bool.and_eq_true] at h
        obtain ⟨g1, g2⟩ := fs_const _ (fun e d => ih e d) (fun e d => constB_plain) es ds h.1
        have := snd_lst (pos := pos) g1 g2
        have q : dLst (fsConst ds) = dConst (.list ds) := by
          funext Φ ρ
          show guard' (decide (ds.length ≤ 1000)) _ = _
          rw [h.2]
          rfl
        rw [q] at this
        exact this
      | _ => cases h
    | Tuple es k pos =>
      cases d with
      | tuple ds =>
        have h : (zipB (constB n) es ds && decide (ds.length ≤ 1000)) = true := h
        rw [Bool.and_eq_true] at h
        obtain ⟨g1, g2⟩ := fs_const _ (fun e d => ih e d) (fun e d => constB_plain) es ds h.1
        have := snd_tup (pos := pos) (k := k) g1 g2
        have q : dTup (fsConst ds) = dConst (.tuple ds) := by
          funext Φ ρ
          show guard' (decide (ds.length ≤ 1000)) _ = _
          rw [h.2]
          rfl
        rw [q] at this
        exact this
      | _ => cases h
    | UnaryOp op a pos =>
      cases op with
      | USub =>
        obtain ⟨i, k, p, rfl, rfl⟩ := negB_of (show negB a d = true by cases d <;> exact h)
        exact e_neg (pos := pos) (snd_osCons (snd_oOf (snd_lit (c := .int i) (d := .int i) rfl)) snd_osNil rfl)
      | _ => cases d <;> cases h
    | BinOp a op b pos =>
      cases op with
      | Pow =>
        obtain ⟨i, j, k, l, p, q, rfl, rfl, hc, rfl⟩ := powB_of (show powB a b d = true by cases d <;> exact h)
        have := e_pow (Γ := Γ) (pos := pos) (snd_osCons (snd_oOf (snd_lit (c := .int i) (d := .int i) (k := k) (pos := p) rfl)) (snd_osCons (snd_oOf (snd_lit (c := .int j) (d := .int j) (k := l) (pos := q) rfl)) snd_osNil rfl) rfl)
        have q : dP pPow (osCons (oOf (dLit (.int i))) (osCons (oOf (dLit (.int j))) osNil)) = dConst (.int (i ^ j.toNat)) := by
          funext Φ ρ
          show (opt (if (decide (0 ≤ j) && decide (j ≤ 1000000) && decide (i.natAbs < 2 ^ 64)) = true then some (Slot.val (PyData.int (i ^ j.toNat))) else none)).bind _ = _
          rw [if_pos hc]
          rfl
        rw [q] at this
        exact this
      | _ => cases d <;> cases h
    | Dict ks vs pos =>
      rcases dicB_of (show dicB ks vs d = true by cases d <;> exact h) with ⟨rfl, rfl, rfl⟩ | ⟨x, i, k, l, p, q, rfl, rfl, rfl⟩
      · exact snd_cdict0
      · exact snd_cdict
    | _ => cases d <;> cases h
end
section
variable {Φ : Calls} {ρ : Env} {ds : List PyData} {i : Int} {x : Str}
@[simp] theorem x_const1 : dConst (.list ds) Φ ρ = .ok (.own ds, ρ) := id rfl
@[simp] theorem x_const2 : dConst (.tuple ds) Φ ρ = .ok (.val (.tuple ds), ρ) := id rfl
@[simp] theorem x_const4 {es : List (PyData × PyData)} : dConst (.dict es) Φ ρ = .ok (.val (.dict es), ρ) := id rfl
@[simp] theorem x_const3 : dConst (.int i) Φ ρ = .ok (.val (.int i), ρ) := id rfl
end
theorem big100 : 100 < 2 ^ 100 := by decide
theorem rep_isord {m : Nat} {ps : List (Int × Int)} (o : IsOrd m ps) : reprOk (ordD m ps) = true := by
  have hi := o.hi
  have b := big100
  refine rep_ord (by omega) (fun p hp => ?_) (by have := o.len; omega)
  have := o.bd p hp
  omega
theorem x_neSame (S : Str) : pNe [.str S, .str S] = some (.val (.bool false)) := by rw [x_neStr]; simp
end Dn

/-! Den29: a, b = x, y where what is told may be own; a call whose list nobody else has. -/
namespace Dn
open PySem PySem.Spec L2
open PyProof.Rows hiding St
def okS : Slot → Bool
  | .val _ => true
  | .own _ => true
  | .odc _ _ => true
  | _ => false
def dParA (i j : Nat) (r : DenA) : DenS := fun Φ ρ => (r Φ ρ).bind fun y => match y.1 with
  | [(none, s), (none, t)] => guard' (okS s && okS t) (.ok (.nx, (y.2.set i s).set j t))
  | _ => .stuck
/-! ### a list that nobody else has -/
mutual
def noL : PyData → Bool
  | .list _ => false
  | .dict _ => false
  | .tuple ds => noLAll ds
  | _ => true
def noLAll : List PyData → Bool
  | [] => true
  | d :: ds => noL d && noLAll ds
end
def noLS : Slot → Bool
  | .val d => noL d
  | _ => false
/-- the tuples alone -/
def tupH (F : Hp) : Hp := fun a => match F a with
  | some (.frz o (.tup vs)) => some (.frz o (.tup vs))
  | _ => none
theorem tupH_ex (F : Hp) : Ex (tupH F) F := fun a o h => by
  unfold tupH at h
  split at h
  · rename_i e; cases h; exact e
  · cases h
mutual
theorem rp_tup {K : PySem.W.Frag} {F : Hp} : ∀ (d : PyData) (v : V), Rp K F d v → noL d = true → Rp K (tupH F) d v
  | .none, _, h, _ => by cases h; exact .non
  | .bool b, _, h, _ => by cases h; exact .bl b
  | .int i, _, h, _ => by cases h; exact .int i
  | .str x, _, h, _ => by cases h; exact .str x
  | .list ds, _, _, n => by simp [noL] at n
  | .dict es, _, _, n => by simp [noL] at n
  | .tuple ds, _, h, n => by
    cases h with
    | tup h1 h2 h3 => exact .tup (by unfold tupH; rw [h1]) h2 (rp_tupAll ds _ h3 (by simpa [noL] using n))
theorem rp_tupAll {K : PySem.W.Frag} {F : Hp} : ∀ (ds : List PyData) (vs : List V), RpAll K F ds vs → noLAll ds = true → RpAll K (tupH F) ds vs
  | [], _, h, _ => by cases h; exact .nil
  | d :: ds, _, h, n => by
    simp only [noLAll, Bool.and_eq_true] at n
    cases h with
    | cons h1 h2 => exact .cons (rp_tup d _ h1 n.1) (rp_tupAll ds _ h2 n.2)
end
/-- without one object -/
def cutH (F : Hp) (a : Addr) : Hp := fun b => if b = a then none else F b
section
variable {K : PySem.W.Frag} {F : Hp}
mutual
/-- what stands for data stands for no other data -/
theorem Rp.one : ∀ (d e : PyData) (v : V), Rp K F d v → Rp K F e v → sizeOf d = sizeOf e
  | .none, e, _, h, g => by cases h; cases g; rfl
  | .bool b, e, _, h, g => by cases h; cases g; rfl
  | .int i, e, _, h, g => by cases h; cases g; rfl
  | .str x, e, _, h, g => by cases h; cases g; rfl
  | .list ds, e, _, h, g => by
    cases h with
    | lst h1 h2 =>
      cases g with
      | lst g1 g2 => rw [h1] at g1; cases g1; simp [RpAll.one ds _ _ h2 g2]
      | tup g1 _ _ => rw [h1] at g1; cases g1
      | dK g1 _ => rw [h1] at g1; cases g1
      | dT g1 _ => rw [h1] at g1; cases g1
  | .tuple ds, e, _, h, g => by
    cases h with
    | tup h1 h0 h2 =>
      cases g with
      | lst g1 g2 => rw [h1] at g1; cases g1
      | tup g1 _ g2 => rw [h1] at g1; cases g1; simp [RpAll.one ds _ _ h2 g2]
      | dK g1 _ => rw [h1] at g1; cases g1
      | dT g1 _ => rw [h1] at g1; cases g1
  | .dict es, e, _, h, g => by
    cases h with
    | dK h1 h2 =>
      cases g with
      | lst g1 g2 => rw [h1] at g1; cases g1
      | tup g1 _ g2 => rw [h1] at g1; cases g1
      | dK g1 g2 => rw [h1] at g1; cases g1; simp [RpK.one es _ _ h2 g2]
      | dT g1 _ => rw [h1] at g1; cases g1
    | dT h1 h2 =>
      cases g with
      | lst g1 g2 => rw [h1] at g1; cases g1
      | tup g1 _ g2 => rw [h1] at g1; cases g1
      | dK g1 g2 => rw [h1] at g1; cases g1
      | dT g1 g2 => rw [h1] at g1; cases g1; simp [RpK.one es _ _ h2 g2]
theorem RpAll.one : ∀ (ds es : List PyData) (vs : List V), RpAll K F ds vs → RpAll K F es vs → sizeOf ds = sizeOf es
  | [], _, _, h, g => by cases h; cases g; rfl
  | d :: ds, _, _, h, g => by
    cases h with
    | cons h1 h2 =>
      cases g with
      | cons g1 g2 => simp [Rp.one d _ _ h1 g1, RpAll.one ds _ _ h2 g2]
theorem RpK.one : ∀ (ds es : List (PyData × PyData)) (vs : List (Key × V)), RpK K F ds vs → RpK K F es vs → sizeOf ds = sizeOf es
  | [], _, _, h, g => by cases h; cases g; rfl
  | (kd, d) :: ds, _, _, h, g => by
    cases h with
    | cons h1 h2 =>
      cases g with
      | cons g1 g2 => simp [Rp.one d _ _ h1 g1, RpK.one ds _ _ h2 g2]
end
end
section
variable {K : PySem.W.Frag} {F : Hp} {a : Addr} {D : PyData} (hD : Rp K F D (.ref a))
include hD
mutual
theorem rp_cut : ∀ (d : PyData) (v : V), Rp K F d v → sizeOf d < sizeOf D → Rp K (cutH F a) d v
  | .none, _, h, _ => by cases h; exact .non
  | .bool b, _, h, _ => by cases h; exact .bl b
  | .int i, _, h, _ => by cases h; exact .int i
  | .str x, _, h, _ => by cases h; exact .str x
  | .list ds, v, h, s => by
    have h' := h
    cases h with
    | lst h1 h2 =>
      rename_i b _
      have ne : b ≠ a := fun e => by subst e; have := Rp.one _ _ _ h' hD; omega
      exact .lst (by unfold cutH; rw [if_neg ne]; exact h1) (rp_cutAll ds _ h2 (by simp at s; omega))
  | .tuple ds, v, h, s => by
    have h' := h
    cases h with
    | tup h1 h0 h2 =>
      rename_i b _ _
      have ne : b ≠ a := fun e => by subst e; have := Rp.one _ _ _ h' hD; omega
      exact .tup (by unfold cutH; rw [if_neg ne]; exact h1) h0 (rp_cutAll ds _ h2 (by simp at s; omega))
  | .dict es, v, h, s => by
    have h' := h
    cases h with
    | dK h1 h2 =>
      rename_i b _
      have ne : b ≠ a := fun e => by subst e; have := Rp.one _ _ _ h' hD; omega
      exact .dK (by unfold cutH; rw [if_neg ne]; exact h1) (rp_cutK es _ h2 (by simp at s; omega))
    | dT h1 h2 =>
      rename_i b _ _
      have ne : b ≠ a := fun e => by subst e; have := Rp.one _ _ _ h' hD; omega
      exact .dT (by unfold cutH; rw [if_neg ne]; exact h1) (rp_cutK es _ h2 (by simp at s; omega))
theorem rp_cutAll : ∀ (ds : List PyData) (vs : List V), RpAll K F ds vs → sizeOf ds < sizeOf D → RpAll K (cutH F a) ds vs
  | [], _, h, _ => by cases h; exact .nil
  | d :: ds, _, h, s => by
    cases h with
    | cons h1 h2 => exact .cons (rp_cut d _ h1 (by simp at s; omega)) (rp_cutAll ds _ h2 (by simp at s; omega))
theorem rp_cutK : ∀ (ds : List (PyData × PyData)) (vs : List (Key × V)), RpK K F ds vs → sizeOf ds < sizeOf D → RpK K (cutH F a) ds vs
  | [], _, h, _ => by cases h; exact .nil
  | (kd, d) :: ds, _, h, s => by
    cases h with
    | cons h1 h2 => exact .cons (rp_cut d _ h1 (by simp at s; omega)) (rp_cutK ds _ h2 (by simp at s; omega))
end
end
/-- two frozen parts together -/
def bothH (F G : Hp) : Hp := fun a => match F a with
  | some o => some o
  | none => G a
theorem bothH_l (F G : Hp) : Ex F (bothH F G) := fun a o h => by unfold bothH; rw [h]
def dCallT (x : Str) (n : Nat) (as : DenA) : Den := fun Φ ρ => (as Φ ρ).bind fun y => guard' (y.1.length == n && y.1.all fun p => noLS p.2) ((Φ x (y.1.map (·.2))).bind fun r => match r.1 with
  | .val (.list ds) => .ok (.own ds, y.2)
  | .val .none => .ok (.val .none, y.2)
  | .own ds => .ok (.own ds, y.2)
  | _ => .stuck)
section
variable {Φ : Calls} {ρ : Env} {i j : Nat} {r : DenA} {s t : Slot} {ds es : List PyData} {d e : PyData}
def kParA (i j : Nat) : List (Option Nat × Slot) × Env → Out (Fl × Env) := fun y => match y.1 with
  | [(none, s), (none, t)] => guard' (okS s && okS t) (.ok (.nx, (y.2.set i s).set j t))
  | _ => .stuck
@[simp] theorem x_parA : dParA i j r Φ ρ = (r Φ ρ).bind (kParA i j) := id rfl
@[simp] theorem x_parA1 : kParA i j ([(none, s), (none, t)], ρ) = guard' (okS s && okS t) (.ok (.nx, (ρ.set i s).set j t)) := id rfl
@[simp] theorem x_okS1 : okS (.own ds) = true := id rfl
@[simp] theorem x_okS2 : okS (.val d) = true := id rfl
def kCallT2 (ρ : Env) : Slot × List Slot → Out (Slot × Env) := fun r => match r.1 with
  | .val (.list ds) => .ok (.own ds, ρ)
  | .val .none => .ok (.val .none, ρ)
  | .own ds => .ok (.own ds, ρ)
  | _ => .stuck
def kCallT (q : Str) (n : Nat) (Φ : Calls) : List (Option Nat × Slot) × Env → Out (Slot × Env) := fun y => guard' (y.1.length == n && y.1.all fun p => noLS p.2) ((Φ q (y.1.map (·.2))).bind (kCallT2 y.2))
variable {q : Str} {n : Nat} {la : List (Option Nat × Slot)} {ss : List Slot}
@[simp] theorem x_callT : dCallT q n r Φ ρ = (r Φ ρ).bind (kCallT q n Φ) := id rfl
@[simp] theorem x_callT1 : kCallT q n Φ (la, ρ) = guard' (la.length == n && la.all fun p => noLS p.2) ((Φ q (la.map (·.2))).bind (kCallT2 ρ)) := id rfl
@[simp] theorem x_callT2 : kCallT2 ρ (.val (.list ds), ss) = .ok (.own ds, ρ) := id rfl
@[simp] theorem x_callT4 : kCallT2 ρ (.val .none, ss) = .ok (.val .none, ρ) := id rfl
@[simp] theorem x_callT3 : kCallT2 ρ (.own ds, ss) = .ok (.own ds, ρ) := id rfl
@[simp] theorem x_noLS : noLS (.val d) = noL d := id rfl
@[simp] theorem x_noLi {k : Int} : noL (.int k) = true := by simp [noL]
theorem noL_ps : ∀ ps : List (Int × Int), noLAll (psD ps) = true
  | [] => by simp [noLAll]
  | p :: ps => by
    have := noL_ps ps
    simp only [List.map_cons, noLAll, prD, noL, this]
    simp
@[simp] theorem x_noLo {m : Int} {ps : List (Int × Int)} : noL (ordD m ps) = true := by
  have := noL_ps ps
  simp [ordD, noL, noLAll, this]
end
def gD (xs : List Int) (k : Nat) : Int := (xs[k]?).getD 0
end Dn

/-! Den30: an expression that only looks at an own list. -/
namespace Dn
open PySem PySem.Spec L2
open PyProof.Rows hiding St
def veil (s : Slot) : Slot := if s.isOwn then .un else s
def hideE (ρ : Env) (i : Nat) (ds : List PyData) : Env := (ρ.map veil).set i (.val (.list ds))
def dSeal (i : Nat) (d : Den) : Den := fun Φ ρ => match ρ[i]? with
  | some (.own ds) => (noX (d Φ (hideE ρ i ds))).bind fun r => match r.1 with
    | .val x => guard' (noL x) (.ok (.val x, ρ))
    | _ => .stuck
  | _ => d Φ ρ
section
variable {Φ : Calls} {ρ : Env} {i : Nat} {d : Den} {ds : List PyData} {x : PyData}
def kSeal (ρ : Env) : Slot × Env → Out (Slot × Env) := fun r => match r.1 with
  | .val x => guard' (noL x) (.ok (.val x, ρ))
  | _ => .stuck
def sealG (o : Option Slot) (i : Nat) (d : Den) (Φ : Calls) (ρ : Env) : Out (Slot × Env) := match o with
  | some (.own ds) => (noX (d Φ (hideE ρ i ds))).bind (kSeal ρ)
  | _ => d Φ ρ
@[simp] theorem x_seal : dSeal i d Φ ρ = sealG (ρ[i]?) i d Φ ρ := id rfl
@[simp] theorem x_seal1 : sealG (some (.own ds)) i d Φ ρ = (noX (d Φ (hideE ρ i ds))).bind (kSeal ρ) := id rfl
@[simp] theorem x_seal2 : sealG (some (.val x)) i d Φ ρ = d Φ ρ := id rfl
@[simp] theorem x_seal3 {ρ' : Env} : kSeal ρ (.val x, ρ') = guard' (noL x) (.ok (.val x, ρ)) := id rfl
@[simp] theorem x_hide : hideE ρ i ds = (ρ.map veil).set i (.val (.list ds)) := id rfl
@[simp] theorem x_veil1 : veil (.own ds) = .un := id rfl
@[simp] theorem x_veil2 : veil (.val x) = .val x := id rfl
@[simp] theorem x_veil3 : veil .un = .un := id rfl
@[simp] theorem x_veil4 {ns : List Int} : veil (.scr ns) = .scr ns := id rfl
@[simp] theorem x_noLb {b : Bool} : noL (.bool b) = true := by simp [noL]
end
end Dn

/-! Den31: enumerate of a list or a tuple. -/
namespace Dn
open PySem PySem.Spec L2
open PyProof.Rows hiding St
section
variable {prog : Program} {w : World} {A : Around} {E : Value → Shared → Prop} {s : Shared}
end
/-- the tuple at a as it stands at each turn, each item in a new pair -/
def IteT (K : PySem.W.Frag) (a : Addr) : It :=
  ⟨fun i H => ∃ (xs : List V) (x : V), SqT K H a xs ∧ xs[i]? = some x, fun i H v H' => ∃ T x, v = .ref T ∧ H T = none ∧ H' = upd H T (.tup [.int (i : Nat), x]) ∧ ∀ xs, SqT K H a xs → xs[i]? = some x, fun i H => ∃ xs : List V, SqT K H a xs ∧ xs.length ≤ i⟩
def iEnumAny (K : PySem.W.Frag) (ta : TA) : TI := fun σ H R => ta σ H fun vs H1 => ∃ a xs, vs = [.ref a] ∧ ((SqL K H1 a xs ∧ R (Ite K a) H1) ∨ (SqT K H1 a xs ∧ R (IteT K a) H1))
def iEnumA (d : Den) : DenI := fun Φ ρ => (oOf d Φ ρ).bind fun r => match r.1 with
  | .list ds => .ok (pairUp (rngD 0 ds.length) ds, r.2)
  | .tuple ds => .ok (pairUp (rngD 0 ds.length) ds, r.2)
  | _ => .stuck
section
variable {Γ : Ctx} {e : Expr} {d : Den} {p : Bool} {fpos pos tpos : Pos} {elts : List Expr} {kk : Nat}
end
def kEnA : PyData × Env → Out (List PyData × Env) := fun r => match r.1 with
  | .list ds => .ok (pairUp (rngD 0 ds.length) ds, r.2)
  | .tuple ds => .ok (pairUp (rngD 0 ds.length) ds, r.2)
  | _ => .stuck
section
variable {a : Den} {Φ : Calls} {ρ : Env} {ds : List PyData}
@[simp] theorem x_iEnumA : iEnumA a Φ ρ = (oOf a Φ ρ).bind kEnA := id rfl
@[simp] theorem x_iEnumA1 : kEnA (.list ds, ρ) = .ok (pairUp (rngD 0 ds.length) ds, ρ) := id rfl
@[simp] theorem x_iEnumA2 : kEnA (.tuple ds, ρ) = .ok (pairUp (rngD 0 ds.length) ds, ρ) := id rfl
end
end Dn

/-! Den32: data that repr can show, told by its parts; members of displays and slices. -/
namespace Dn
open PySem PySem.Spec L2
open PyProof.Rows hiding St
/-- fl: no list within; else no dict -/
structure Sm (fl : Bool) (k w : Nat) (d : PyData) : Prop where
  dep : d.depth ≤ k
  rd : rdB d = true
  fd : (if fl then flatB d else !d.hasDict) = true
  sh : d.showable = true
  wt : wt d ≤ w
def smB (fl : Bool) (k w : Nat) (d : PyData) : Bool := decide (d.depth ≤ k) && (rdB d && ((if fl then flatB d else !d.hasDict) && (d.showable && decide (wt d ≤ w))))
theorem Sm.mono {fl : Bool} {k w k' w' : Nat} {d : PyData} (h : Sm fl k w d) (h1 : k ≤ k') (h2 : w ≤ w') : Sm fl k' w' d := ⟨Nat.le_trans h.dep h1, h.rd, h.fd, h.sh, Nat.le_trans h.wt h2⟩
theorem Sm.repr {fl : Bool} {k w : Nat} {d : PyData} (h : Sm fl k w d) (h1 : k ≤ 64) (h2 : w ≤ 16000000) : reprOk d = true := reprOk_rd (Nat.le_trans h.dep h1) h.rd h.sh (Nat.le_trans h.wt h2)
theorem sm_all {fl : Bool} {k w : Nat} : ∀ ds : List PyData, (∀ d ∈ ds, Sm fl k w d) → PyData.depthAll ds ≤ k ∧ rdAll ds = true ∧ (if fl then flatAll ds else !PyData.hasDictAll ds) = true ∧ PyData.showableAll ds = true ∧ wtAll ds ≤ (w + 2) * ds.length
  | [], _ => ⟨by simp [PyData.depthAll], by simp [rdAll], by cases fl <;> simp [flatAll, PyData.hasDictAll], by simp [PyData.showableAll], by simp [wtAll]⟩
  | d :: ds, h => by
    obtain ⟨a1, a2, a3, a4, a5⟩ := sm_all ds fun x hx => h x (List.mem_cons_of_mem _ hx)
    have b := h d List.mem_cons_self
    refine ⟨?_, ?_, ?_, ?_, ?_⟩
    · unfold PyData.depthAll
      exact Nat.max_le.mpr ⟨b.dep, a1⟩
    · unfold rdAll
      rw [b.rd, a2]
      rfl
    · have := b.fd
      cases fl with
      | true =>
        rw [if_pos rfl] at this a3 ⊢
        unfold flatAll
        rw [this, a3]
        rfl
      | false =>
        rw [if_neg (by decide)] at this a3 ⊢
        unfold PyData.hasDictAll
        rw [Bool.not_or, this, a3]
        rfl
    · unfold PyData.showableAll
      rw [b.sh, a4]
      rfl
    · unfold wtAll
      have := b.wt
      rw [List.length_cons, Nat.mul_succ]
      omega
theorem Sm.tup {fl : Bool} {k w : Nat} {ds : List PyData} (h : ∀ d ∈ ds, Sm fl k w d) {k' w' : Nat} (h1 : k + 1 ≤ k') (h2 : (w + 2) * ds.length + 10 ≤ w') : Sm fl k' w' (.tuple ds) := by
  obtain ⟨a1, a2, a3, a4, a5⟩ := sm_all ds h
  refine ⟨by unfold PyData.depth; omega, by unfold rdB; exact a2, ?_, by unfold PyData.showable; exact a4, by unfold Dn.wt; omega⟩
  cases fl with
  | true => rw [if_pos rfl] at a3 ⊢; unfold flatB; exact a3
  | false => rw [if_neg (by decide)] at a3 ⊢; unfold PyData.hasDict; exact a3
theorem Sm.lst {k w : Nat} {ds : List PyData} (h : ∀ d ∈ ds, Sm false k w d) {k' w' : Nat} (h1 : k + 1 ≤ k') (h2 : (w + 2) * ds.length + 10 ≤ w') : Sm false k' w' (.list ds) := by
  obtain ⟨a1, a2, a3, a4, a5⟩ := sm_all ds h
  refine ⟨by unfold PyData.depth; omega, by unfold rdB; exact a2, ?_, by unfold PyData.showable; exact a4, by unfold Dn.wt; omega⟩
  rw [if_neg (by decide)] at a3 ⊢
  unfold PyData.hasDict
  exact a3
set_option exponentiation.threshold 3000 in
theorem Sm.int {fl : Bool} {n : Int} {k w : Nat} (h : n.natAbs < 2 ^ 100) (hw : 2000 ≤ w) : Sm fl k w (.int n) := by
  have : n.natAbs.log2 < 1920 := PySem.Flt.log2_lt_of (k := 1920) (by decide) (Nat.lt_of_lt_of_le h (Nat.pow_le_pow_right (by decide) (by decide)))
  refine ⟨by simp [PyData.depth], by simp [rdB], by cases fl <;> simp [flatB, PyData.hasDict], by simpa [PyData.showable] using this, by simpa [Dn.wt] using hw⟩
theorem Sm.str {fl : Bool} {x : Str} {k w : Nat} (h : (reprText x).length ≤ w) : Sm fl k w (.str x) := ⟨by simp [PyData.depth], by simp [rdB], by cases fl <;> simp [flatB, PyData.hasDict], by simp [PyData.showable], by simpa [Dn.wt] using h⟩
theorem Sm.non {fl : Bool} {k w : Nat} (h : 10 ≤ w) : Sm fl k w .none := ⟨by simp [PyData.depth], by simp [rdB], by cases fl <;> simp [flatB, PyData.hasDict], by simp [PyData.showable], by simpa [Dn.wt] using h⟩
theorem Sm.bool {fl b : Bool} {k w : Nat} (h : 10 ≤ w) : Sm fl k w (.bool b) := ⟨by simp [PyData.depth], by simp [rdB], by cases fl <;> simp [flatB, PyData.hasDict], by simp [PyData.showable], by simpa [Dn.wt] using h⟩
/-- an item of a display, whatever the place -/
theorem atI_mem {ds : List PyData} {i : Int} (h0 : 0 ≤ i) (h1 : i < ds.length) : ∃ d, atI ds i = some d ∧ d ∈ ds := by
  have h2 : i.toNat < ds.length := by omega
  refine ⟨ds[i.toNat], ?_, List.getElem_mem h2⟩
  have := x_ixn (xs := ds) (n := i.toNat) (List.getElem?_eq_getElem h2)
  rwa [Int.toNat_of_nonneg h0] at this
end Dn

/-! Den33: data that repr can show, whatever it holds. -/
namespace Dn
open PySem PySem.Spec L2
open PyProof.Rows hiding St
/-- data that repr can show -/
structure Sn (k w : Nat) (d : PyData) : Prop where
  dep : d.depth ≤ k
  rd : rdB d = true
  sh : d.showable = true
  wt : wt d ≤ w
def snB (k w : Nat) (d : PyData) : Bool := decide (d.depth ≤ k) && (rdB d && (d.showable && decide (wt d ≤ w)))
theorem Sn.mono {k w k' w' : Nat} {d : PyData} (h : Sn k w d) (h1 : k ≤ k') (h2 : w ≤ w') : Sn k' w' d := ⟨Nat.le_trans h.dep h1, h.rd, h.sh, Nat.le_trans h.wt h2⟩
theorem Sn.repr {k w : Nat} {d : PyData} (h : Sn k w d) (h1 : k ≤ 64) (h2 : w ≤ 16000000) : reprOk d = true := reprOk_rd (Nat.le_trans h.dep h1) h.rd h.sh (Nat.le_trans h.wt h2)
theorem sn_all {k w : Nat} : ∀ ds : List PyData, (∀ d ∈ ds, Sn k w d) → PyData.depthAll ds ≤ k ∧ rdAll ds = true ∧ PyData.showableAll ds = true ∧ wtAll ds ≤ (w + 2) * ds.length
  | [], _ => ⟨by simp [PyData.depthAll], by simp [rdAll], by simp [PyData.showableAll], by simp [wtAll]⟩
  | d :: ds, h => by
    obtain ⟨a1, a2, a4, a5⟩ := sn_all ds fun x hx => h x (List.mem_cons_of_mem _ hx)
    have b := h d List.mem_cons_self
    refine ⟨?_, ?_, ?_, ?_⟩
    · unfold PyData.depthAll
      exact Nat.max_le.mpr ⟨b.dep, a1⟩
    · unfold rdAll
      rw [b.rd, a2]
      rfl
    · unfold PyData.showableAll
      rw [b.sh, a4]
      rfl
    · unfold wtAll
      have := b.wt
      rw [List.length_cons, Nat.mul_succ]
      omega
theorem Sn.tup {k w : Nat} {ds : List PyData} (h : ∀ d ∈ ds, Sn k w d) {k' w' : Nat} (h1 : k + 1 ≤ k') (h2 : (w + 2) * ds.length + 10 ≤ w') : Sn k' w' (.tuple ds) := by
  obtain ⟨a1, a2, a4, a5⟩ := sn_all ds h
  exact ⟨by unfold PyData.depth; omega, by unfold rdB; exact a2, by unfold PyData.showable; exact a4, by unfold Dn.wt; omega⟩
theorem Sn.lst {k w : Nat} {ds : List PyData} (h : ∀ d ∈ ds, Sn k w d) {k' w' : Nat} (h1 : k + 1 ≤ k') (h2 : (w + 2) * ds.length + 10 ≤ w') : Sn k' w' (.list ds) := by
  obtain ⟨a1, a2, a4, a5⟩ := sn_all ds h
  exact ⟨by unfold PyData.depth; omega, by unfold rdB; exact a2, by unfold PyData.showable; exact a4, by unfold Dn.wt; omega⟩
set_option exponentiation.threshold 3000 in
theorem Sn.int {n : Int} {k w : Nat} (h : n.natAbs < 2 ^ 100) (hw : 2000 ≤ w) : Sn k w (.int n) := by
  have : n.natAbs.log2 < 1920 := PySem.Flt.log2_lt_of (k := 1920) (by decide) (Nat.lt_of_lt_of_le h (Nat.pow_le_pow_right (by decide) (by decide)))
  refine ⟨by simp [PyData.depth], by simp [rdB], by simpa [PyData.showable] using this, by simpa [Dn.wt] using hw⟩
theorem Sn.str {x : Str} {k w : Nat} (h : (reprText x).length ≤ w) : Sn k w (.str x) := ⟨by simp [PyData.depth], by simp [rdB], by simp [PyData.showable], by simpa [Dn.wt] using h⟩
theorem Sn.non {k w : Nat} (h : 10 ≤ w) : Sn k w .none := ⟨by simp [PyData.depth], by simp [rdB], by simp [PyData.showable], by simpa [Dn.wt] using h⟩
theorem Sn.bool {b : Bool} {k w : Nat} (h : 10 ≤ w) : Sn k w (.bool b) := ⟨by simp [PyData.depth], by simp [rdB], by simp [PyData.showable], by simpa [Dn.wt] using h⟩
end Dn

/-! Den34: x[::-1] of a list or a tuple. -/
namespace Dn
open PySem PySem.Spec L2
open PyProof.Rows hiding St
section
variable {prog : Program} {w : World} {A : Around} {E : Value → Shared → Prop} {s : Shared}
theorem places_rev (n : Nat) : Builtin.Slice.slicePlaces ((n : Int) - 1) (-1) (-1) = n := by
  unfold Builtin.Slice.slicePlaces
  rw [if_neg (by decide)]
  by_cases h : (n : Int) - 1 > -1
  · rw [if_pos h]
    have : (n : Int) - 1 - -1 - 1 = (n : Int) - 1 := by omega
    rw [this, show (-(-1 : Int)) = 1 from rfl, Int.ediv_one]
    omega
  · rw [if_neg h]
    omega
theorem part_none {v : Value} (p : IsPart v none) : v = .none := by cases p; rfl
theorem sliceApplied_rev {sl : Addr} {vs : Value} {n : Nat} {Q : Int × Int × Nat → Shared → Prop} (hs : s.heap.IsSliceOf sl .none .none vs) (ps : IsPart vs (some (-1)))
    (h : Q ((n : Int) - 1, -1, n) s) : wpAny (model prog w) A (Builtin.Slice.sliceApplied (.ref sl) (pure (n : Int))) Q E s := by
  obtain ⟨os, hos, hcs, hds⟩ := id hs
  unfold Builtin.Slice.sliceApplied Builtin.Slice.sliceFields
  refine wpAny_bind (wpAny_bind (wpAny_field hos hds (x := .none) rfl (wpAny_bind (wpAny_field hos hds (x := .none) rfl (wpAny_bind (wpAny_field hos hds (x := vs) rfl (wpAny_pure ?_)))))))
  refine wpAny_bind (HT.slicePart_ ps ?_)
  show wpAny _ _ (if ((-1 : Int) == 0) = true then _ else _) _ _ s
  rw [if_neg (by decide)]
  refine wpAny_bind (HT.slicePart_ .none (wpAny_bind (HT.slicePart_ .none (wpAny_bind (wpAny_pure ?_)))))
  show wpAny _ _ (match Builtin.Slice.sliceAdjust none none (-1) (n : Int) with | (lo, hi) => pure (lo, (-1 : Int), Builtin.Slice.slicePlaces lo hi (-1))) _ _ s
  show wpAny _ _ (pure ((n : Int) - 1, (-1 : Int), Builtin.Slice.slicePlaces ((n : Int) - 1) (-1) (-1))) _ _ s
  rw [places_rev]
  exact wpAny_pure h
theorem fm_range {α : Type} : ∀ r : List α, (List.range r.length).filterMap (fun m => r[m]?) = r
  | [] => rfl
  | a :: r => by
    rw [List.length_cons, List.range_succ_eq_map, List.filterMap_cons, List.filterMap_map]
    have : ((fun m => (a :: r)[m]?) ∘ Nat.succ) = fun m => r[m]? := by funext m; simp
    rw [this, fm_range r]
    simp
theorem fm_congr {α β : Type} {f g : α → Option β} : ∀ l : List α, (∀ x ∈ l, f x = g x) → l.filterMap f = l.filterMap g
  | [], _ => rfl
  | a :: l, h => by
    rw [List.filterMap_cons, List.filterMap_cons, h a List.mem_cons_self, fm_congr l fun x hx => h x (List.mem_cons_of_mem _ hx)]
theorem pick_rev (xs : Array Value) : ((List.range xs.size).filterMap fun (m : Nat) => xs[(((xs.size : Int) - 1) + (m : Int) * (-1)).toNat]?).toArray = xs.toList.reverse.toArray := by
  congr 1
  obtain ⟨l⟩ := xs
  have e : ∀ m ∈ List.range l.length, (l.toArray[(((l.length : Int) - 1) + (m : Int) * (-1)).toNat]?) = l.reverse[m]? := fun m hm => by
    have hm := List.mem_range.mp hm
    rw [List.getElem?_reverse hm]
    have : (((l.length : Int) - 1) + (m : Int) * (-1)).toNat = l.length - 1 - m := by omega
    rw [this]
    simp
  show (List.range l.length).filterMap (fun m : Nat => l.toArray[(((l.length : Int) - 1) + (m : Int) * (-1)).toNat]?) = l.reverse
  rw [fm_congr _ e]
  have h := List.length_reverse (as := l)
  generalize l.reverse = r at h
  rw [← h]
  exact fm_range r
theorem getItem_tuple_rev {t sl : Addr} {items : Array Value} {vl vu vs : Value} {Q : Value → Shared → Prop} (ht : IsTup s.heap t items) (hs : s.heap.IsSliceOf sl vl vu vs) (pl : IsPart vl none) (pu : IsPart vu none) (ps : IsPart vs (some (-1)))
    (h : Q (.ref s.heap.objs.size) { s with heap := s.heap.push { cls := .type "tuple", data := .seq items.toList.reverse.toArray } })
    (hsz : items.size ≤ sizeLine) : wpAny (model prog w) A (getItem (.ref t) (.ref sl)) Q E s := by
  cases part_none pl
  cases part_none pu
  have htake : sizeOk (.seq items.toList.reverse.toArray) := by
    show items.toList.reverse.toArray.size ≤ sizeLine
    rw [List.size_toArray, List.length_reverse, Array.length_toList]
    omega
  obtain ⟨os, hos, hcs, hds⟩ := id hs
  have hTs : s.TypeIs (.ref sl) "slice" := ⟨os, hos, hcs⟩
  unfold getItem
  try with_reducible refine wpAny_holding ?_
  first | refine wpAny_bind (wpAny_pure ?_) | skip
  refine wpAny_bind (wpAny_sequenceKey ht.typeIs (by decide) ?_)
  refine wpAny_bind (wpAny_callSpecial?_slot (name := Str.ofString "__getitem__") ht.typeIs PyProof.Rows.slot_tuple_getitem
    (wpAny_call_entry PyProof.Rows.slot_tuple_getitem ht.typeIs entry_tuple_getitem ?_ (args_tuple_getitem _ _)))
  show wpAny _ _ (Builtin.Tuple.tupleItemsOf (.ref t) >>= _) _ _ s
  refine wpAny_bind (tupleItemsOf_ ht ?_)
  refine wpAny_bind (wpAny_typeOf hTs ?_)
  rw [if_pos (by decide)]
  refine wpAny_bind (sliceApplied_rev hs ps ?_)
  have hno : ¬ ((((items.size : Int) - 1) == 0 && (-1 : Int) == 1 && items.size == items.size) = true) := by
    intro q
    rw [Bool.and_eq_true, Bool.and_eq_true] at q
    exact absurd q.1.2 (by decide)
  show wpAny _ _ (if (((items.size : Int) - 1) == 0 && (-1 : Int) == 1 && items.size == items.size) = true then _ else _) _ _ s
  rw [if_neg hno, pick_rev]
  first
    | exact wpAny_bind (m := Builtin.Tuple.tupleExact _) (wpAny_newObj_type (wpAny_pure ⟨_, rfl, wpAny_pure h⟩) htake)
    | exact wpAny_bind (m := Builtin.Tuple.tupleExact _) (wpAny_newObj_type (wpAny_bind (wpAny_pure (wpAny_pure ⟨_, rfl, wpAny_pure h⟩))) htake)
    | exact wpAny_bind (wpAny_bind (m := Builtin.Tuple.tupleExact _) (wpAny_newObj_type (wpAny_pure (wpAny_pure ⟨_, rfl, wpAny_pure h⟩)) htake))
    | exact wpAny_bind (wpAny_bind (m := Builtin.Tuple.tupleExact _) (wpAny_newObj_type (wpAny_pure ⟨_, rfl, wpAny_pure h⟩) htake))
end
def tRevA (K : PySem.W.Frag) (te : TE) : TE := fun σ H Q => te σ H fun x H1 => ∃ a xs, x = .ref a ∧ ((SqL K H1 a xs ∧ ∀ p, H1 p = none → Q (.ref p) (upd H1 p (.lst xs.reverse))) ∨ (SqT K H1 a xs ∧ ∀ p o, H1 p = none → o.dict = none → Q (.ref p) (upd H1 p (.frz o (.tup xs.reverse)))))
theorem pe_revA {X : Cx} {e : Expr} {te : TE} {k : Nat} {p1 p2 p3 pos : Pos} (he : PE X e te) : PE X (.Subscript e (.Slice none none (some (.UnaryOp .USub (.Constant (.int 1) k p1) p2)) p3) pos) (tRevA X.K te) := by
  refine ⟨fun pins s σ H Q I h => ?_⟩
  refine Subscript_ (thn (he.run pins s σ H _ I h) fun v s1 ⟨x, H1, I1, r1, q1⟩ => ?_)
  obtain ⟨a, xs, ex, q⟩ := q1
  subst ex
  cases r1
  have hst : PO X (some (.UnaryOp .USub (.Constant (.int 1) k p1) p2)) (tPart (tUn (rU fun i => .int (-i)) (tC (.int 1)))) := po_some (pe_un un_neg pe_int)
  refine wpAny_Slice (thn (po_none.run pins s1 σ H1 (fun o H2 => o = none ∧ H2 = H1) I1 ⟨rfl, rfl⟩) fun vl s2 ⟨l, H2, I2, pl, el, e2⟩ => ?_)
  subst el e2
  refine thn (po_none.run pins s2 σ H2 (fun o H3 => o = none ∧ H3 = H2) I2 ⟨rfl, rfl⟩) fun vu s3 ⟨u, H3, I3, pu, eu, e3⟩ => ?_
  subst eu e3
  refine thn (hst.run pins s3 σ H3 (fun o H4 => o = some (-1) ∧ H4 = H3) I3 ⟨1, rfl, -1, rfl, rfl, rfl⟩) fun vs s4 ⟨o, H4, I4, ps, eo, e4⟩ => ?_
  subst eo e4
  have I5 : Inv X pins σ H4 { s4 with heap := s4.heap.push { cls := .type "slice", data := .fields #[vl, vu, vs] } } := I4.kept (t' := s4.toks) fun b ob q => Heap.get?_push_of_some _ q
  show wpAny (model X.prog X.w) X.A (subscriptTail e (.Slice none none (some (.UnaryOp .USub (.Constant (.int 1) k p1) p2)) p3) (.ref a) (.ref s4.heap.objs.size)) (EP X pins σ Q) X.xe { s4 with heap := s4.heap.push { cls := .type "slice", data := .fields #[vl, vu, vs] } }
  rcases q with ⟨hx, q⟩ | ⟨hx, q⟩
  · obtain ⟨its, r, ht, hz⟩ := I5.list hx
    have hlen := r.length
    refine tail_any (ops := [.ref a, .ref s4.heap.objs.size]) ht.isList.typeIs (PySem.slot_list_getitem.lookup) ?_ (by with_unfolding_all rfl)
    refine wpAny_getItem_list_slice ht.isList (Heap.IsSliceOf.new _ vl vu vs) pl pu ps (by decide) ?_ (by rw [List.size_toArray]; omega)
    rw [PySem.W.krv_pick]
    refine ⟨.ref _, _, I5.laid (t' := s4.toks) (o := .lst xs.reverse) (fun b ob q => Heap.get?_push_of_some _ q) (Nat.le_refl _) ?_, rfl, q _ (I5.hok.fresh (Nat.le_refl _))⟩
    exact ⟨by rw [List.length_reverse]; exact hz, _, 0, r.reverse, Heap.get?_push_size _ rfl⟩
  · obtain ⟨its, r, ht, hz⟩ := I5.tuple hx
    have hlen := r.length
    refine tail_any (ops := [.ref a, .ref s4.heap.objs.size]) ht.typeIs (PyProof.Rows.slot_tuple_getitem.lookup) ?_ (by with_unfolding_all rfl)
    refine getItem_tuple_rev ht (Heap.IsSliceOf.new _ vl vu vs) pl pu ps ?_ (by rw [List.size_toArray]; omega)
    exact ⟨.ref _, _, laid_tup (t' := s4.toks) I5 r.reverse (by rw [List.length_reverse]; exact hz), rfl, q _ _ (I5.hok.fresh (Nat.le_refl _)) rfl⟩
def pRev : PyData → Option Slot
  | .list ds => some (.own ds.reverse)
  | .tuple ds => some (.val (.tuple ds.reverse))
  | _ => none
def dRevS (x : DenO) : Den := fun Φ ρ => (x Φ ρ).bind fun y => (opt (pRev y.1)).bind fun s => .ok (s, y.2)
section
variable {Γ : Ctx} {a : Expr} {x : DenO} {p m : Bool} {k : Nat} {p1 p2 p3 pos : Pos}
theorem snd_revS (ha : SndO Γ a x p m) : SndE Γ (.Subscript a (.Slice none none (some (.UnaryOp .USub (.Constant (.int 1) k p1) p2)) p3) pos) (dRevS x) p := by
  intro X Φ B F H ρ σ Q W C hK T R hq
  refine PE.w (pe_revA pe_w) ?_
  refine ha X Φ B F H ρ σ _ W C hK T R (wp_mono (wp_bind (c := x Φ ρ) hq) (fun y q v F1 H1 R1 e1 e2 hv => ?_) fun _ q => q)
  obtain ⟨y, ρ1⟩ := y
  have hb := Vp.bp (m := m) hv
  cases y with
  | list ds =>
    obtain ⟨l, vs, rfl, k1, k2⟩ := hb.lst R1.kept.ex
    exact ⟨l, vs, rfl, .inl ⟨.inl (.inl k1), fun t ht => pq_of R1 e1 e2 q _ _ ht (RpAll.rev k2)⟩⟩
  | tuple ds =>
    obtain ⟨l, o, vs, rfl, k1, k0, k2⟩ := hb.tup
    exact ⟨l, vs, rfl, .inr ⟨.inl (.inr ⟨_, R1.kept.ex _ _ k1⟩), fun t o ht ho => pq_tup R1.kept.ex (pq_of R1 e1 e2 q) ht ho (RpAll.rev k2)⟩⟩
  | _ => exact q.elim
end
def kRv (ρ : Env) : Option Slot → Out (Slot × Env) := fun o => (opt o).bind fun s => .ok (s, ρ)
def kRev : PyData × Env → Out (Slot × Env) := fun y => kRv y.2 (pRev y.1)
section
variable {x : DenO} {Φ : Calls} {ρ : Env} {ds : List PyData}
@[simp] theorem x_dRevS : dRevS x Φ ρ = (x Φ ρ).bind kRev := id rfl
@[simp] theorem x_dRevS1 : kRev (.list ds, ρ) = .ok (.own ds.reverse, ρ) := id rfl
@[simp] theorem x_dRevS2 : kRev (.tuple ds, ρ) = .ok (.val (.tuple ds.reverse), ρ) := id rfl
end
end Dn

/-! Den35: own dicts (keys whole numbers and texts, or tuples of whole numbers): made, read, stored, walked. -/
namespace Dn
open PySem PySem.Spec L2
open PyProof.Rows hiding St

/-! ### tables as data -/
def kEq : PyData → PyData → Bool
  | .int i, .int j => decide (i = j)
  | .str a, .str b => decide (a = b)
  | .tuple as, .tuple bs => match numsOf as, numsOf bs with
    | some x, some y => decide (x = y)
    | _, _ => false
  | _, _ => false
def lookD (es : List (PyData × PyData)) (k : PyData) : Option PyData := (es.find? fun e => kEq e.1 k).map (·.2)
def putD (es : List (PyData × PyData)) (k v : PyData) : List (PyData × PyData) := if (lookD es k).isSome = true then es.map (fun e => if kEq e.1 k = true then (e.1, v) else e) else es ++ [(k, v)]
def keyK : PyData → Option Key
  | .int i => some (.inl i)
  | .str s => some (.inr s)
  | _ => none
def keyT : PyData → Option (List Int)
  | .tuple ds => numsOf ds
  | _ => none
/-- what is found stands for what is found -/
def LookR (K : PySem.W.Frag) (F : Hp) : Option PyData → Option V → Prop
  | none, none => True
  | some d, some v => Rp K F d v
  | _, _ => False
def valI (kvs : List (List Int × Addr × V)) (k : List Int) : Option V := (kvs.find? fun x => decide (x.1 = k)).map (·.2.2)
def putI (kvs : List (List Int × Addr × V)) (k : List Int) (b : Addr) (v : V) : List (List Int × Addr × V) := if (valI kvs k).isSome = true then kvs.map (fun x => if x.1 = k then (x.1, x.2.1, v) else x) else kvs ++ [(k, b, v)]
section
variable {K : PySem.W.Frag} {F H : Hp}
end

/-! ### the object behind -/
abbrev PtI : List (List Int × Addr × V) → List (List Int × Addr × Value) → Prop := Paired fun (p : List Int × Addr × V) (q : List Int × Addr × Value) => p.1 = q.1 ∧ p.2.1 = q.2.1 ∧ RelV p.2.2 q.2.2
theorem PtI.look {kvs : List (List Int × Addr × V)} {xs : List (List Int × Addr × Value)} (r : PtI kvs xs) (k : List Int) : RelO (valI kvs k) ((atKey xs k).map (·.2)) := by
  induction r with
  | nil => exact trivial
  | @cons p q ps qs h t ih =>
    obtain ⟨h1, _, h2⟩ := h
    by_cases c : p.1 = k
    · have l2 : valI (p :: ps) k = some p.2.2 := by simp only [valI, List.find?_cons, c, decide_true, Option.map_some]
      have c' : q.1 = k := h1.symm.trans c
      have l3 : atKey (q :: qs) k = some q.2 := by simp only [atKey, List.find?_cons, c', decide_true, Option.map_some]
      rw [l2, l3]
      exact h2
    · have l2 : valI (p :: ps) k = valI ps k := by simp only [valI, List.find?_cons, c, decide_false]
      have c' : ¬ q.1 = k := fun z => c (h1.trans z)
      have l3 : atKey (q :: qs) k = atKey qs k := by simp only [atKey, List.find?_cons, c', decide_false]
      rw [l2, l3]
      exact ih
theorem PtI.put {kvs : List (List Int × Addr × V)} {xs : List (List Int × Addr × Value)} (r : PtI kvs xs) (k : List Int) {b : Addr} {v : V} {u : Value} (rv : RelV v u) : PtI (putI kvs k b v) (storedH xs k b u) := by
  have e : (valI kvs k).isSome = (atKey xs k).isSome := by rw [(r.look k).isSome_eq, Option.isSome_map]
  unfold putI storedH
  rw [e]
  by_cases c : (atKey xs k).isSome = true
  · rw [if_pos c, if_pos c]
    clear e c
    induction r with
    | nil => exact .nil
    | @cons p q ps qs h t ih =>
      rw [List.map_cons, List.map_cons]
      refine .cons ?_ ih
      obtain ⟨h1, h2, h3⟩ := h
      unfold putAt
      by_cases c : p.1 = k
      · rw [if_pos c, if_pos (h1.symm.trans c)]
        exact ⟨h1, h2, rv⟩
      · rw [if_neg c, if_neg fun z => c (h1.trans z)]
        exact ⟨h1, h2, h3⟩
  · rw [if_neg c, if_neg c]
    exact Paired.snoc r ⟨rfl, rfl, rv⟩
section
variable {X : Cx} {pins : List (Addr × Obj)} {σ : St} {H : Hp} {s : Shared} {a b c : Addr} {kvs : List (List Int × Addr × V)} {es : List (PyData × PyData)} {k : List Int}
theorem items_int {P : Program} {w : World} : ∀ {ks : List Int} {us : List Value}, Vals (ks.map V.int) us → ItemsAre (intKind P w) ks us
  | [], _, r => by
    rw [List.map_nil] at r
    cases r
    exact .nil
  | k :: ks, _, r => by
    rw [List.map_cons] at r
    cases r with
    | cons h t =>
      obtain ⟨tk, e⟩ := (show ∃ t, _ = Value.int k t from h)
      subst e
      exact .cons (show Value.isInt k (.int k tk) = true by simp [Value.isInt]) (items_int t)
theorem rp_ints {K : PySem.W.Frag} {F : Hp} : ∀ {ks : List Int} {vs : List V}, RpAll K F (ks.map .int) vs → vs = ks.map V.int
  | [], _, h => by
    rw [List.map_nil] at h
    cases h
    rfl
  | k :: ks, _, h => by
    rw [List.map_cons] at h
    cases h with
    | cons h1 h2 =>
      cases h1
      rw [rp_ints h2]
      rfl
/-- a frozen tuple of whole numbers is a key -/
theorem keyI {K : PySem.W.Frag} (I : Inv X pins σ H s) (r : Rp K H (.tuple (k.map .int)) (.ref c)) : (tupleKind (intKind X.prog X.w)).is s.heap k c := by
  cases r with
  | tup h1 _ h3 =>
    have e := rp_ints h3
    subst e
    obtain ⟨_, _, its, rv, ob, g1, g2, n, g3⟩ := (show ObjOk X.prog X.w H s.heap c (.frz _ (.tup (k.map V.int))) from I.hok c _ h1)
    exact ⟨ob, its.toArray, n, g1, g2, g3, by simpa using items_int rv⟩
theorem RpI.keys {K : PySem.W.Frag} (I : Inv X pins σ H s) : ∀ {es : List (PyData × PyData)} {kvs : List (List Int × Addr × V)} {xs : List (List Int × Addr × Value)}, RpI K H es kvs → PtI kvs xs → ∀ x ∈ xs, (tupleKind (intKind X.prog X.w)).is s.heap x.1 x.2.1
  | _, _, _, .nil, q, x, hx => by
    cases q
    exact absurd hx List.not_mem_nil
  | _, _, _, .cons h0 _ h2, .cons z t, x, hx => by
    rcases List.mem_cons.mp hx with e | hx
    · subst e
      rw [← z.1, ← z.2.1]
      exact keyI I h0
    · exact RpI.keys I h2 t x hx
/-- what stands at a key -/
def TGet (K : PySem.W.Frag) (H : Hp) (a : Addr) (y : V) (r : Option V) : Prop := DGet H a y r ∨ ∃ b kvs k c es, H a = some (tabO b kvs) ∧ y = .ref c ∧ RpI K H es kvs ∧ Rp K H (.tuple (k.map .int)) (.ref c) ∧ r = valI kvs k
variable {y v : V} {u w : Value} {r : Option V} {A : Around} {E : Value → Shared → Prop}
/-- the heap behind a store -/
def TPut (K : PySem.W.Frag) (H : Hp) (a : Addr) (y v : V) (H' : Hp) : Prop := DPut H a y v H' ∨ ∃ b kvs k c es, H a = some (tabO b kvs) ∧ y = .ref c ∧ RpI K H es kvs ∧ Rp K H (.tuple (k.map .int)) (.ref c) ∧ kvs.length < sizeLine ∧ H' = upd H a (tabO a (putI kvs k c v))
end

/-! ### as rules -/
def rTGet (K : PySem.W.Frag) : R2 := fun x y H Q => ∃ a v, x = .ref a ∧ TGet K H a y (some v) ∧ Q v H
def rTIn (K : PySem.W.Frag) : R2 := fun y x H Q => ∃ a r, x = .ref a ∧ TGet K H a y r ∧ Q (.bl r.isSome) H
def rTNin (K : PySem.W.Frag) : R2 := fun y x H Q => ∃ a r, x = .ref a ∧ TGet K H a y r ∧ Q (.bl (!r.isSome)) H
def rTPut (K : PySem.W.Frag) : TSet := fun o i v H Q => ∃ a H', o = .ref a ∧ TPut K H a i v H' ∧ Q H'
section
variable {X : Cx}
end

/-! ### meanings -/
def tabOf : Slot → Option (Bool × List (PyData × PyData))
  | .odc t es => some (t, es)
  | .val (.dict es) => some (false, es)
  | _ => none
def kOk (t : Bool) (d : PyData) : Bool := if t = true then (keyT d).isSome else (keyK d).isSome
def isTab (ρ : Env) (i : Nat) : Bool := ((ρ[i]?).bind tabOf).isSome
section
variable {B : Bd} {F H : Hp} {ρ : Env} {σ : St}
end
/-- d[k] -/
def dTGet (i : Nat) (k : DenO) : Den := fun Φ ρ => guard' (isTab ρ i) ((k Φ ρ).bind fun x => match (x.2[i]?).bind tabOf with
  | some (t, es) => guard' (kOk t x.1) ((opt (lookD es x.1)).bind fun d => .ok (.val d, x.2))
  | none => .stuck)
/-- k in d, k not in d -/
def dTIn (neg : Bool) (i : Nat) (k : DenO) : Den := fun Φ ρ => (k Φ ρ).bind fun x => match (x.2[i]?).bind tabOf with
  | some (t, es) => guard' (kOk t x.1) (.ok (.val (.bool (if neg = true then !(lookD es x.1).isSome else (lookD es x.1).isSome)), x.2))
  | none => .stuck
/-- d[k] = v -/
def dTPut (i : Nat) (k : DenO) (e : Den) : DenS := fun Φ ρ => (oOf e Φ ρ).bind fun r => guard' (isTab r.2 i) ((k Φ r.2).bind fun j => match j.2[i]? with
  | some (.odc t es) => guard' (kOk t j.1 && decide (es.length < 1000000)) (.ok (.nx, j.2.set i (.odc t (putD es j.1 r.1))))
  | _ => .stuck)
def dNewD (t : Bool) : Den := fun _ ρ => .ok (.odc t [], ρ)
section
variable {Γ : Ctx} {x : Str} {i : Nat} {k : DenO} {p m : Bool} {c e : Expr} {d : Den} {xpos pos spos : Pos}
def tNewTab : TE := fun _ H Q => ∀ p, H p = none → Q (.ref p) (upd H p (tabO p []))
end

/-! ### {k: None} of a tuple of whole numbers -/
def tDispN (ty : TE) : TE := fun σ H Q => ∀ p, H p = none → ty σ (upd H p (tabO p [])) fun y H2 => H2 p = some (tabO p []) ∧ ∃ k c, y = .ref c ∧ (∃ K : PySem.W.Frag, Rp K H2 (.tuple (k.map .int)) (.ref c)) ∧ Q (.ref p) (upd H2 p (tabO p [(k, c, .non)]))
def dDispN (j : Nat) : Den := fun _ ρ => match ρ[j]? with
  | some (.val d) => guard' (keyT d).isSome (.ok (.odc true [(d, .none)], ρ))
  | _ => .stuck
/-- {i: n} -/
def dDispI (i n : Int) : Den := fun _ ρ => .ok (.odc false [(.int i, .int n)], ρ)
/-- d.get(k, x) -/
def dTGet2 (i : Nat) (a : DenOs) : Den := fun Φ ρ => guard' (isTab ρ i) ((a Φ ρ).bind fun x => match (x.2[i]?).bind tabOf, x.1 with
  | some (false, es), [k, d] => guard' (keyK k).isSome (.ok (.val ((lookD es k).getD d), x.2))
  | _, _ => .stuck)
/-- the keys: the dict stands still from here on -/
def iDictK (i : Nat) : DenI := fun _ ρ => match ρ[i]? with
  | some (.odc false es) => .ok (es.map (·.1), ρ.set i (.val (.dict es)))
  | _ => .stuck
/-- list(d) of a new dict -/
def dListD (d : Den) : Den := fun Φ ρ => (d Φ ρ).bind fun r => match r.1 with
  | .odc true es => guard' (decide (es.length ≤ 1000000)) (.ok (.own (es.map (·.1)), r.2))
  | _ => .stuck
section
variable {B : Bd} {F H : Hp} {ρ : Env} {σ : St} {s : Slot} {a : Addr} {o o' : HO}
end
section
variable {Γ : Ctx} {x : Str} {i : Nat} {k : DenO} {p m : Bool} {c e : Expr} {d : Den} {xpos pos spos apos fpos : Pos}
def rListTab (K : PySem.W.Frag) : List V → Hp → VK → Prop := fun xs H Q => ∃ a b kvs es, xs = [V.ref a] ∧ H a = some (tabO b kvs) ∧ RpI K H es kvs ∧ ∀ p, H p = none → Q (.ref p) (upd H p (.lst (kvs.map fun x => .ref x.2.1)))
/-- a bar b -/
def pOrI : Prim := pI2 yes2 fun i j => .int (Builtin.bitOr i j)
end
end Dn

/-! Den36: d.get(k, x), a name's own thing moved, range with a step, tuple(range). -/
namespace Dn
open PySem PySem.Spec L2
open PyProof.Rows hiding St
def isTabF (ρ : Env) (i : Nat) : Bool := match (ρ[i]?).bind tabOf with
  | some (false, _) => true
  | _ => false
def dTGetD (i : Nat) (a : DenOs) : Den := fun Φ ρ => guard' (isTabF ρ i) ((a Φ ρ).bind fun x => match (x.2[i]?).bind tabOf, x.1 with
  | some (false, es), [k, d] => guard' (keyK k).isSome (.ok (.val ((lookD es k).getD d), x.2))
  | _, _ => .stuck)
section
variable {B : Bd} {F H : Hp} {ρ : Env} {σ : St}
end
section
variable {Γ : Ctx} {x y : Str} {i j : Nat} {a b c : Expr} {d d' d2 : DenO} {as : DenOs} {p p' p2 m m' m2 : Bool} {xpos pos pos' apos fpos rpos lpos : Pos} {tg : Expr}
/-- y = x: what x owns goes over -/
def dMvS (i j : Nat) : DenS := fun _ ρ => match ρ[j]? with
  | some (.val d) => .ok (.nx, ρ.set i (.val d))
  | some (.own ds) => .ok (.nx, (ρ.set j .un).set i (.own ds))
  | some (.odc t es) => .ok (.nx, (ρ.set j .un).set i (.odc t es))
  | _ => .stuck
/-- range(a, b, c) -/
def rngC (lo c : Int) (n : Nat) : List PyData := (List.range n).map fun i => .int (lo + (i : Nat) * c)
def rg3B (i j c : Int) (n : Nat) : Bool := decide (c ≠ 0) && decide (c.natAbs < 1073741824) && Builtin.Range.small i j c && decide (Builtin.Range.rangeSize i j c = n)
def iR3 (a b c : DenO) : DenI := fun Φ ρ => (a Φ ρ).bind fun r => (b Φ r.2).bind fun s => (c Φ s.2).bind fun t => match r.1, s.1, t.1 with
  | .int i, .int j, .int k => guard' (rg3B i j k (Builtin.Range.rangeSize i j k).toNat) (.ok (rngC i k (Builtin.Range.rangeSize i j k).toNat, t.2))
  | _, _, _ => .stuck
/-- tuple(range(a)), the object known -/
def tTupRgF (te : St → Hp → (Int → Int → Hp → Prop) → Prop) : TE := fun σ H Q => te σ H fun a b H1 => RgOk a b ∧ ∀ q o, H1 q = none → o.dict = none → Q (.ref q) (upd H1 q (.frz o (.tup (rgV a b))))
def dTupR (so : DenI) : Den := fun Φ ρ => (so Φ ρ).bind fun r => guard' (decide (r.1.length ≤ 1000000)) (.ok (.val (.tuple r.1), r.2))
end
/-! ### insert -/
def rInsertP : V → List V → Hp → VK → Prop := fun x vs H Q => ∃ (l : Addr) (xs : List V) (i : Int) (y : V), x = .ref l ∧ vs = [.int i, y] ∧ H l = some (.lst xs) ∧ xs.length < sizeLine ∧ 0 ≤ i ∧ i < 2 ^ 63 ∧ Q .non (upd H l (.lst (xs.take i.toNat ++ [y] ++ xs.drop i.toNat)))
def mInsert : MutF := fun ds as => match as with
  | [.int i, d] => if decide (0 ≤ i) && decide (i < 2 ^ 62) && decide (ds.length < 1000000) then some (.none, ds.take i.toNat ++ [d] ++ ds.drop i.toNat) else none
  | _ => none
section
variable {Γ : Ctx} {as : DenOs} {p : Bool} {pos xpos apos : Pos} {e f : Expr} {x : Str} {i : Nat}
end
end Dn

/-! Den37: how the meanings of Den35, Den36 are taken apart. -/
namespace Dn
open PySem PySem.Spec L2
open PyProof.Rows hiding St
section
variable {Φ : Calls} {ρ : Env} {a b c : DenO} {e d : Den} {as : DenOs} {i j : Nat} {x k v : PyData} {ds : List PyData} {es : List (PyData × PyData)} {t neg : Bool} {s : Slot} {n m : Int} {so : DenI}
@[simp] theorem x_isTab : isTab ρ i = ((ρ[i]?).bind tabOf).isSome := id rfl
@[simp] theorem x_tabOf1 : tabOf (.odc t es) = some (t, es) := id rfl
@[simp] theorem x_tabOf2 : tabOf (.val (.dict es)) = some (false, es) := id rfl
def kTg2 (o : Option PyData) (ρ : Env) : Out (Slot × Env) := (opt o).bind fun d => .ok (.val d, ρ)
def kTg (o : Option (Bool × List (PyData × PyData))) (x : PyData) (ρ : Env) : Out (Slot × Env) := match o with
  | some (t, es) => guard' (kOk t x) (kTg2 (lookD es x) ρ)
  | none => .stuck
def kTg0 (i : Nat) : PyData × Env → Out (Slot × Env) := fun x => kTg ((x.2[i]?).bind tabOf) x.1 x.2
@[simp] theorem x_dTGet : dTGet i a Φ ρ = guard' (isTab ρ i) ((a Φ ρ).bind (kTg0 i)) := id rfl
@[simp] theorem x_dTGet0 : kTg0 i (x, ρ) = kTg ((ρ[i]?).bind tabOf) x ρ := id rfl
@[simp] theorem x_dTGet1 : kTg (some (t, es)) x ρ = guard' (kOk t x) (kTg2 (lookD es x) ρ) := id rfl
@[simp] theorem x_dTGet2 : kTg2 (some x) ρ = .ok (.val x, ρ) := id rfl
def kTi (neg : Bool) (o : Option (Bool × List (PyData × PyData))) (x : PyData) (ρ : Env) : Out (Slot × Env) := match o with
  | some (t, es) => guard' (kOk t x) (.ok (.val (.bool (if neg = true then !(lookD es x).isSome else (lookD es x).isSome)), ρ))
  | none => .stuck
def kTi0 (neg : Bool) (i : Nat) : PyData × Env → Out (Slot × Env) := fun x => kTi neg ((x.2[i]?).bind tabOf) x.1 x.2
@[simp] theorem x_dTIn : dTIn neg i a Φ ρ = (a Φ ρ).bind (kTi0 neg i) := id rfl
@[simp] theorem x_dTIn0 : kTi0 neg i (x, ρ) = kTi neg ((ρ[i]?).bind tabOf) x ρ := id rfl
@[simp] theorem x_dTIn1 : kTi true (some (t, es)) x ρ = guard' (kOk t x) (.ok (.val (.bool (!(lookD es x).isSome)), ρ)) := id rfl
@[simp] theorem x_dTIn2 : kTi false (some (t, es)) x ρ = guard' (kOk t x) (.ok (.val (.bool ((lookD es x).isSome)), ρ)) := id rfl
def kTp2 (o : Option Slot) (i : Nat) (k v : PyData) (ρ : Env) : Out (Fl × Env) := match o with
  | some (.odc t es) => guard' (kOk t k && decide (es.length < 1000000)) (.ok (.nx, ρ.set i (.odc t (putD es k v))))
  | _ => .stuck
def kTp1 (i : Nat) (v : PyData) : PyData × Env → Out (Fl × Env) := fun j => kTp2 (j.2[i]?) i j.1 v j.2
def kTp (i : Nat) (a : DenO) (Φ : Calls) : PyData × Env → Out (Fl × Env) := fun r => guard' (isTab r.2 i) ((a Φ r.2).bind (kTp1 i r.1))
@[simp] theorem x_dTPut : dTPut i a e Φ ρ = (oOf e Φ ρ).bind (kTp i a Φ) := id rfl
@[simp] theorem x_dTPut0 : kTp i a Φ (v, ρ) = guard' (isTab ρ i) ((a Φ ρ).bind (kTp1 i v)) := id rfl
@[simp] theorem x_dTPut1 : kTp1 i v (k, ρ) = kTp2 (ρ[i]?) i k v ρ := id rfl
@[simp] theorem x_dTPut2 : kTp2 (some (.odc t es)) i k v ρ = guard' (kOk t k && decide (es.length < 1000000)) (.ok (.nx, ρ.set i (.odc t (putD es k v)))) := id rfl
@[simp] theorem x_dNewD : dNewD t Φ ρ = .ok (.odc t [], ρ) := id rfl
@[simp] theorem x_dDispI : dDispI n m Φ ρ = .ok (.odc false [(.int n, .int m)], ρ) := id rfl
def kDn (o : Option Slot) (ρ : Env) : Out (Slot × Env) := match o with
  | some (.val d) => guard' (keyT d).isSome (.ok (.odc true [(d, .none)], ρ))
  | _ => .stuck
@[simp] theorem x_dDispN : dDispN j Φ ρ = kDn (ρ[j]?) ρ := id rfl
@[simp] theorem x_dDispN1 : kDn (some (.val x)) ρ = guard' (keyT x).isSome (.ok (.odc true [(x, .none)], ρ)) := id rfl
def kIk (o : Option Slot) (i : Nat) (ρ : Env) : Out (List PyData × Env) := match o with
  | some (.odc false es) => .ok (es.map (·.1), ρ.set i (.val (.dict es)))
  | _ => .stuck
@[simp] theorem x_iDictK : iDictK i Φ ρ = kIk (ρ[i]?) i ρ := id rfl
@[simp] theorem x_iDictK1 : kIk (some (.odc false es)) i ρ = .ok (es.map (·.1), ρ.set i (.val (.dict es))) := id rfl
def kLd : Slot × Env → Out (Slot × Env) := fun r => match r.1 with
  | .odc true es => guard' (decide (es.length ≤ 1000000)) (.ok (.own (es.map (·.1)), r.2))
  | _ => .stuck
@[simp] theorem x_dListD : dListD d Φ ρ = (d Φ ρ).bind kLd := id rfl
@[simp] theorem x_dListD1 : kLd (.odc true es, ρ) = guard' (decide (es.length ≤ 1000000)) (.ok (.own (es.map (·.1)), ρ)) := id rfl
@[simp] theorem x_isTabF1 : isTabF (.odc false es :: ρ) 0 = true := id rfl
@[simp] theorem x_isTabF2 : isTabF (.val (.dict es) :: ρ) 0 = true := id rfl
@[simp] theorem x_isTabF3 : isTabF (s :: ρ) (i + 1) = isTabF ρ i := by
  unfold isTabF
  rw [List.getElem?_cons_succ]
def kGd (o : Option (Bool × List (PyData × PyData))) (l : List PyData) (ρ : Env) : Out (Slot × Env) := match o, l with
  | some (false, es), [k, d] => guard' (keyK k).isSome (.ok (.val ((lookD es k).getD d), ρ))
  | _, _ => .stuck
def kGd0 (i : Nat) : List PyData × Env → Out (Slot × Env) := fun x => kGd ((x.2[i]?).bind tabOf) x.1 x.2
@[simp] theorem x_dTGetD : dTGetD i as Φ ρ = guard' (isTabF ρ i) ((as Φ ρ).bind (kGd0 i)) := id rfl
@[simp] theorem x_dTGetD0 : kGd0 i (ds, ρ) = kGd ((ρ[i]?).bind tabOf) ds ρ := id rfl
@[simp] theorem x_dTGetD1 : kGd (some (false, es)) [k, v] ρ = guard' (keyK k).isSome (.ok (.val ((lookD es k).getD v), ρ)) := id rfl
def kMv (o : Option Slot) (i j : Nat) (ρ : Env) : Out (Fl × Env) := match o with
  | some (.val d) => .ok (.nx, ρ.set i (.val d))
  | some (.own ds) => .ok (.nx, (ρ.set j .un).set i (.own ds))
  | some (.odc t es) => .ok (.nx, (ρ.set j .un).set i (.odc t es))
  | _ => .stuck
@[simp] theorem x_dMvS : dMvS i j Φ ρ = kMv (ρ[j]?) i j ρ := id rfl
@[simp] theorem x_dMvS1 : kMv (some (.val x)) i j ρ = .ok (.nx, ρ.set i (.val x)) := id rfl
@[simp] theorem x_dMvS2 : kMv (some (.own ds)) i j ρ = .ok (.nx, (ρ.set j .un).set i (.own ds)) := id rfl
@[simp] theorem x_dMvS3 : kMv (some (.odc t es)) i j ρ = .ok (.nx, (ρ.set j .un).set i (.odc t es)) := id rfl
@[simp] theorem x_kOkI : kOk false (.int n) = true := id rfl
@[simp] theorem x_kOkP {p : Int × Int} : kOk true (prD p) = true := id rfl
@[simp] theorem x_kOkP2 : kOk true (.tuple [.int n, .int m]) = true := id rfl
@[simp] theorem x_keyKI : keyK (.int n) = some (.inl n) := id rfl
@[simp] theorem x_keyTP {p : Int × Int} : keyT (prD p) = some [p.1, p.2] := id rfl
@[simp] theorem x_keyTP2 : keyT (.tuple [.int n, .int m]) = some [n, m] := id rfl
@[simp] theorem x_orI : pOrI [.int n, .int m] = some (.val (.int (Builtin.bitOr n m))) := id rfl
def kTr : List PyData × Env → Out (Slot × Env) := fun r => guard' (decide (r.1.length ≤ 1000000)) (.ok (.val (.tuple r.1), r.2))
@[simp] theorem x_dTupR : dTupR so Φ ρ = (so Φ ρ).bind kTr := id rfl
@[simp] theorem x_dTupR1 : kTr (ds, ρ) = guard' (decide (ds.length ≤ 1000000)) (.ok (.val (.tuple ds), ρ)) := id rfl
def kR3c (x y : PyData) : PyData × Env → Out (List PyData × Env) := fun t => match x, y, t.1 with
  | .int i, .int j, .int k => guard' (rg3B i j k (Builtin.Range.rangeSize i j k).toNat) (.ok (rngC i k (Builtin.Range.rangeSize i j k).toNat, t.2))
  | _, _, _ => .stuck
def kR3b (c : DenO) (Φ : Calls) (x : PyData) : PyData × Env → Out (List PyData × Env) := fun s => (c Φ s.2).bind (kR3c x s.1)
def kR3 (b c : DenO) (Φ : Calls) : PyData × Env → Out (List PyData × Env) := fun r => (b Φ r.2).bind (kR3b c Φ r.1)
@[simp] theorem x_iR3 : iR3 a b c Φ ρ = (a Φ ρ).bind (kR3 b c Φ) := id rfl
@[simp] theorem x_iR3a : kR3 b c Φ (x, ρ) = (b Φ ρ).bind (kR3b c Φ x) := id rfl
@[simp] theorem x_iR3b : kR3b c Φ x (k, ρ) = (c Φ ρ).bind (kR3c x k) := id rfl
@[simp] theorem x_iR3c {l : Int} : kR3c (.int n) (.int m) (.int l, ρ) = guard' (rg3B n m l (Builtin.Range.rangeSize n m l).toNat) (.ok (rngC n l (Builtin.Range.rangeSize n m l).toNat, ρ)) := id rfl
end
/-! ### tables of pairs -/
/-- keys pairs -/
def tabP {α : Type} (f : α → PyData) (L : List ((Int × Int) × α)) : List (PyData × PyData) := L.map fun e => (prD e.1, f e.2)
def lookL {κ α : Type} [DecidableEq κ] (L : List (κ × α)) (k : κ) : Option α := (L.find? fun e => decide (e.1 = k)).map (·.2)
def putL {κ α : Type} [DecidableEq κ] (L : List (κ × α)) (k : κ) (v : α) : List (κ × α) := if (lookL L k).isSome = true then L.map (fun e => if e.1 = k then (e.1, v) else e) else L ++ [(k, v)]
section
variable {κ α : Type} [DecidableEq κ]
theorem lookL_none {L : List (κ × α)} {k : κ} : lookL L k = none ↔ k ∉ L.map (·.1) := by
  unfold lookL
  rw [Option.map_eq_none_iff, List.find?_eq_none, List.mem_map]
  constructor
  · rintro h ⟨e, he, rfl⟩
    exact h e he (decide_eq_true rfl)
  · intro h e he z
    exact h ⟨e, he, of_decide_eq_true z⟩
theorem lookL_some {L : List (κ × α)} {k : κ} {v : α} (h : lookL L k = some v) : (k, v) ∈ L := by
  obtain ⟨e, he, rfl⟩ := Option.map_eq_some_iff.mp h
  have h1 := List.mem_of_find?_eq_some he
  have h2 : e.1 = k := by simpa using List.find?_some he
  rw [← h2]
  exact h1
theorem lookL_of {L : List (κ × α)} (nd : (L.map (·.1)).Nodup) {k : κ} {v : α} (h : (k, v) ∈ L) : lookL L k = some v := by
  induction L with
  | nil => cases h
  | cons e L ih =>
    rw [List.map_cons, List.nodup_cons] at nd
    unfold lookL
    rw [List.find?_cons]
    rcases List.mem_cons.mp h with z | z
    · subst z
      simp
    · have ne : ¬ e.1 = k := fun q => nd.1 (by rw [q]; exact List.mem_map.mpr ⟨_, z, rfl⟩)
      simp only [ne, decide_false]
      exact ih nd.2 z
end
end Dn

/-! Den38: things of any kind, for the laws that hand them in (plain). -/
namespace Dn
open PySem PySem.Spec L2
open PyProof.Rows hiding St
/-- small data -/
abbrev L0 (d : PyData) : Prop := Sn 12 17000 d
theorem big100' : (1000000 : Nat) < 2 ^ 100 := by decide
theorem L0.int {i : Int} (h : -1000000 < i ∧ i < 1000000) : Sn 1 2000 (.int i) := .int (Nat.lt_trans (by omega) big100') (by decide)
theorem L0.tup8 {ds : List PyData} (h : ∀ d ∈ ds, Sn 11 2000 d) (hl : ds.length ≤ 8) : L0 (.tuple ds) := .tup (k := 11) (w := 2000) h (by decide) (by omega)
theorem L0.ns {ns : List Int} (h : ∀ i ∈ ns, -1000000 < i ∧ i < 1000000) (hl : ns.length ≤ 8) : L0 (.tuple (nsD ns)) := .tup8 (fun d hd => by
  obtain ⟨i, hi, rfl⟩ := List.mem_map.mp hd
  exact (L0.int (h i hi)).mono (by decide) (by decide)) (by rw [List.length_map]; exact hl)
theorem L0.pr {p : Int × Int} (h : (-1000000 < p.1 ∧ p.1 < 1000000) ∧ -1000000 < p.2 ∧ p.2 < 1000000) : L0 (prD p) := L0.ns (ns := [p.1, p.2]) (fun i hi => by
  simp only [List.mem_cons, List.not_mem_nil, or_false] at hi
  rcases hi with rfl | rfl
  · exact h.1
  · exact h.2) (by simp)
/-- what is handed in -/
structure Thing (d : PyData) : Prop where
  rp : reprOk d = true
  ln : ∀ ds, d = .list ds → ds.length ≤ 900
theorem Thing.lst {ds : List PyData} (h : ∀ d ∈ ds, L0 d) (hl : ds.length ≤ 900) : Thing (.list ds) :=
  ⟨(Sn.lst (k := 12) (w := 17000) (k' := 13) (w' := 15990000) h (by decide) (by omega)).repr (by decide) (by decide), fun es e => by cases e; exact hl⟩
theorem Thing.tup {ds : List PyData} (h : ∀ d ∈ ds, L0 d) (hl : ds.length ≤ 900) : Thing (.tuple ds) :=
  ⟨(Sn.tup (k := 12) (w := 17000) (k' := 13) (w' := 15990000) h (by decide) (by omega)).repr (by decide) (by decide), fun es e => by cases e⟩
theorem L0.thing {d : PyData} (h : L0 d) (hl : ∀ ds, d = .list ds → ds.length ≤ 900) : Thing d := ⟨h.repr (by decide) (by decide), hl⟩
/-- a result that is such a thing -/
def ResT (s : Slot) : Prop := ∃ d, (s = .val d ∨ ∃ ds, s = .own ds ∧ d = .list ds) ∧ Thing d
theorem ResT.val {d : PyData} (h : Thing d) : ResT (.val d) := ⟨d, .inl rfl, h⟩
theorem ResT.own {ds : List PyData} (h : Thing (.list ds)) : ResT (.own ds) := ⟨_, .inr ⟨ds, rfl, rfl⟩, h⟩
theorem addL {A B : List PyData} (h : A.length + B.length ≤ 1000000) : pAdd [.list A, .list B] = some (.own (A ++ B)) := by
  show (if A.length + B.length ≤ 1000000 then some (Slot.own (A ++ B)) else none) = _
  rw [if_pos h]
theorem mod_in (b : Int) {m : Int} (h : 0 < m) : 0 ≤ b % m ∧ b % m < m := ⟨Int.emod_nonneg b (by omega), Int.emod_lt_of_pos b h⟩
/-- all of the one are of the other -/
def SubP (F T : List (Int × Int)) : Prop := ∀ p ∈ F, p ∈ T
theorem SubP.snoc {F T : List (Int × Int)} {u : Int × Int} (h : SubP F T) (hu : u ∈ T) : SubP (F ++ [u]) T := fun p hp => (List.mem_append.mp hp).elim (h p) fun z => by rw [List.mem_singleton.mp z]; exact hu
theorem SubP.one {T : List (Int × Int)} {u : Int × Int} (hu : u ∈ T) : SubP [u] T := fun p z => by rw [List.mem_singleton.mp z]; exact hu
theorem SubP.nil {T : List (Int × Int)} : SubP [] T := fun p z => absurd z List.not_mem_nil
theorem SubP.filter {T : List (Int × Int)} {f : Int × Int → Bool} : SubP (T.filter f) T := fun p hp => (List.mem_filter.mp hp).1
theorem SubP.refl {T : List (Int × Int)} : SubP T T := fun p hp => hp
theorem SubP.trans {A B C : List (Int × Int)} (h : SubP A B) (g : SubP B C) : SubP A C := fun p hp => g p (h p hp)
end Dn

/-! Den39: tables of a search: each thing with the one it comes of (plain). -/
namespace Dn
open PySem PySem.Spec L2
open PyProof.Rows hiding St
abbrev CamL := List ((Int × Int) × Option (Int × Int))
def optD : Option (Int × Int) → PyData
  | none => .none
  | some p => prD p
def camD (L : CamL) : List (PyData × PyData) := L.map fun e => (prD e.1, optD e.2)
def keysL (L : CamL) : List (Int × Int) := L.map (·.1)
theorem keysL_len (L : CamL) : (keysL L).length = L.length := List.length_map _
theorem keysL_app (L : CamL) (x : Int × Int) (o : Option (Int × Int)) : keysL (L ++ [(x, o)]) = keysL L ++ [x] := by simp [keysL]
/-- on the way back -/
def BackI (L : CamL) (T : List (Int × Int)) (k : Nat) (G : List (Int × Int)) : Prop := ∃ v F, G = v :: F ∧ v ∈ keysL L ∧ k = (keysL L).idxOf v ∧ F.length + k ≤ 64 ∧ SubP G T
/-- every thing but the first comes of an earlier one -/
structure Came (T : List (Int × Int)) (s : Int × Int) (E : Int × Int → Int × Int → Prop) (L : CamL) : Prop where
  nd : (keysL L).Nodup
  sub : SubP (keysL L) T
  hd : ∃ L', L = (s, none) :: L'
  pr : ∀ (i : Nat) (e : (Int × Int) × Option (Int × Int)), L[i]? = some e → i ≠ 0 → ∃ (j : Nat) (y : Int × Int), j < i ∧ (keysL L)[j]? = some y ∧ e.2 = some y ∧ E y e.1
section
variable {T : List (Int × Int)} {s : Int × Int} {E : Int × Int → Int × Int → Prop} {L : CamL}
theorem Came.start (hs : s ∈ T) : Came T s E [(s, none)] := by
  refine ⟨by simp [keysL], fun p hp => ?_, ⟨[], rfl⟩, fun i e h ne => ?_⟩
  · have hp : p ∈ [s] := hp
    rw [List.mem_singleton.mp hp]; exact hs
  · cases i with
    | zero => exact absurd rfl ne
    | succ i => simp at h
theorem Came.len (c : Came T s E L) : L.length ≤ T.length := by
  have := nodup_sub_len (keysL L) T c.nd c.sub
  rwa [keysL_len] at this
theorem Came.push (c : Came T s E L) {x y : Int × Int} {j : Nat} (hx : x ∈ T) (hn : lookL L x = none) (hy : (keysL L)[j]? = some y) (he : E y x) : Came T s E (L ++ [(x, some y)]) := by
  have hn : x ∉ keysL L := lookL_none.mp hn
  have ek := keysL_app L x (some y)
  refine ⟨?_, ?_, ?_, fun i e h ne => ?_⟩
  · rw [ek]
    exact List.nodup_append.mpr ⟨c.nd, by simp, fun a ha b hb e => by
      rw [List.mem_singleton.mp hb] at e
      subst e
      exact hn ha⟩
  · rw [ek]; exact c.sub.snoc hx
  · obtain ⟨L', rfl⟩ := c.hd
    exact ⟨L' ++ [(x, some y)], rfl⟩
  · rw [ek]
    have lt : ∀ {k : Nat} {z : Int × Int}, (keysL L)[k]? = some z → (keysL L ++ [x])[k]? = some z := fun {k z} q => by
      have := (List.getElem?_eq_some_iff.mp q).1
      rw [List.getElem?_append_left this]
      exact q
    by_cases lti : i < L.length
    · rw [List.getElem?_append_left lti] at h
      obtain ⟨j', y', h1, h2, h3, h4⟩ := c.pr i e h ne
      exact ⟨j', y', h1, lt h2, h3, h4⟩
    · rw [List.getElem?_append_right (by omega)] at h
      have i0 : i - L.length = 0 := by
        have := (List.getElem?_eq_some_iff.mp h).1
        simp at this
        omega
      rw [i0] at h
      cases h
      have := (List.getElem?_eq_some_iff.mp hy).1
      rw [keysL_len] at this
      exact ⟨j, y, by omega, lt hy, rfl, he⟩
/-- a thing's entry -/
theorem Came.look (c : Came T s E L) {x : Int × Int} (hx : x ∈ keysL L) : ∃ o, lookL L x = some o ∧ ((o = none ∧ x = s) ∨ ∃ y, o = some y ∧ y ∈ keysL L ∧ (keysL L).idxOf y < (keysL L).idxOf x ∧ E y x) := by
  have hi := List.idxOf_lt_length_of_mem hx
  have gi : (keysL L)[(keysL L).idxOf x]? = some x := by
    rw [List.getElem?_eq_getElem hi, List.getElem_idxOf hi]
  rw [keysL_len] at hi
  have ei : L[(keysL L).idxOf x]? = some (L[(keysL L).idxOf x]'hi) := List.getElem?_eq_getElem hi
  generalize L[(keysL L).idxOf x]'hi = e at ei
  have ex : e.1 = x := by
    unfold keysL at gi ei
    rw [List.getElem?_map, ei] at gi
    exact Option.some.inj gi
  refine ⟨e.2, lookL_of c.nd (by rw [← ex]; exact List.mem_of_getElem? ei), ?_⟩
  by_cases z : (keysL L).idxOf x = 0
  · left
    obtain ⟨L', hL⟩ := c.hd
    rw [z, hL] at ei
    have : (s, none) = e := by simpa using ei
    rw [← this]
    refine ⟨rfl, ?_⟩
    rw [← ex, ← this]
  · right
    obtain ⟨j, y, h1, h2, h3, h4⟩ := c.pr _ e ei z
    refine ⟨y, h3, List.mem_of_getElem? h2, ?_, by rw [← ex]; exact h4⟩
    have hj := (List.getElem?_eq_some_iff.mp h2).1
    have : (keysL L).idxOf y = j := by
      have := (List.getElem?_eq_some_iff.mp h2).2
      rw [← this]
      exact c.nd.idxOf_getElem j hj
    omega
theorem Came.ne (c : Came T s E L) : L ≠ [] := by
  obtain ⟨L', rfl⟩ := c.hd
  simp
end
/-- a way back: each one comes of the one ahead -/
def BackP (s : Int × Int) (E : Int × Int → Int × Int → Prop) : List (Int × Int) → Prop
  | [] => False
  | [_] => True
  | a :: b :: F => E a b ∧ BackP s E (b :: F)
end Dn

/-! Den40: o[a], o[b] = x, y; (a, b), (c, d) = x, y. -/
namespace Dn
open PySem PySem.Spec L2
open PyProof.Rows hiding St
def notNm : Expr → Bool
  | .Subscript _ _ _ => true
  | .Tuple _ _ _ => true
  | _ => false
/-- o[a], o[b] = x, y: o an own list, a, b names -/
def dSwp (i k1 k2 : Nat) (vs : DenOs) : DenS := fun Φ ρ => (vs Φ ρ).bind fun r => match r.1, r.2[k1]?, r.2[k2]?, r.2[i]? with
  | [x, y], some (.val (.int a)), some (.val (.int b)), some (.own ds) => (opt (ixN ds.length a)).bind fun m => (opt (ixN ds.length b)).bind fun m2 => .ok (.nx, r.2.set i (.own ((ds.set m x).set m2 y)))
  | _, _, _, _ => .stuck
section
variable {Γ : Ctx} {x y z : Str} {i k1 k2 : Nat} {vs : DenOs} {p : Bool} {a b : Expr} {xp yp zp xp2 sp sp2 pos tp vp : Pos} {kt kv : Nat}
end
/-- (a, ..), (c, ..) = x, y: names -/
def dUn2 (is js : List Nat) (vs : DenOs) : DenS := fun Φ ρ => (vs Φ ρ).bind fun r => match r.1 with
  | [.tuple ds, .tuple es] => (opt (setAll is ds r.2)).bind fun ρ => (opt (setAll js es ρ)).bind fun ρ => .ok (.nx, ρ)
  | _ => .stuck
section
variable {Φ : Calls} {ρ : Env} {vs : DenOs} {i k1 k2 : Nat} {is js : List Nat} {ds es xs : List PyData} {x y : PyData} {a b : Int} {m m2 : Nat}
def kSw3 (o : Option Nat) (i : Nat) (ds : List PyData) (y : PyData) (ρ : Env) : Out (Fl × Env) := (opt o).bind fun m2 => .ok (.nx, ρ.set i (.own (ds.set m2 y)))
def kSw2 (o : Option Nat) (b : Int) (i : Nat) (ds : List PyData) (x y : PyData) (ρ : Env) : Out (Fl × Env) := (opt o).bind fun m => (opt (ixN ds.length b)).bind fun m2 => .ok (.nx, ρ.set i (.own ((ds.set m x).set m2 y)))
def kSw1 (l : List PyData) (o1 o2 o3 : Option Slot) (i : Nat) (ρ : Env) : Out (Fl × Env) := match l, o1, o2, o3 with
  | [x, y], some (.val (.int a)), some (.val (.int b)), some (.own ds) => kSw2 (ixN ds.length a) b i ds x y ρ
  | _, _, _, _ => .stuck
def kSw (i k1 k2 : Nat) : List PyData × Env → Out (Fl × Env) := fun r => kSw1 r.1 (r.2[k1]?) (r.2[k2]?) (r.2[i]?) i r.2
@[simp] theorem x_dSwp : dSwp i k1 k2 vs Φ ρ = (vs Φ ρ).bind (kSw i k1 k2) := id rfl
@[simp] theorem x_dSwp0 : kSw i k1 k2 (xs, ρ) = kSw1 xs (ρ[k1]?) (ρ[k2]?) (ρ[i]?) i ρ := id rfl
@[simp] theorem x_dSwp1 : kSw1 [x, y] (some (.val (.int a))) (some (.val (.int b))) (some (.own ds)) i ρ = kSw2 (ixN ds.length a) b i ds x y ρ := id rfl
def kUn3 (o : Option Env) : Out (Fl × Env) := (opt o).bind fun ρ => .ok (.nx, ρ)
def kUn2 (js : List Nat) (es : List PyData) (o : Option Env) : Out (Fl × Env) := (opt o).bind fun ρ => kUn3 (setAll js es ρ)
def kUn1 (is js : List Nat) : List PyData × Env → Out (Fl × Env) := fun r => match r.1 with
  | [.tuple ds, .tuple es] => kUn2 js es (setAll is ds r.2)
  | _ => .stuck
@[simp] theorem x_dUn2 : dUn2 is js vs Φ ρ = (vs Φ ρ).bind (kUn1 is js) := id rfl
@[simp] theorem x_dUn2a : kUn1 is js ([.tuple ds, .tuple es], ρ) = kUn2 js es (setAll is ds ρ) := id rfl
@[simp] theorem x_dUn2b : kUn2 js es (some ρ) = kUn3 (setAll js es ρ) := id rfl
@[simp] theorem x_dUn2c : kUn3 (some ρ) = .ok (.nx, ρ) := id rfl
end
end Dn

/-! Den41: sorted(t) of a tuple too. -/
namespace Dn
open PySem PySem.Spec L2
open PyProof.Rows hiding St
section
open PySem.W PySem.Calls
variable {prog : Program} {w : World} {A : Around} {E : Value → Shared → Prop} {s : Shared} {β : Type} {enc : β → PyData} {R : Value → β → Prop} {vs : List Value} {bs : List β}
theorem sortedT_data {t : Addr} {Q : Value → Shared → Prop} (hl : IsTup s.heap t vs.toArray) (e : EachIs R vs bs) (er : EachIs (fun v b => ∃ as, Reads s.heap v (enc b) as) vs bs) (hal : AllAlike (bs.map enc)) (hk : Sortable (bs.map enc)) (hL : bs.length ≤ sizeLine)
    (hu : ∀ b, b ∈ bs → A.units + 2 + (enc b).depth < cLine)
    (h : ∀ (D : Addr) (h' : Heap) (out : List Value) (c : Nat), (∀ b o, s.heap.get? b = some o → h'.get? b = some o) → s.heap.get? D = none → h'.get? D = some (seqObj "list" out.toArray c) → EachIs R out (bs.mergeSort (dataLe false enc)) → Q (.ref D) { s with heap := h' }) :
    wpAny (model prog w) A (call (.builtin "sorted") [.ref t]) Q E s := by
  refine call_function_entry kind_sorted plain_sorted entry_sorted (args_sorted1 _) ?_
  unfold Builtin.«sorted»
  refine wpAny_bind (m := checkCount "sorted" 1 1 _) (wpAny_pure ?_)
  obtain ⟨o, ho, hc, n, hd⟩ := hl
  have hLv : vs.length ≤ sizeLine := by rw [e.length]; exact hL
  refine wpAny_bind (wpAny_collect_seq (A := A.in1) t (.inr rfl) ho hc hd (fun h1 kp => ?_) (by rw [List.size_toArray]; exact hLv))
  rw [List.toList_toArray]
  refine wpAny_bind (wpAny_newList ?_ hLv)
  have hp : ∀ b o, s.heap.get? b = some o → (h1.push (seqObj "list" vs.toArray 0)).get? b = some o := fun b o q => Heap.get?_push_of_some _ (kp b o q)
  have ho2 : (h1.push (seqObj "list" vs.toArray 0)).get? h1.objs.size = some (seqObj "list" vs.toArray 0) := Heap.get?_push_size _ rfl
  have gone : s.heap.get? h1.objs.size = none := by
    cases q : s.heap.get? h1.objs.size with
    | none => rfl
    | some u => exact absurd (Heap.lt_size (kp _ _ q)) (Nat.lt_irrefl _)
  have er' : EachIs (fun v b => ∃ as, Reads (sortingHeap (h1.push (seqObj "list" vs.toArray 0)) h1.objs.size vs) v (enc b) as) vs bs :=
    er.mono fun _ _ ⟨as, r⟩ => ⟨as, PyProof.Rows.Reads.keeps (fun b o q => sortingHeap_old (fun hb => by subst hb; rw [gone] at q; cases q) (hp b o q)) r⟩
  refine wpAny_bind (wpAny_holding (wpAny_mono (?body : wpAny (model prog w) A.in1 (call (.builtin "list.sort") [.ref h1.objs.size]) (fun _ s' => Q (.ref h1.objs.size) s') E { s with heap := h1.push (seqObj "list" vs.toArray 0) }) (fun _ s' x => wpAny_pure ⟨_, rfl, x⟩) fun _ _ e => e))
  refine wpAny_call_entry slot_list_sort ⟨_, ho2, rfl⟩ entry_list_sort
    (list_sort_vals (κ := dataKind (sortingHeap (h1.push (seqObj "list" vs.toArray 0)) h1.objs.size vs) (bs.map enc)) ho2 (SortsAt.data (s := { s with heap := sortingHeap (h1.push (seqObj "list" vs.toArray 0)) h1.objs.size vs })
      (each_map (R := fun v d => ∃ as, Reads (sortingHeap (h1.push (seqObj "list" vs.toArray 0)) h1.objs.size vs) v d as) enc er') hal hk (bound_map hu)) hLv ⟨.none, rfl, ?_⟩) (args_list_sort _)
  · obtain ⟨c, hc⟩ := sortedHeap_at (vs := vs) (out := (sortVals (dataKind (sortingHeap (h1.push (seqObj "list" vs.toArray 0)) h1.objs.size vs) (bs.map enc)) false vs vs).toArray) ho2
    refine h _ _ _ c (fun b o q => ?_) gone hc (sortVals_data false e er' hal)
    have hlt := Heap.lt_size (kp b o q)
    rw [sortedHeap_old (Nat.ne_of_lt hlt) (by rw [size_push']; exact Nat.lt_succ_of_lt hlt)]
    exact hp b o q
end
/-- sorted of a list or a tuple -/
def pSortS : Prim
  | [.tuple ds] => if sortOk ds && decide (ds.length ≤ 1000000) then some (.own (sortD ds)) else none
  | xs => pSorted xs
@[simp] theorem pSortS_list (ds : List PyData) : pSortS [.list ds] = pSorted [.list ds] := id rfl
def rSortS (K : PySem.W.Frag) : List V → Hp → VK → Prop := fun vs H Q => rSortF K vs H Q ∨ ∃ (a : Addr) (zs : List (PyData × V)), vs = [.ref a] ∧ (SqL K H a (zs.map (·.2)) ∨ SqT K H a (zs.map (·.2))) ∧ (∀ z ∈ zs, Dp K H z.2 z.1) ∧ sortOk (zs.map (·.1)) = true ∧
  ∀ p, H p = none → Q (.ref p) (upd H p (.lst ((zs.mergeSort (PySem.W.dataLe false Prod.fst)).map (·.2))))
theorem call_sortS {X : Cx} (hu : X.A.units + 200 < cLine) : CallR X (.builtin "sorted") (rSortS X.K) := by
  intro pins s σ H vs us Q I r h
  rcases h with h | ⟨a, zs, e, hs, hd, ok, q⟩
  · exact call_sortF hu pins s σ H vs us Q I r h
  rcases hs with hs | hs
  · exact call_sortF hu pins s σ H vs us Q I r ⟨a, zs, e, hs, hd, ok, q⟩
  subst e
  rw [Vals.ref1 r]
  obtain ⟨its, rv, hl, hz⟩ := I.tuple hs
  obtain ⟨g1, g2⟩ := each_of I rv hd
  have zl : zs.length ≤ sizeLine := by rw [List.length_map] at hz; exact hz
  refine sortedT_data (enc := Prod.fst) hl g1 g2 (sortOk_like ok) (sortOk_able ok) zl (fun z hz => ?_) fun D h' out c kp hn ho eo => ?_
  · have := sortOk_shaped ok z.1 (List.mem_map.mpr ⟨z, hz, rfl⟩)
    unfold SeqAt.shaped at this
    simp only [Bool.and_eq_true, decide_eq_true_eq] at this
    omega
  · have hn' := I.hok.gone hn
    refine ⟨.ref D, _, I.laidN (t' := s.toks) (o := .lst ((zs.mergeSort (PySem.W.dataLe false Prod.fst)).map (·.2))) kp hn hn' ⟨?_, out, c, vals_each eo, ho⟩, rfl, q _ hn'⟩
    rw [List.length_map, List.length_mergeSort]
    exact zl
theorem rl_sortS (K : PySem.W.Frag) : Rule K (rSortS K) pSortS := by
  intro F H ds vs Q s e hb hs q
  unfold pSortS at hs
  split at hs
  · rename_i ys
    split at hs
    · rename_i hl
      cases hs
      rw [Bool.and_eq_true] at hl
      obtain ⟨v, rfl, h1⟩ := hb.one
      obtain ⟨a, xs, rfl, k1, k2⟩ := h1.seq e (.inr rfl)
      obtain ⟨g1, g2, g3⟩ := zip_fst k2
      refine .inr ⟨a, ys.zip xs, rfl, ?_, fun z hz => dp_of _ _ ((g3 z hz).mono e) (shaped_lay (sortOk_shaped hl.1 z.1 (by rw [← g1]; exact List.mem_map.mpr ⟨z, hz, rfl⟩))), by rw [g1]; exact hl.1, fun p hp => ?_⟩
      · rw [g2]; exact k1
      have m : ((ys.zip xs).mergeSort (PySem.W.dataLe false Prod.fst)).map (·.1) = sortD ys := by
        have g := List.map_mergeSort (r := PySem.W.dataLe false (Prod.fst (α := PyData) (β := V))) (s := PySem.W.dataLe false id) (f := Prod.fst) (l := ys.zip xs) (fun a _ b _ => rfl)
        exact g.trans (congrArg sortD g1)
      refine q p _ hp ?_
      rw [← m]
      exact rpAll_of fun z hz => g3 z (List.mem_mergeSort.mp hz)
    · cases hs
  · exact .inl (rl_sorted K F H ds vs Q s e hb hs q)
section
variable {Γ : Ctx} {d : DenOs} {p : Bool} {pos fpos : Pos} {a : Expr} {es : List Expr}
theorem e_sortS (h : SndOs Γ (a :: es) d p) (he : (a :: es).all plainE = true) (hg : Γ.sc.names.lookup ("sorted" : Str) = some .globalImplicit) (hf : ("sorted" : Str) ∈ Γ.blts) : SndE Γ (.Call (.Name "sorted" fpos) (a :: es) [] pos) (dP pSortS d) p :=
  snd_callB (r := rSortS) (fun X _ hr => call_sortS (by have := hr.un; omega)) rl_sortS boot_sorted' h he hg hf (by decide)
end
end Dn

/-! Den42: rows (all things in some order), as plain lists. -/
namespace Dn
open PySem PySem.Spec L2
open PyProof.Rows hiding St
def leI (a b : Int) : Bool := decide (a ≤ b)
def sortI (ns : List Int) : List Int := ns.mergeSort leI
theorem leI_trans {a b c : Int} (h : leI a b = true) (g : leI b c = true) : leI a c = true := by
  unfold leI at *
  simp only [decide_eq_true_eq] at *
  omega
theorem leI_total (a b : Int) : (leI a b || leI b a) = true := by
  unfold leI
  simp only [Bool.or_eq_true, decide_eq_true_eq]
  omega
theorem sortI_perm (ns : List Int) : (sortI ns).Perm ns := List.mergeSort_perm ns leI
def intOf : PyData → Int
  | .int i => i
  | _ => 0
/-- a tuple of all things -/
def rowT (m : Nat) : PyData → Bool
  | .tuple ds => decide (ds.length = m) && (ds.all isW && decide (sortI (ds.map intOf) = upTo m))
  | _ => false
/-- which stands ahead -/
def aheadB (ns : List Int) (p : Int × Int) : Bool := decide (ns.idxOf p.1 < ns.idxOf p.2)
def fitsD (ps : List (Int × Int)) : PyData → Bool
  | .tuple ds => ps.all (aheadB (ds.map intOf))
  | _ => false
def rowD (m : Nat) (ps : List (Int × Int)) (x : PyData) : Bool := rowT m x && fitsD ps x
/-- a row whose things are in the order's bounds -/
theorem perm_has {m : Nat} {ns : List Int} (h : ns.Perm (upTo m)) {x : Int} (h0 : 0 ≤ x) (h1 : x < m) : x ∈ ns := h.mem_iff.mpr (mem_upTo.mpr ⟨h0, h1⟩)
/-- things not yet in the row that may come next, in the order of their numbers -/
def freeI (m : Nat) (ps : List (Int × Int)) (R : List Int) : List Int := (upTo m).filter fun t => decide (t ∉ R) && ps.all fun p => !(decide (p.2 = t) && !decide (p.1 ∈ R))
theorem mem_free {m : Nat} {ps : List (Int × Int)} {R : List Int} {t : Int} : t ∈ freeI m ps R ↔ t ∈ upTo m ∧ t ∉ R ∧ ∀ p ∈ ps, p.2 = t → p.1 ∈ R := by
  unfold freeI
  rw [List.mem_filter]
  simp only [Bool.and_eq_true, decide_eq_true_eq, List.all_eq_true, Bool.not_eq_true', Bool.and_eq_false_iff, decide_eq_false_iff_not, Bool.not_eq_false']
  refine and_congr_right fun _ => and_congr_right fun _ => forall_congr' fun p => forall_congr' fun hp => ?_
  constructor
  · rintro (h | h) e
    · exact absurd e h
    · exact h
  · intro h
    by_cases e : p.2 = t
    · exact .inr (h e)
    · exact .inl e
theorem perm_of_full {m : Nat} {R : List Int} (nd : R.Nodup) (sub : ∀ x ∈ R, x ∈ upTo m) (hl : m ≤ R.length) : R.Perm (upTo m) := by
  refine (List.perm_ext_iff_of_nodup nd (upTo_nd m)).mpr fun x => ⟨sub x, fun hx => Classical.byContradiction fun z => ?_⟩
  have := nodup_sub_len (x :: R) (upTo m) (List.nodup_cons.mpr ⟨z, nd⟩) fun y hy => (List.mem_cons.mp hy).elim (fun e => by rw [e]; exact hx) (sub y)
  rw [List.length_cons, upTo_len] at this
  omega
/-- so far all that has something ahead of it has it ahead -/
def AhdI (ps : List (Int × Int)) (R : List Int) : Prop := ∀ p ∈ ps, p.2 ∈ R → aheadB R p = true
theorem ahd_snoc {ps : List (Int × Int)} {R : List Int} {t : Int} (h : AhdI ps R) (ht : t ∉ R) (g : ∀ p ∈ ps, p.2 = t → p.1 ∈ R) : AhdI ps (R ++ [t]) := fun p hp hm => by
  unfold aheadB
  rw [decide_eq_true_eq]
  by_cases c : p.2 ∈ R
  · have := h p hp c
    unfold aheadB at this
    rw [decide_eq_true_eq] at this
    have m1 : p.1 ∈ R := List.idxOf_lt_length_iff.mp (Nat.lt_of_lt_of_le this (List.idxOf_le_length))
    rw [List.idxOf_append, if_pos m1, List.idxOf_append, if_pos c]
    exact this
  · have e : p.2 = t := by simpa [c] using hm
    have m1 := g p hp e
    rw [List.idxOf_append, if_pos m1, List.idxOf_append, if_neg c]
    have := List.idxOf_lt_length_iff.mpr m1
    omega
theorem ahd_all {m : Nat} {ps : List (Int × Int)} (o : IsOrd m ps) {R : List Int} (h : AhdI ps R) (pm : R.Perm (upTo m)) : ps.all (aheadB R) = true := by
  rw [List.all_eq_true]
  exact fun p hp => h p hp (perm_has pm (o.bd p hp).2.2.1 (o.bd p hp).2.2.2)
end Dn

/-! Den43: lists of rows, what they tell, all rows of an order. -/
namespace Dn
open PySem PySem.Spec L2
open PyProof.Rows hiding St
/-- the whole numbers of a row -/
def rowOf : PyData → List Int
  | .tuple ds => ds.map intOf
  | _ => []
/-- a list of one or more rows -/
def rowsD (m : Nat) (ps : List (Int × Int)) : PyData → Bool
  | .list ds => decide (ds ≠ []) && ds.all (rowD m ps)
  | _ => false
def rsOf : PyData → List (List Int)
  | .list ds => ds.map rowOf
  | _ => []
/-- rows of an order, as plain lists -/
def RowsI (m : Nat) (ps : List (Int × Int)) (rs : List (List Int)) : Prop := ∀ r ∈ rs, r.Perm (upTo m) ∧ ps.all (aheadB r) = true
/-- a list of rows that tells the order -/
def tellD (m : Nat) (ps : List (Int × Int)) (x : PyData) : Bool := rowsD m ps x && decide (toldP m (rsOf x) = ps)
/-- all beginnings of rows of so many things, in the order of tuples -/
def rowsI (m : Nat) (ps : List (Int × Int)) : Nat → List (List Int)
  | 0 => [[]]
  | t + 1 => (rowsI m ps t).flatMap fun r => (freeI m ps r).map fun x => r ++ [x]
/-- a beginning of a row -/
structure Beg (m : Nat) (ps : List (Int × Int)) (r : List Int) : Prop where
  nd : r.Nodup
  sub : ∀ x ∈ r, x ∈ upTo m
  ahd : AhdI ps r
theorem Beg.nil {m : Nat} {ps : List (Int × Int)} : Beg m ps [] := ⟨List.nodup_nil, fun _ h => absurd h List.not_mem_nil, fun _ _ h => absurd h List.not_mem_nil⟩
theorem Beg.snoc {m : Nat} {ps : List (Int × Int)} {r : List Int} {x : Int} (b : Beg m ps r) (h : x ∈ freeI m ps r) : Beg m ps (r ++ [x]) := by
  obtain ⟨h1, h2, h3⟩ := mem_free.mp h
  refine ⟨List.nodup_append.mpr ⟨b.nd, by simp, by rintro a ha c hc rfl; rw [List.mem_singleton.mp hc] at ha; exact h2 ha⟩, fun y hy => ?_, ahd_snoc b.ahd h2 h3⟩
  rcases List.mem_append.mp hy with hy | hy
  · exact b.sub y hy
  · rw [List.mem_singleton.mp hy]; exact h1
end Dn

/-! Den44: points (each thing's two numbers). -/
namespace Dn
open PySem PySem.Spec L2
open PyProof.Rows hiding St
/-- a tuple of two whole numbers -/
def isPt : PyData → Bool
  | .tuple ds => decide (ds.length = 2) && ds.all isW
  | _ => false
def ptOf : PyData → Int × Int
  | .tuple [.int a, .int b] => (a, b)
  | _ => (0, 0)
/-- a thing's point -/
def gP (F : List (Int × Int)) (t : Int) : Int × Int := F.getD t.toNat (0, 0)
/-- less in both -/
def lessB (F : List (Int × Int)) (p : Int × Int) : Bool := decide ((gP F p.1).1 < (gP F p.2).1) && decide ((gP F p.1).2 < (gP F p.2).2)
def domP (m : Nat) (F : List (Int × Int)) : List (Int × Int) := (gridP m).filter (lessB F)
/-- points of an order -/
def ptsF (m : Nat) (ps F : List (Int × Int)) : Bool := decide (sortI (F.map (·.1)) = upTo m) && (decide (sortI (F.map (·.2)) = upTo m) && decide (domP m F = ps))
def ptsD (m : Nat) (ps : List (Int × Int)) : PyData → Bool
  | .list ds => decide (ds.length = m) && (ds.all isPt && ptsF m ps (ds.map ptOf))
  | _ => false
/-- so far what is less is so in the order -/
def LessOk (F ps L : List (Int × Int)) : Prop := ∀ p ∈ L, lessB F p = decide (p ∈ ps)
theorem LessOk.nil {F ps : List (Int × Int)} : LessOk F ps [] := fun _ h => absurd h List.not_mem_nil
theorem LessOk.app {F ps A B : List (Int × Int)} (h : LessOk F ps A) (g : LessOk F ps B) : LessOk F ps (A ++ B) := fun p hp => (List.mem_append.mp hp).elim (h p) (g p)
theorem LessOk.one {F ps : List (Int × Int)} {p : Int × Int} (h : lessB F p = decide (p ∈ ps)) : LessOk F ps [p] := fun q hq => by rw [List.mem_singleton.mp hq]; exact h
end Dn

/-! Den45: refusals: raise, the mark of a refusal that is held, try. -/
namespace Dn
open PySem PySem.Spec L2
open PyProof.Rows hiding St

/-! ### the class of a refusal, asked of it -/
section
open PySem.W PySem.Calls in
theorem find_cls {K : Frag} {D : Addr} {od : Option Obj} (c : ExcC K D) : findObj K D od "__class__" = some (.bind (.builtin "getset_descriptor.__get__") (.builtin "object.__class__")) := by
  obtain ⟨cd, e, _⟩ := any_some c.hd
  show (clsIn K D).bind _ = _
  rw [e, Option.bind_some, c.ha, Option.bind_some]
  simp only [c.hn, c.ht, Option.bind_some]
open PySem.W PySem.Calls in
theorem ask_cls {P : Program} {w : World} {A : Around} {E : Value → Shared → Prop} {s : Shared} {K : Frag} {a D : Addr} {o : Obj} {od : Option Obj} {Q : Option Value → Shared → Prop} (c : ExcC K D) (hk : K.In s.heap) (i : InstAt s.heap a o D od) (q : Q (some (.ref D)) { s with toks := s.toks + 1 }) :
    wpAny (model P w) A (getAttr? (.ref a) "__class__") Q E s := by
  have ty := i.type (M := model P w)
  have fd := looks_find (M := model P w) hk i (find_cls c)
  have isE : Looks (model P w) s.heap (isInstance (.ref a) (.type "BaseException")) true := ty.andThen (looks_subIn hk c.hs)
  have noB : (Value.builtin "BaseException.__getattribute__" == .builtin "object.__getattribute__") = false := by decide +kernel
  obtain ⟨hp, gs, dr, tk, os⟩ := s
  unfold getAttr? getAttrBy? getAttrBy
  refine wpAny_bind (wpAny_mkText (wpAny_bind (wpAny_attempt (wpAny_holding (wpAny_bind (ty.at (wpAny_bind ((looks_findIn hk c.hg).at ?_))))))))
  refine wp_if_neg (by rw [noB, Bool.and_false]; decide) ?_
  unfold getAttrByItsOwn hookBefore
  refine wpAny_bind (wp_if_pos rfl ((looks_findIn hk c.hk).at (wpAny_bind (wpAny_attempt (wpAny_holding ?_)))))
  unfold callGetattribute
  refine wp_if_neg (by simp) ?_
  unfold boundAndCalled
  rw [PySem.F.excAttr_ValueError.ga.bind]
  refine wpAny_bind (wpAny_pure (wpAny_call (codeAny_call_builtin PySem.F.excAttr_ValueError.ga.plain PySem.F.entry_bexc_ga ?_)))
  refine check_slot (M := model P w) (i := "BaseException.__getattribute__") (owner := "BaseException") (n := "__getattribute__") (s := ⟨hp, gs, dr, tk + 1, os⟩) (by decide +kernel) (by decide +kernel) isE (PySem.F.args_bexc_ga (.ref a) (.str "__class__" tk)) ?_
  unfold Builtin.«object.__getattribute__»
  refine wpAny_bind (wpAny_of_eq (a := ((Value.ref a : Value), [Value.str "__class__" tk])) (by first | rfl | (simp only [slotArgs]; rfl)) (wpAny_bind (wpAny_pure (wpAny_bind (ty.at (wpAny_bind (fd.at ?_)))))))
  show wpAny _ _ (holding [Value.builtin "object.__class__"] (call (.builtin "getset_descriptor.__get__") [.builtin "object.__class__", .ref a, .ref D]) >>= ret) _ _ _
  refine wpAny_bind (wpAny_holding (wpAny_call (class_get (s := ⟨hp, gs, dr, tk + 1, os⟩) (ox := o) hk i c.hm (wpAny_pure ?_))))
  show wpAny _ _ (handedOut (.ref D)) _ _ _
  exact handed_on rfl (wpAny_pure q)
open PySem.W in
theorem kit_exc {K : Frag} {a D : Addr} {o : Obj} {od : Option Obj} (c : ExcC K D) : KitX K (.ref a) (.ref D) (fun h => InstAt h a o D od) := by
  obtain ⟨cd, e, _⟩ := any_some c.hd
  have at_ : ∃ oc dc sl, K.lookup D = some ⟨oc, dc, .cls cd, sl⟩ := by
    unfold clsIn at e
    split at e
    · rename_i z
      cases e
      exact ⟨_, _, _, z⟩
    · cases e
  obtain ⟨oc, dc, sl, e⟩ := at_
  have ne : ∀ (h : Heap) (tp : Addr) (dd : Option Addr) (its : List Value) (n : Nat) (sl : Array (Option Value)), K.In h → h.get? tp = some ⟨.type "tuple", dd, .seq its.toArray n, sl⟩ → (Value.ref D == .ref tp) = false := fun h tp dd its n sl' hk htp => by
    rw [beq_eq_false_iff_ne]
    intro z
    have z : D = tp := Value.ref.inj z
    subst z
    have := (hk _ _ e).symm.trans htp
    cases this
  exact ⟨fun M h _ i => i.type, fun M h hk _ => (Looks.ld (part := none) (hk _ _ e)).andThen .now, ne, fun hk i q => ask_cls c hk i q⟩
end
/-! ### what is asked of a refusal while it is held -/
/-- the refusal at a, of class D, is held -/
structure Holds (X : Cx) (a D : Addr) : Prop where
  oe : ∃ oe : Obj, (a, oe) ∈ X.pn ∧ oe.cls = .ref D ∧ (oe.dict = none ∨ ∃ dd od, oe.dict = some dd ∧ X.s_0.heap.get? dd = some od ∧ dd ∉ X.ex) ∧ ∃ vs, oe.data = .fields vs
  is : ExcC X.K D
  isi : X.mg "isinstance" = none
section
variable {X : Cx} {a D : Addr} {σ : St} {H : Hp}
theorem call_isM (hh : Holds X a D) : CallR X (.builtin "isinstance") (rIsE X.K D a) := by
  intro pins s σ H vs us Q I rel hq
  obtain ⟨c, cv, b, ev, hc, ek, q⟩ := hq
  obtain ⟨oe, hp, h1, h2, fs, h3⟩ := hh.oe
  have at_ := (I.pin (a, oe) (List.mem_append_left pins hp)).1
  subst ev
  match us, rel with
  | [u0, u1], .cons r0 (.cons r1 .nil) =>
    have e0 : u0 = .ref a := r0
    have e1 := hc u1 r1
    subst e0 e1
    have inst : ∃ od, PySem.W.InstAt s.heap a oe D od := by
      obtain ⟨kc, kd, kf, ks⟩ := oe
      have h1 : kc = .ref D := h1
      have h3 : kf = .fields fs := h3
      subst h1 h3
      rcases h2 with h2 | ⟨dd, o0, h2, h4, h5⟩
      · have h2 : kd = none := h2
        subst h2
        exact ⟨none, at_, rfl, rfl, trivial⟩
      · have h2 : kd = some dd := h2
        subst h2
        obtain ⟨o1, h6⟩ := I.base.there dd o0 h4 h5
        exact ⟨some o1, at_, rfl, rfl, h6⟩
    obtain ⟨od, inst⟩ := inst
    exact PySem.W.kia_one (kit_exc hh.is) I.kIn inst ek (fun z => nomatch z) fun tk => ⟨.bl b, H, I.kept (t' := tk) fun _ _ z => z, rfl, q⟩
/-- it is of a class, or it is not -/
theorem is_w {x : Str} {p1 p2 p3 p4 : Pos} {c : V} {cv : Value} {b : Bool} {Q : VK} (hh : Holds X a D) (v0 : X.N[0]? = some ("e" : Str)) (vis : Vis X.env.scope "e") (g1 : Gl X "isinstance") (g2 : PE X (.Name x p3) (tC c)) (hc : ∀ u, RelV c u → u = cv)
    (k : PySem.W.kitOne X.K (.ref D) cv = some b) (e0 : σ[0]? = some (some (.ref a))) (q : Q (.bl b) H) : wE X (.Call (.Name "isinstance" p1) [.Name "e" p2, .Name x p3] [] p4) σ H Q :=
  PE.w (pe_callB (call_isM hh) g1 hh.isi boot_isinstance' (pa_cons (pe_var v0 vis rfl rfl) (pa_cons g2 pa_nil))) ⟨_, e0, c, cv, b, rfl, hc, k, q⟩
/-- a row of such questions -/
def Bls (X : Cx) (σ : St) (es : List Expr) (bs : List Bool) : Prop := es.all plainE = true ∧ ∀ (H : Hp) (Q : List V → Hp → Prop), Q (bs.map V.bl) H → wEs X es σ H Q
theorem Bls.nil : Bls X σ [] [] := ⟨rfl, fun _ _ q => q⟩
theorem Bls.cons {e : Expr} {es : List Expr} {b : Bool} {bs : List Bool} (he : plainE e = true) (h : ∀ (H : Hp) (Q : VK), Q (.bl b) H → wE X e σ H Q) (t : Bls X σ es bs) : Bls X σ (e :: es) (b :: bs) :=
  ⟨by rw [List.all_cons, he, t.1]; rfl, fun H Q q => h H _ (t.2 H _ q)⟩
/-- how often -/
def rCntB (K : PySem.W.Frag) : V → List V → Hp → VK → Prop := fun x xs H Q => ∃ (p : Addr) (bs : List Bool) (k : Bool), x = .ref p ∧ xs = [.bl k] ∧ SqL K H p (bs.map V.bl) ∧ Q (.int (bs.count k : Nat)) H
def isB (k : Bool) (v : Value) : Bool := match v with
  | .bool b => b == k
  | _ => false
theorem cnt_bools {k : Bool} : ∀ (bs : List Bool) (us : List Value), Vals (bs.map V.bl) us → us = bs.map Value.bool
  | [], _, h => by cases h; rfl
  | b :: bs, u :: us, h => by
    match h with
    | .cons h1 h2 =>
      have e : u = Value.bool b := h1
      rw [e, cnt_bools (k := k) bs us h2]
      rfl
theorem cnt_isB {k : Bool} : ∀ bs : List Bool, (bs.map Value.bool).countP (isB k) = bs.count k
  | [] => rfl
  | b :: bs => by
    rw [List.map_cons, List.countP_cons, List.count_cons, cnt_isB bs]
    rfl
theorem mt_cntB : MtR X "list.count" (rCntB X.K) := by
  intro pins s σ H x xs v us Q I rx rxs hq
  obtain ⟨p, bs, k, e1, e2, hs, q⟩ := hq
  subst e1 e2
  have ev : v = .ref p := rx
  match us, rxs with
  | [u], .cons ru .nil =>
    have eu : u = .bool k := ru
    subst ev eu
    obtain ⟨its, rv, ⟨ob, n, at_, hc, hdn, hd⟩, hlen⟩ := I.list hs
    have ei := cnt_bools (k := k) bs its rv
    subst ei
    obtain ⟨oc, od, oda, osl⟩ := ob
    have hc : oc = .type "list" := hc
    have hd : oda = .seq (bs.map Value.bool).toArray n := hd
    subst hc hd
    refine call_meets PySem.F.slot_list_count ⟨_, at_, rfl⟩ PySem.F.entry_list_count (PySem.F.args_list_count_2 _ _) (SeqAt.list_countAt p _ n od osl (.bool k) (isB k)) ⟨at_, fun y hy => ?_, ?_⟩
    · have hy : y ∈ bs.map Value.bool := by simpa using hy
      obtain ⟨b, _, rfl⟩ := List.mem_map.mp hy
      exact SeqAt.EqAt.bool_bool b k
    · refine ⟨.int (bs.count k : Nat), H, I.tok _, ⟨s.toks, ?_⟩, q⟩
      show Value.int (((bs.map Value.bool).countP (isB k) : Nat) : Int) s.toks = _
      rw [cnt_isB]
end

/-! ### the mark -/
def marksN : List Str := ["e", "found", "words"]
/-- the mark: the word at the one place that is true -/
def markOf (bs : List Bool) (ws : List Str) : Str := if bs.count true = 1 then (ws[bs.idxOf true]?).getD "other" else "other"
def strE (ws : List (Str × Nat × Pos)) : List Expr := ws.map fun w => .Constant (.str w.1) w.2.1 w.2.2
section
variable {X : Cx} {a D : Addr} {σ : St} {H : Hp} {Q : VK}
theorem strE_plain : ∀ ws : List (Str × Nat × Pos), (strE ws).all plainE = true
  | [] => rfl
  | w :: ws => by
    show (true && (strE ws).all plainE) = true
    rw [strE_plain ws]
    rfl
theorem strE_w : ∀ (ws : List (Str × Nat × Pos)) (H : Hp) (Q : List V → Hp → Prop), Q (ws.map fun w => .str w.1) H → wEs X (strE ws) σ H Q
  | [], _, _, q => q
  | w :: ws, H, Q, q => PE.w pe_str (strE_w ws H _ q)
/-- a list display of values that take nothing -/
theorem disp_w {es : List Expr} {vs : List V} {pos : Pos} (he : es.all plainE = true) (h : ∀ (H : Hp) (Q : List V → Hp → Prop), Q vs H → wEs X es σ H Q) (hl : vs.length ≤ 100) (q : ∀ p, H p = none → Q (.ref p) (upd H p (.lst vs))) : wE X (.List es pos) σ H Q :=
  PE.w (pe_lst (pa_ws he)) (h H _ ⟨le_line (by omega), q⟩)
theorem bls_w {es : List Expr} {bs : List Bool} {pos : Pos} (h : Bls X σ es bs) (hl : bs.length ≤ 100) (q : ∀ p, H p = none → Q (.ref p) (upd H p (.lst (bs.map V.bl)))) : wE X (.List es pos) σ H Q :=
  disp_w h.1 h.2 (by rw [List.length_map]; exact hl) q
/-- found = found + [..] -/
theorem add_w {es : List Expr} {b bs : List Bool} {p : Addr} {q1 q2 q3 q4 q5 : Pos} {D : Ends} (nd : X.N.Nodup) (n1 : X.N[1]? = some ("found" : Str)) (lc : X.env.scope.names.lookup ("found" : Str) = some .local) (hfn : ∀ x, X.fn x = true)
    (s1 : σ[1]? = some (some (.ref p))) (hp : H p = some (.lst (bs.map V.bl))) (h : Bls X σ es b) (lb : b.length ≤ 20) (lbs : bs.length ≤ 60) (next : ∀ p' H', Ex H H' → H' p' = some (.lst ((bs ++ b).map V.bl)) → D.nx (σ.set 1 (some (.ref p'))) H') :
    wS X (.Assign [.Name "found" q1] (.BinOp (.Name "found" q2) .Add (.List es q3) q4) q5) D σ H := by
  refine PS.w (ps_set (i := 1) nd n1 (.inl lc) pe_w (swap_of rfl) (.inl (hfn _))) ?_
  refine PE.w (pe_op op_cat (pe_var n1 (.inl lc) rfl rfl) pe_w) ⟨_, s1, ?_⟩
  refine bls_w h (by omega) fun p2 f2 => ?_
  have ne : p ≠ p2 := fun z => by rw [z, f2] at hp; cases hp
  refine ⟨p, p2, _, _, rfl, rfl, by rw [upd_ne ne]; exact hp, upd_same, le_line (by rw [List.length_map, List.length_map]; omega), fun p3 f3 => ?_⟩
  refine next p3 _ (Ex.trans (Ex.new f2) (Ex.new f3)) ?_
  rw [upd_same, List.map_append]
theorem ret_w {e : Expr} {t : TE} {q : Pos} {D : Ends} (he : PE X e t) (h : t σ H D.rt) : wSs X [.Return (some e) q] D σ H := PSs.w (pss_one (ps_ret he)) h
theorem idx_first : ∀ (bs : List Bool) (m : Nat) (h : m < bs.idxOf true) {hl : m < bs.length}, bs[m] = false
  | true :: bs, m, h, _ => by simp at h
  | false :: bs, 0, _, _ => rfl
  | false :: bs, m + 1, h, _ => by
    rw [List.getElem_cons_succ]
    refine idx_first bs m ?_
    simp [List.idxOf_cons] at h
    exact h
/-- what the whole def gives -/
theorem marks_w {es1 es2 es3 : List Expr} {b1 b2 b3 : List Bool} {r v : Expr} {ws : List (Str × Nat × Pos)} {br bv : Bool} {j1 j2 j3 j4 j5 : Nat}
    {q1 q2 q3 q4 q5 q6 q7 q8 q9 q10 q11 q12 q13 q14 q15 q16 q17 q18 q19 q20 q21 q22 q23 q24 q25 q26 q27 q28 q29 q30 q31 q32 q33 q34 q35 q36 q37 q38 : Pos}
    {D0 : Ends} (hN : X.N = marksN) (sc : ∀ x ∈ marksN, X.env.scope.names.lookup x = some .local) (hfn : ∀ x, X.fn x = true)
    (hr : plainE r = true ∧ plainT r = true) (wr : ∀ (σ : St) (H : Hp) (Q : VK), σ[0]? = some (some (.ref a)) → Q (.bl br) H → wE X r σ H Q)
    (hv : plainE v = true ∧ plainT v = true) (wv : ∀ (σ : St) (H : Hp) (Q : VK), σ[0]? = some (some (.ref a)) → Q (.bl bv) H → wE X v σ H Q)
    (h1 : ∀ σ : St, σ[0]? = some (some (.ref a)) → Bls X σ es1 b1) (h2 : ∀ σ : St, σ[0]? = some (some (.ref a)) → Bls X σ es2 b2) (h3 : ∀ σ : St, σ[0]? = some (some (.ref a)) → Bls X σ es3 b3)
    (l1 : b1.length ≤ 20) (l2 : b2.length ≤ 20) (l3 : b3.length ≤ 20) (lw : ws.length ≤ 60) (lb : (b1 ++ b2 ++ b3).length ≤ ws.length)
    (hl1 : (q31.endLine == q32.line) = true) (hl2 : (q35.endLine == q36.line) = true)
    (e0 : σ[0]? = some (some (.ref a))) (el : σ.length = 3) (good : ∀ H', Ex H H' → D0.rt (.str (if (br && bv) = true then markOf (b1 ++ b2 ++ b3) (ws.map (·.1)) else "other")) H') :
    wSs X [.If (.BoolOp .Or [.UnaryOp .Not r q1, .UnaryOp .Not v q2] q3) [.Return (some (.Constant (.str "other") j1 q4)) q5] [] q6,
      .Assign [.Name "found" q7] (.List es1 q8) q9,
      .Assign [.Name "found" q10] (.BinOp (.Name "found" q11) .Add (.List es2 q12) q13) q14,
      .Assign [.Name "found" q15] (.BinOp (.Name "found" q16) .Add (.List es3 q17) q18) q19,
      .If (.Compare (.Call (.Attribute (.Name "found" q30) "count" q31) [.Constant (.bool true) j2 q20] [] q32) [.NotEq] [.Constant (.int 1) j3 q21] q22) [.Return (some (.Constant (.str "other") j4 q23)) q24] [] q25,
      .Assign [.Name "words" q26] (.List (strE ws) q27) q28,
      .Return (some (.Subscript (.Name "words" q29) (.Call (.Attribute (.Name "found" q34) "index" q35) [.Constant (.bool true) j5 q33] [] q36) q37)) q38] D0 σ H := by
  have nd : X.N.Nodup := by rw [hN]; decide
  have n0 : X.N[0]? = some ("e" : Str) := by rw [hN]; rfl
  have n1 : X.N[1]? = some ("found" : Str) := by rw [hN]; rfl
  have n2 : X.N[2]? = some ("words" : Str) := by rw [hN]; rfl
  have lc1 := sc "found" (by decide)
  have lc2 := sc "words" (by decide)
  have vs0 : Vis X.env.scope "found" := .inl lc1
  refine PSs.w (pss_cons ps_w (pss_cons ps_w (pss_cons ps_w (pss_cons ps_w (pss_cons ps_w (pss_cons ps_w (pss_one ps_w))))))) ?_
  refine PS.w (ps_if pt_w pss_w pss_w) ?_
  refine PT.w (PW.pt (pw_or pt_w w_of_pt)) ?_
  refine PT.w (pt_not (pt_val pe_w (plainT_eq hr.2))) ?_
  refine wr σ H _ e0 ⟨br, rfl, ?_⟩
  cases br with
  | false => exact iteT (iteT (ret_w pe_str (good H (.refl H))))
  | true =>
  refine iteF ?_
  refine PT.w (PW.pt (pw_or1 (pt_not (pt_val pe_w (plainT_eq hv.2))))) ?_
  refine wv σ H _ e0 ⟨bv, rfl, ?_⟩
  cases bv with
  | false => exact iteT (ret_w pe_str (good H (.refl H)))
  | true =>
  refine iteF (PSs.w pss_nil ?_)
  have good : ∀ H', Ex H H' → D0.rt (.str (markOf (b1 ++ b2 ++ b3) (ws.map (·.1)))) H' := good
  refine PS.w (ps_set (i := 1) nd n1 (.inl lc1) pe_w (swap_of rfl) (.inl (hfn _))) ?_
  refine bls_w (h1 σ e0) (by omega) fun p1 f1 => ?_
  have z0 : ∀ {σ : St} {x : Option V}, σ[0]? = some (some (.ref a)) → (σ.set 1 x)[0]? = some (some (.ref a)) := fun {σ x} h => by rw [List.getElem?_set_ne (by decide)]; exact h
  refine add_w nd n1 lc1 hfn (by rw [List.getElem?_set_self (by omega)]) upd_same (h2 _ (z0 e0)) l2 (by omega) fun p2 H2 x2 f2 => ?_
  refine add_w nd n1 lc1 hfn (by rw [List.getElem?_set_self (by rw [List.length_set]; omega)]) f2 (h3 _ (z0 (z0 e0))) l3 (by rw [List.length_append]; omega) fun p3 H3 x3 f3 => ?_
  have X3 : Ex H H3 := (Ex.new f1).trans (x2.trans x3)
  clear x2 x3 f2 f1
  generalize hs : ((σ.set 1 (some (V.ref p1))).set 1 (some (V.ref p2))).set 1 (some (V.ref p3)) = σ3
  have s1 : σ3[1]? = some (some (.ref p3)) := by rw [← hs, List.getElem?_set_self (by rw [List.length_set, List.length_set]; omega)]
  have s3 : σ3.length = 3 := by rw [← hs, List.length_set, List.length_set, List.length_set]; exact el
  generalize hb : b1 ++ b2 ++ b3 = bs at f3 good lb
  have lbs : bs.length ≤ 60 := by omega
  clear hs hb h1 h2 h3
  refine PS.w (ps_if (pt_cmpR op_ne pe_w pe_int rfl) pss_w pss_w) ?_
  refine PE.w (pe_bm PySem.F.plainAttrs_list PySem.F.slot_list_count PySem.F.type_list_count mt_cntB (pe_var n1 vs0 rfl rfl) (pa_cons pe_bl pa_nil) (hline := hl1)) ⟨_, s1, .inl ⟨rfl, _, .inl (.inl f3)⟩, ?_⟩
  refine ⟨p3, bs, true, rfl, rfl, .inl (.inl f3), ?_⟩
  refine ⟨rfl, _, rfl, ?_⟩
  by_cases hc : bs.count true = 1
  · have e : (!decide (V.int ((bs.count true : Nat) : Int) = V.int 1)) = false := by rw [hc]; rfl
    rw [e]
    refine iteF (PSs.w pss_nil ?_)
    refine PS.w (ps_set (i := 2) nd n2 (.inl lc2) pe_w (swap_of rfl) (.inl (hfn _))) ?_
    refine disp_w (strE_plain ws) (strE_w ws) (by rw [List.length_map]; omega) fun p4 f4 => ?_
    have ne : p3 ≠ p4 := fun z => by rw [z, f4] at f3; cases f3
    have mem : true ∈ bs := List.count_pos_iff.mp (by omega)
    have il := List.idxOf_lt_length_iff.mpr mem
    have wl : bs.idxOf true < ws.length := by omega
    refine PS.w (ps_ret (pe_ix ix_list (pe_var n2 (.inl lc2) rfl rfl) pe_w (plainIx rfl))) ?_
    refine ⟨_, by rw [List.getElem?_set_self (by omega)], ?_⟩
    refine PE.w (pe_bm PySem.F.plainAttrs_list PySem.F.slot_list_index PySem.F.type_list_index mt_index (pe_var n1 vs0 rfl rfl) (pa_cons pe_bl pa_nil) (hline := hl2)) ⟨.ref p3, by rw [List.getElem?_set_ne (by decide)]; exact s1, .inl ⟨rfl, _, .inl (.inl (by rw [upd_ne ne]; exact f3))⟩, ?_⟩
    refine ⟨p3, bs.map V.bl, .bl true, bs.idxOf true, .bl true, rfl, rfl, .inl (.inl (by rw [upd_ne ne]; exact f3)), rfl, ?_, ?_, rfl, fun m z hm hz => ?_, ?_⟩
    · rw [List.all_map, List.all_eq_true]
      exact fun _ _ => rfl
    · rw [List.getElem?_map, List.getElem?_eq_getElem il, List.getElem_idxOf il]
      rfl
    · rw [List.getElem?_map, List.getElem?_eq_getElem (by omega)] at hz
      rw [idx_first bs m hm] at hz
      cases hz
      rfl
    · refine ⟨p4, ws.map fun w => .str w.1, bs.idxOf true, .str ws[bs.idxOf true].1, rfl, rfl, .inl (.inl upd_same), ?_, ?_⟩
      · exact x_ixn (by rw [List.getElem?_map, List.getElem?_eq_getElem wl]; rfl)
      · have g := good (upd H3 p4 (.lst (ws.map fun w => .str w.1))) (X3.trans (.new f4))
        have m : markOf bs (ws.map (·.1)) = ws[bs.idxOf true].1 := by
          unfold markOf
          rw [if_pos hc, List.getElem?_map, List.getElem?_eq_getElem wl]
          rfl
        rw [m] at g
        exact g
  · have e : (!decide (V.int ((bs.count true : Nat) : Int) = V.int 1)) = true := by
      rw [Bool.not_eq_true', decide_eq_false_iff_not]
      intro z
      have := V.int.inj z
      omega
    rw [e]
    have m : markOf bs (ws.map (·.1)) = "other" := by
      unfold markOf
      rw [if_neg hc]
    refine iteT (ret_w pe_str ?_)
    have g := good H3 X3
    rw [m] at g
    exact g
end
theorem boot_VE : bootBuiltins ("ValueError" : Str) = some (.type "ValueError") := by decide +kernel
/-! ### the def that tells the mark -/
def asks : List Str := ["NoOrder", "NoMany", "NoPairs", "Ring", "NoThing", "NoRow", "NoRows", "NoNumber", "NoChain", "NoTurns", "NoPoints", "NoText"]
def words : List Str := ["order", "many", "pairs", "ring", "thing", "row", "rows", "number", "chain", "turns", "points", "text"]
/-- what is known of a refusal's class -/
structure Kn (K : PySem.W.Frag) (mg : Str → Option Value) (D : Addr) (nm : Str) : Prop where
  ask : ∀ x ∈ asks, ∃ C : Addr, mg x = some (.ref C) ∧ PySem.W.kitOne K (.ref D) (.ref C) = some (decide (x = nm))
  rank : ∃ C : Addr, mg "RankError" = some (.ref C) ∧ PySem.W.kitOne K (.ref D) (.ref C) = some true
  val : mg "ValueError" = none ∧ PySem.W.kitOne K (.ref D) (.type "ValueError") = some true
def mkSc (sc : Scope) : Bool := marksN.all (fun x => sc.names.lookup x == some .local) && ("isinstance" :: "RankError" :: "ValueError" :: asks : List Str).all fun x => sc.names.lookup x == some .globalImplicit
abbrev isA (x : Str) (p1 p2 p3 p4 : Pos) : Expr := .Call (.Name "isinstance" p1) [.Name "e" p2, .Name x p3] [] p4
section
variable {X : Cx} {a D : Addr} {σ : St} {H : Hp}
theorem isA_w {sc : Scope} {x : Str} {p1 p2 p3 p4 : Pos} {C : Addr} {b : Bool} (hsc : X.env.scope = sc) (ms : mkSc sc = true) (hN : X.N = marksN) (hh : Holds X a D) (hx : sc.names.lookup x = some .globalImplicit) (hd : (x == ("__debug__" : Str)) = false) (hm : X.mg x = some (.ref C)) (k : PySem.W.kitOne X.K (.ref D) (.ref C) = some b) :
    ∀ (σ : St) (H : Hp) (Q : VK), σ[0]? = some (some (.ref a)) → Q (.bl b) H → wE X (isA x p1 p2 p3 p4) σ H Q := fun σ H Q e0 q => by
  subst hsc
  have m := ms
  unfold mkSc at m
  rw [Bool.and_eq_true, List.all_eq_true, List.all_eq_true] at m
  have l0 : X.env.scope.names.lookup ("e" : Str) = some .local := by simpa using m.1 ("e" : Str) (by decide)
  have l1 : X.env.scope.names.lookup ("isinstance" : Str) = some .globalImplicit := by simpa using m.2 ("isinstance" : Str) (by decide)
  exact is_w hh (by rw [hN]; rfl) (.inl l0) l1 (pe_glob (v := .ref C) hx hm rfl hd) (fun u r => r) k e0 q
theorem marks_st {sc : Scope} {r1 r2 r3 r4 r5 r6 r7 r8 r9 r10 r11 r12 r13 r14 r15 r16 r17 r18 r19 r20 r21 r22 r23 r24 r25 r26 r27 r28 r29 r30 r31 r32 r33 r34 r35 r36 r37 r38 r39 r40 r41 r42 r43 r44 r45 r46 r47 r48 r49 r50 r51 r52 r53 r54 r55 r56 w0 w1 w2 w3 w4 w5 w6 w7 w8 w9 w10 w11 q1 q2 q3 q4 q5 q6 q7 q8 q9 q10 q11 q12 q13 q14 q15 q16 q17 q18 q19 q20 q21 q22 q23 q24 q25 q26 q27 q28 q29 q30 q31 q32 q33 q34 q35 q36 q37 q38 : Pos} {j1 j2 j3 j4 j5 k0 k1 k2 k3 k4 k5 k6 k7 k8 k9 k10 k11 : Nat} {nm : Str} {D0 : Ends}
    (hsc : X.env.scope = sc) (ms : mkSc sc = true) (hN : X.N = marksN) (hfn : ∀ x, X.fn x = true) (hh : Holds X a D) (kn : Kn X.K X.mg D nm) (hl1 : (q31.endLine == q32.line) = true) (hl2 : (q35.endLine == q36.line) = true)
    (e0 : σ[0]? = some (some (.ref a))) (el : σ.length = 3) (good : ∀ H', Ex H H' → D0.rt (.str (markOf (asks.map fun x => decide (x = nm)) words)) H') :
    wSs X [.If (.BoolOp .Or [.UnaryOp .Not (isA "RankError" r49 r50 r51 r52) q1, .UnaryOp .Not (isA "ValueError" r53 r54 r55 r56) q2] q3) [.Return (some (.Constant (.str "other") j1 q4)) q5] [] q6,
      .Assign [.Name "found" q7] (.List [isA "NoOrder" r1 r2 r3 r4, isA "NoMany" r5 r6 r7 r8, isA "NoPairs" r9 r10 r11 r12, isA "Ring" r13 r14 r15 r16] q8) q9,
      .Assign [.Name "found" q10] (.BinOp (.Name "found" q11) .Add (.List [isA "NoThing" r17 r18 r19 r20, isA "NoRow" r21 r22 r23 r24, isA "NoRows" r25 r26 r27 r28, isA "NoNumber" r29 r30 r31 r32] q12) q13) q14,
      .Assign [.Name "found" q15] (.BinOp (.Name "found" q16) .Add (.List [isA "NoChain" r33 r34 r35 r36, isA "NoTurns" r37 r38 r39 r40, isA "NoPoints" r41 r42 r43 r44, isA "NoText" r45 r46 r47 r48] q17) q18) q19,
      .If (.Compare (.Call (.Attribute (.Name "found" q30) "count" q31) [.Constant (.bool true) j2 q20] [] q32) [.NotEq] [.Constant (.int 1) j3 q21] q22) [.Return (some (.Constant (.str "other") j4 q23)) q24] [] q25,
      .Assign [.Name "words" q26] (.List [.Constant (.str "order") k0 w0, .Constant (.str "many") k1 w1, .Constant (.str "pairs") k2 w2, .Constant (.str "ring") k3 w3, .Constant (.str "thing") k4 w4, .Constant (.str "row") k5 w5, .Constant (.str "rows") k6 w6, .Constant (.str "number") k7 w7, .Constant (.str "chain") k8 w8, .Constant (.str "turns") k9 w9, .Constant (.str "points") k10 w10, .Constant (.str "text") k11 w11] q27) q28,
      .Return (some (.Subscript (.Name "words" q29) (.Call (.Attribute (.Name "found" q34) "index" q35) [.Constant (.bool true) j5 q33] [] q36) q37)) q38] D0 σ H := by
  have m := ms
  unfold mkSc at m
  rw [Bool.and_eq_true, List.all_eq_true, List.all_eq_true] at m
  have gl : ∀ x ∈ ("isinstance" :: "RankError" :: "ValueError" :: asks : List Str), sc.names.lookup x = some .globalImplicit := fun x hx => by simpa using m.2 x hx
  obtain ⟨cR, mR, kR⟩ := kn.rank
  have askW : ∀ x ∈ asks, (x == ("__debug__" : Str)) = false → ∀ (p1 p2 p3 p4 : Pos) (σ : St) (H : Hp) (Q : VK), σ[0]? = some (some (.ref a)) → Q (.bl (decide (x = nm))) H → wE X (isA x p1 p2 p3 p4) σ H Q := fun x hx hd p1 p2 p3 p4 σ H Q e q => by
    obtain ⟨C, mC, kC⟩ := kn.ask x hx
    exact isA_w hsc ms hN hh (gl x (List.mem_cons_of_mem _ (List.mem_cons_of_mem _ (List.mem_cons_of_mem _ hx)))) hd mC kC σ H Q e q
  have B1 : ∀ σ : St, σ[0]? = some (some (.ref a)) → Bls X σ [isA "NoOrder" r1 r2 r3 r4, isA "NoMany" r5 r6 r7 r8, isA "NoPairs" r9 r10 r11 r12, isA "Ring" r13 r14 r15 r16] [decide ("NoOrder" = nm), decide ("NoMany" = nm), decide ("NoPairs" = nm), decide ("Ring" = nm)] := fun σ e => (.cons rfl (fun H Q q => askW "NoOrder" (by decide) (by decide) _ _ _ _ σ H Q e q) (.cons rfl (fun H Q q => askW "NoMany" (by decide) (by decide) _ _ _ _ σ H Q e q) (.cons rfl (fun H Q q => askW "NoPairs" (by decide) (by decide) _ _ _ _ σ H Q e q) (.cons rfl (fun H Q q => askW "Ring" (by decide) (by decide) _ _ _ _ σ H Q e q) .nil))))
  have B2 : ∀ σ : St, σ[0]? = some (some (.ref a)) → Bls X σ [isA "NoThing" r17 r18 r19 r20, isA "NoRow" r21 r22 r23 r24, isA "NoRows" r25 r26 r27 r28, isA "NoNumber" r29 r30 r31 r32] [decide ("NoThing" = nm), decide ("NoRow" = nm), decide ("NoRows" = nm), decide ("NoNumber" = nm)] := fun σ e => (.cons rfl (fun H Q q => askW "NoThing" (by decide) (by decide) _ _ _ _ σ H Q e q) (.cons rfl (fun H Q q => askW "NoRow" (by decide) (by decide) _ _ _ _ σ H Q e q) (.cons rfl (fun H Q q => askW "NoRows" (by decide) (by decide) _ _ _ _ σ H Q e q) (.cons rfl (fun H Q q => askW "NoNumber" (by decide) (by decide) _ _ _ _ σ H Q e q) .nil))))
  have B3 : ∀ σ : St, σ[0]? = some (some (.ref a)) → Bls X σ [isA "NoChain" r33 r34 r35 r36, isA "NoTurns" r37 r38 r39 r40, isA "NoPoints" r41 r42 r43 r44, isA "NoText" r45 r46 r47 r48] [decide ("NoChain" = nm), decide ("NoTurns" = nm), decide ("NoPoints" = nm), decide ("NoText" = nm)] := fun σ e => (.cons rfl (fun H Q q => askW "NoChain" (by decide) (by decide) _ _ _ _ σ H Q e q) (.cons rfl (fun H Q q => askW "NoTurns" (by decide) (by decide) _ _ _ _ σ H Q e q) (.cons rfl (fun H Q q => askW "NoPoints" (by decide) (by decide) _ _ _ _ σ H Q e q) (.cons rfl (fun H Q q => askW "NoText" (by decide) (by decide) _ _ _ _ σ H Q e q) .nil))))
  refine marks_w (a := a) (br := true) (bv := true) (ws := [("order", k0, w0), ("many", k1, w1), ("pairs", k2, w2), ("ring", k3, w3), ("thing", k4, w4), ("row", k5, w5), ("rows", k6, w6), ("number", k7, w7), ("chain", k8, w8), ("turns", k9, w9), ("points", k10, w10), ("text", k11, w11)]) hN (fun x hx => by rw [hsc]; simpa using m.1 x hx) hfn ⟨rfl, rfl⟩ (fun σ H Q e q => isA_w hsc ms hN hh (gl _ (by decide)) (by decide) mR kR σ H Q e q) ⟨rfl, rfl⟩ (fun σ H Q e q => ?_) B1 B2 B3 (by simp) (by simp) (by simp) (by simp) (by simp) hl1 hl2 e0 el good
  subst hsc
  exact is_w hh (by rw [hN]; rfl) (.inl (by simpa using m.1 "e" (by decide))) (gl _ (by decide)) (pe_bltn (v := .ty "ValueError") (gl _ (by decide)) kn.val.1 boot_VE rfl (by decide) (by decide)) (fun u r => r) kn.val.2 e q
end
/-- a def whose body tells the mark -/
def MkBody (st : Stmt) : Prop := ∀ (X : Cx) (a D : Addr) (nm : Str) (σ : St) (H : Hp) (D0 : Ends), X.N = marksN → X.env.scope = defScope st → (∀ x, X.fn x = true) → Holds X a D → Kn X.K X.mg D nm → σ[0]? = some (some (.ref a)) → σ.length = 3 →
  (∀ H', Ex H H' → D0.rt (.str (markOf (asks.map fun x => decide (x = nm)) words)) H') → wSs X (defBody st) D0 σ H
theorem fnM_of {P : Program} {w : World} {K : PySem.W.Frag} {mg : Str → Option Value} {base : Heap} {f : Addr} {fd : FuncData} {st : Stmt} {exs : List (Str × Str)} (F : Fun K "_law_marks" "_law_marks" st f fd) (S : FnScope marksN ["e"] (defScope st)) (body : MkBody st)
    (isi : mg "isinstance" = none) (says : ∀ p ∈ exs, markOf (asks.map fun x => decide (x = p.1)) words = p.2) (kn : ∀ p ∈ exs, ∀ D : Addr, mg p.1 = some (.ref D) → Kn K mg D p.1 ∧ ExcC K D) : FnM P w K mg base f fd exs := by
  obtain ⟨oc, od, kV, doc, pm, an, cv, ct, osl, rfl, lk, code⟩ := F.ex
  intro p hp D hD A outer s H q args Q E room hot pin e0 bind h1 h2 h3 good
  obtain ⟨k1, k2⟩ := kn p hp D hD
  have old := fun b o e => (e0.bs b o e).1
  have inK := e0.mod.kin.keeps old
  have far := e0.mod.nolimit.keeps old
  have kinds : ∀ y ∈ [(("e" : Str), Value.ref q.1)], (defScope st).names.lookup y.1 = some .local ∨ ((defScope st).names.lookup y.1 = some .cell ∧ ((cellsFrom (s.heap.objs.size + 1) (defScope st).names []).lookup y.1).isSome = true) := by
    intro y hy
    have ey : y = (("e" : Str), Value.ref q.1) := List.mem_singleton.mp hy
    subst ey
    exact (S.par _ (List.mem_singleton.mpr rfl)).imp id fun q => ⟨q, PySem.W.cellsFrom_some _ _ _ (.inl q)⟩
  refine codeAny_call_function room.depth (inK _ _ lk) rfl S.co S.gen rfl (PySem.W.codeRec_of inK code) (bind _ _ _ _ (wpAny_newFunctionEnv_cells S.kind kinds fun env he s1 enter => ?_))
  subst he
  generalize hX : L2H.cxH (L2N.CX P w) P w K mg base marksN "_law_marks" (defScope st) f cv A outer s H E q = X
  have J : Inv X [] (start marksN [.ref q.1]) H s1 := by
    subst hX
    exact L2H.inv_startH (ps := ["e"]) (us := [.ref q.1]) S pin e0 rfl (.cons rfl .nil) enter
  have hh : Holds X q.1 D := by
    subst hX
    exact ⟨⟨q.2, List.mem_singleton.mpr rfl, h1, .inl h2, h3⟩, k2, isi⟩
  have ht : wSs X (defBody st) { nx := fun _ H' => Q .non H', rt := Q } (start marksN [.ref q.1]) H := by
    refine body X q.1 D p.1 _ H _ (by subst hX; rfl) (by subst hX; rfl) (by subst hX; exact fun _ => rfl) hh (by subst hX; exact k1) rfl rfl fun H' x => ?_
    rw [says p hp]
    exact good H' x
  have run := ht [] s1 J
  subst hX
  refine ⟨far.keeps enter.toInCall.keep, codeAny_func (wpAny_mono run (fun fl s' hs => ?_) fun _ _ hs => hs)⟩
  cases fl with
  | brk => exact hs.elim fun _ z => z.elim fun _ z => z.2.elim
  | cont => exact hs.elim fun _ z => z.elim fun _ z => z.2.elim
  | next =>
    obtain ⟨σ', H', I, q⟩ := hs
    exact ⟨.non, H', I.os, I.bare, I.base, I.hok, rfl, q⟩
  | ret u =>
    obtain ⟨v, σ', H', I, rv, q⟩ := hs
    exact ⟨v, H', I.os, I.bare, I.base, I.hok, rv, q⟩
/-! ### raise, try -/
def dRaise (x : Str) : DenS := fun _ _ => .exc ⟨x, none⟩
def hasX (x : Str) (exs : List (Str × Str)) : Bool := exs.any fun p => p.1 == x
theorem snd_raise {Γ : Ctx} {x m : Str} {j : Nat} {p p2 pos pos' : Pos} (hx : hasX x Γ.exs = true) (hg : Γ.sc.names.lookup x = some .globalImplicit) (hd : (x == ("__debug__" : Str)) = false) : SndS Γ (.Raise (some (.Call (.Name x p) [.Constant (.str m) j p2] [] pos)) none pos') (dRaise x) := by
  intro X Φ B F H ρ σ D W C BO bo hK T R hq
  obtain ⟨y, hy, e⟩ := List.any_eq_true.mp hx
  have e : y.1 = x := by simpa using e
  obtain ⟨c, mc, ef⟩ := C.exs y hy
  rw [e] at mc
  refine PS.w (L2N.ps_raise C.calm T (L2N.pmk_own PySem.F.excBase_ValueError ef.ok mc ef.kp (raises_own ef.bs ef.tp) (gl_of C hg) hd)) ?_
  exact hq σ F H (.ref c) none R.kept (.refl F) ⟨mc, rfl⟩
/-- what stays of the slots behind a refusal -/
def thin (ρ : Env) : Env := ρ.map fun s => if s.isOwn = true then .un else s
theorem thin_get {ρ : Env} {i : Nat} {s : Slot} (h : (thin ρ)[i]? = some s) (n : s ≠ .un) : ρ[i]? = some s ∧ s.isOwn = false := by
  unfold thin at h
  rw [List.getElem?_map] at h
  cases e : ρ[i]? with
  | none => rw [e] at h; cases h
  | some t =>
    rw [e] at h
    have h : (if t.isOwn = true then Slot.un else t) = s := Option.some.inj h
    cases o : t.isOwn with
    | true => rw [o] at h; exact absurd h.symm n
    | false => rw [o] at h; subst h; exact ⟨rfl, o⟩
theorem Sl.thin {B : Bd} {F H F' H' : Hp} {ρ : Env} {σ : St} (k : Sl B F H ρ σ) (e : Ex F F') : Sl B F' H' (Dn.thin ρ) σ := by
  have no : ∀ {i : Nat} {s : Slot}, (Dn.thin ρ)[i]? = some s → s.isOwn = true → False := fun {i s} h o => by
    have := (thin_get h fun z => by rw [z] at o; cases o).2
    rw [o] at this
    cases this
  refine ⟨by rw [← k.len]; exact List.length_map _, fun i d h => ?_, fun i ns h => ?_, fun i s h o => (no h o).elim, k.par, fun i j s t a _ h o => (no h o).elim⟩
  · obtain ⟨v, h1, h2⟩ := k.val i d (thin_get h fun z => nomatch z).1
    exact ⟨v, h1, h2.mono e⟩
  · obtain ⟨b, h1, h2⟩ := k.scr i ns (thin_get h fun z => nomatch z).1
    exact ⟨b, h1, e.sqL h2⟩
/-- try: body, except RankError as e: return _law_marks(e) -/
def dTry (exs : List (Str × Str)) (b : DenS) : DenS := fun Φ ρ => match b Φ ρ with
  | .ok r => .ok r
  | .exc x => match x.arg, exs.find? fun p => p.1 == x.cls with
    | none, some p => .ok (.ret (.val (.str p.2)), thin ρ)
    | _, _ => .stuck
  | .stuck => .stuck
  | .any _ => .stuck
  | .exs _ _ => .stuck
/-! ### which class is which -/
theorem kit_of {K : PySem.W.Frag} {D C : Addr} {b : Bool} (self : PySem.W.subIn K (.ref D) (.ref D) = some true) (ic : PySem.W.isClsIn K C = true) (ty : PySem.W.typeIn K (.ref C) = some (.type "type")) (su : PySem.W.subIn K (.ref D) (.ref C) = some b) : PySem.W.kitOne K (.ref D) (.ref C) = some b := by
  unfold PySem.W.kitOne
  by_cases e : D = C
  · subst e
    rw [self] at su
    rw [if_pos (beq_self_eq_true _)]
    exact su
  · rw [if_neg (by simpa using e)]
    unfold PySem.W.kitCls
    have ic : (PySem.W.clsIn K C).isSome = true := ic
    simp only [ic, ty, beq_self_eq_true, Bool.and_self, if_true]
    exact su
theorem kit_val {K : PySem.W.Frag} {D : Addr} {b : Bool} (su : PySem.W.subIn K (.ref D) (.type "ValueError") = some b) : PySem.W.kitOne K (.ref D) (.type "ValueError") = some b := by
  have m : PySem.W.kitMeta "ValueError" = true := by decide +kernel
  show (if PySem.W.kitMeta "ValueError" = true then PySem.W.subIn K (.ref D) (.type "ValueError") else none) = some b
  rw [if_pos m]
  exact su
/-! ### steps -/
section
variable {α β : Type} {x : Exc} {f : α → Out β} {P : α → Prop} {E : Exc → Prop} {Φ : Calls} {ρ : Env} {b : DenS} {exs : List (Str × Str)} {c : Str} {p : Str × Str} {r : Fl × Env}
@[simp] theorem x_bindX : (Out.exc x : Out α).bind f = .exc x := id rfl
@[simp] theorem x_wpX : (Out.exc x : Out α).wp P E = E x := id rfl
@[simp] theorem x_dRaise : dRaise c Φ ρ = .exc ⟨c, none⟩ := id rfl
def kTry2 (o : Option (Str × Str)) (ρ : Env) : Out (Fl × Env) := match o with
  | some p => .ok (.ret (.val (.str p.2)), thin ρ)
  | none => .stuck
def kTry (exs : List (Str × Str)) (ρ : Env) : Out (Fl × Env) → Out (Fl × Env)
  | .ok r => .ok r
  | .exc ⟨c, none⟩ => kTry2 (exs.find? fun p => p.1 == c) ρ
  | .exc ⟨_, some _⟩ => .stuck
  | .stuck => .stuck
  | .any _ => .stuck
  | .exs _ _ => .stuck
@[simp] theorem x_dTry : dTry exs b Φ ρ = kTry exs ρ (b Φ ρ) := by
  unfold dTry kTry
  cases b Φ ρ with
  | ok r => rfl
  | stuck => rfl
  | any _ => rfl
  | exs _ _ => rfl
  | exc x =>
    obtain ⟨c, a⟩ := x
    cases a with
    | none =>
      show _ = kTry2 (exs.find? fun p => p.1 == c) ρ
      cases g : exs.find? fun p => p.1 == c with
      | none => simp only [g]; rfl
      | some p => simp only [g]; rfl
    | some v => rfl
@[simp] theorem x_kTryO : kTry exs ρ (.ok r) = .ok r := id rfl
@[simp] theorem x_kTryX : kTry exs ρ (.exc ⟨c, none⟩) = kTry2 (exs.find? fun p => p.1 == c) ρ := id rfl
@[simp] theorem x_kTry2 : kTry2 (some p) ρ = .ok (.ret (.val (.str p.2)), thin ρ) := id rfl
@[simp] theorem x_thin0 : thin [] = [] := id rfl
@[simp] theorem x_thinV {d : PyData} : thin (.val d :: ρ) = .val d :: thin ρ := id rfl
@[simp] theorem x_thinU : thin (.un :: ρ) = .un :: thin ρ := id rfl
@[simp] theorem x_thinO {ds : List PyData} : thin (.own ds :: ρ) = .un :: thin ρ := id rfl
end
end Dn

/-! Den46: lists of rows compared. -/
namespace Dn
open PySem PySem.Spec L2
open PyProof.Rows hiding St
/-! an expression's result, frozen -/
def kIce : Slot × Env → Out (Slot × Env) := fun r => match r.1 with
  | .val d => .ok (.val d, r.2)
  | .own ds => .ok (.val (.list ds), r.2)
  | .odc false es => .ok (.val (.dict es), r.2)
  | _ => .stuck
def dIce (d : Den) : Den := fun Φ ρ => (d Φ ρ).bind kIce
theorem snd_ice {Γ : Ctx} {e : Expr} {d : Den} {p : Bool} (h : SndE Γ e d p) : SndE Γ e (dIce d) p := by
  intro X Φ B F H ρ σ Q W C hK T R hq
  refine h X Φ B F H ρ σ Q W C hK T R (wp_mono (wp_bind (c := d Φ ρ) hq) (fun r q v F1 H1 R1 e1 e2 hv => ?_) fun _ z => z)
  obtain ⟨s, ρ1⟩ := r
  cases s with
  | val x => exact q v F1 H1 R1 e1 e2 hv
  | own ds =>
    obtain ⟨F2, d2, R2, e3, ee, hr⟩ := Res.freeze R1 hv rfl
    cases ee
    exact q v F2 H1 R2 (e1.trans e3) e2 hr
  | odc t es =>
    cases t with
    | true => exact q.elim
    | false =>
      obtain ⟨F2, d2, R2, e3, ee, hr⟩ := Res.freeze R1 hv rfl
      cases ee
      exact q v F2 H1 R2 (e1.trans e3) e2 hr
  | un => exact q.elim
  | obj _ _ => exact q.elim
  | scr _ => exact q.elim
section
variable {d : Den} {Φ : Calls} {ρ : Env} {x : PyData} {ds : List PyData}
@[simp] theorem x_dIce : dIce d Φ ρ = (d Φ ρ).bind kIce := id rfl
@[simp] theorem x_kIce1 : kIce (.val x, ρ) = .ok (.val x, ρ) := id rfl
@[simp] theorem x_kIce2 : kIce (.own ds, ρ) = .ok (.val (.list ds), ρ) := id rfl
end
end Dn

/-! Den47: how many ways to go on. -/
namespace Dn
open PySem PySem.Spec L2
open PyProof.Rows hiding St
/-- so many rows begin so, k things lacking -/
def cnt (m : Nat) (ps : List (Int × Int)) : Nat → List Int → Nat
  | 0, _ => 1
  | k + 1, R => ((freeI m ps R).map fun x => cnt m ps k (R ++ [x])).sum
theorem free_perm {m : Nat} {ps : List (Int × Int)} {R Q : List Int} (h : R.Perm Q) : freeI m ps R = freeI m ps Q := by
  unfold freeI
  refine List.filter_congr fun t _ => ?_
  have e1 : decide (t ∉ R) = decide (t ∉ Q) := by
    rw [Bool.eq_iff_iff, decide_eq_true_eq, decide_eq_true_eq, h.mem_iff]
  have e2 : ∀ p : Int × Int, decide (p.1 ∈ R) = decide (p.1 ∈ Q) := fun p => by
    rw [Bool.eq_iff_iff, decide_eq_true_eq, decide_eq_true_eq, h.mem_iff]
  rw [e1]
  simp only [e2]
theorem cnt_perm {m : Nat} {ps : List (Int × Int)} : ∀ (k : Nat) {R Q : List Int}, R.Perm Q → cnt m ps k R = cnt m ps k Q
  | 0, _, _, _ => rfl
  | k + 1, R, Q, h => by
    unfold cnt
    rw [free_perm h]
    congr 1
    exact List.map_congr_left fun x _ => cnt_perm k (h.append_right [x])
theorem sort_iff {R Q : List Int} : sortI R = sortI Q ↔ R.Perm Q := by
  constructor
  · intro h
    exact ((sortI_perm R).symm.trans (by rw [h])).trans (sortI_perm Q)
  · intro h
    refine List.Perm.eq_of_pairwise (le := fun a b => leI a b = true) (fun a b _ _ h1 h2 => ?_) ?_ ?_ (((sortI_perm R).trans h).trans (sortI_perm Q).symm)
    · unfold leI at h1 h2
      simp only [decide_eq_true_eq] at h1 h2
      omega
    · exact List.pairwise_mergeSort (le := leI) (fun a b c h g => leI_trans h g) leI_total R
    · exact List.pairwise_mergeSort (le := leI) (fun a b c h g => leI_trans h g) leI_total Q
/-- what is known -/
def TabOk (m : Nat) (ps : List (Int × Int)) (T : List (List Int × Int)) : Prop := ∀ e ∈ T, ∃ R, Beg m ps R ∧ e.1 = sortI R ∧ e.2 = cnt m ps (m - R.length) R
def tabN (T : List (List Int × Int)) : List (PyData × PyData) := T.map fun e => (.tuple (nsD e.1), .int e.2)
theorem TabOk.nil {m : Nat} {ps : List (Int × Int)} : TabOk m ps [] := fun _ h => absurd h List.not_mem_nil
theorem TabOk.look {m : Nat} {ps : List (Int × Int)} {T : List (List Int × Int)} (t : TabOk m ps T) {g : List Int} {v : Int} (h : lookL T (sortI g) = some v) : v = cnt m ps (m - g.length) g := by
  obtain ⟨R, _, h1, h2⟩ := t _ (lookL_some h)
  have p := sort_iff.mp h1
  have h2 : v = cnt m ps (m - R.length) R := h2
  rw [h2, ← cnt_perm _ p, p.length_eq]
theorem TabOk.put {m : Nat} {ps : List (Int × Int)} {T : List (List Int × Int)} (t : TabOk m ps T) {g : List Int} (b : Beg m ps g) : TabOk m ps (putL T (sortI g) (cnt m ps (m - g.length) g)) := by
  unfold putL
  split
  · intro e he
    obtain ⟨e', h', rfl⟩ := List.mem_map.mp he
    by_cases c : e'.1 = sortI g
    · rw [if_pos c]
      exact ⟨g, b, c, rfl⟩
    · rw [if_neg c]
      exact t e' h'
  · intro e he
    rcases List.mem_append.mp he with he | he
    · exact t e he
    · rw [List.mem_singleton.mp he]
      exact ⟨g, b, rfl, rfl⟩
section
variable {Φ : Calls} {ρ : Env} {i : Nat} {r : DenA} {t t' : Bool} {es fs : List (PyData × PyData)} {ss : List Slot}
@[simp] theorem x_asVar5 : aVar (some (.odc t es)) i r Φ ρ = (r Φ (ρ.set i .un)).bind (kAs (some i, .odc t es)) := id rfl
@[simp] theorem x_outs5 : outsOk (.odc t es :: ss) (.odc t' fs :: ρ) = outsOk ss ρ := id rfl
end
/-- so many entries more at most -/
def more (m : Nat) : Nat → Nat
  | 0 => 0
  | k + 1 => 1 + m * more m k
/-- all rows that begin so, in the order of tuples -/
def ext (m : Nat) (ps : List (Int × Int)) : Nat → List Int → List (List Int)
  | 0, R => [R]
  | k + 1, R => (freeI m ps R).flatMap fun x => ext m ps k (R ++ [x])
theorem Beg.row {m : Nat} {ps : List (Int × Int)} {R : List Int} (o : IsOrd m ps) (b : Beg m ps R) (h : R.length = m) : R.Perm (upTo m) ∧ ps.all (aheadB R) = true := by
  have pm := perm_of_full b.nd b.sub (by omega)
  exact ⟨pm, ahd_all o b.ahd pm⟩
end Dn

/-! Den50: rows that turn a turn; rows from behind. -/
namespace Dn
open PySem PySem.Spec L2
open PyProof.Rows hiding St
/-- the order with (b, a) and all that follows -/
def andP (m : Nat) (ps : List (Int × Int)) (a b : Int) : List (Int × Int) := (gridP m).filter fun p => decide (p ∈ ps) || ((decide (p.1 = b) || decide ((p.1, b) ∈ ps)) && (decide (p.2 = a) || decide ((a, p.2) ∈ ps)))
/-- turns that none of the rows turns -/
def leftT (m : Nat) (ps : List (Int × Int)) (rs : List (List Int)) : List (Int × Int) := (gridP m).filter fun p => apartB ps p.1 p.2 && rs.all fun r => aheadB r p
/-! from behind -/
def fac : Nat → Nat
  | 0 => 1
  | k + 1 => (k + 1) * fac k
end Dn

/-! Den52: turns that force one another: classes of forcing, and a choice of each two turns about one another (plain). -/
namespace Dn
abbrev PI := Int × Int
abbrev PS' := PI → Prop
def sw (p : PI) : PI := (p.2, p.1)
/-- one forces another one -/
def Fo (S : PS') (p q : PI) : Prop := p ≠ q ∧ ((p.1 = q.1 ∧ ¬ S (p.2, q.2)) ∨ (p.2 = q.2 ∧ ¬ S (p.1, q.1)))
inductive Rch (S : PS') (p : PI) : PI → Prop
  | refl : Rch S p p
  | step {q r : PI} : Rch S p q → S r → Fo S q r → Rch S p r
def SymS (S : PS') : Prop := ∀ a b, S (a, b) → S (b, a)
def IrrS (S : PS') : Prop := ∀ a, ¬ S (a, a)
def NoKnot (S : PS') : Prop := ∀ a b, S (a, b) → ¬ Rch S (a, b) (b, a)
section
variable {S : PS'} {p q r : PI} {a b c d a2 b2 c2 : Int}
theorem sw_sw (p : PI) : sw (sw p) = p := rfl
theorem Fo.symm (sy : SymS S) (h : Fo S p q) : Fo S q p := by
  obtain ⟨n, h⟩ := h
  refine ⟨fun e => n e.symm, ?_⟩
  rcases h with ⟨e, h⟩ | ⟨e, h⟩
  · exact .inl ⟨e.symm, fun z => h (sy _ _ z)⟩
  · exact .inr ⟨e.symm, fun z => h (sy _ _ z)⟩
theorem Fo.swap (h : Fo S p q) : Fo S (sw p) (sw q) := by
  obtain ⟨n, h⟩ := h
  refine ⟨fun e => n (by
    have := congrArg sw e
    rwa [sw_sw, sw_sw] at this), ?_⟩
  rcases h with h | h
  · exact .inr h
  · exact .inl h
theorem Rch.trans (h : Rch S p q) (g : Rch S q r) : Rch S p r := by
  induction g with
  | refl => exact h
  | step _ s f ih => exact .step ih s f
theorem Rch.mem (h : Rch S p q) (hp : S p) : S q := by
  cases h with
  | refl => exact hp
  | step _ s _ => exact s
theorem Rch.one (hq : S q) (f : Fo S p q) : Rch S p q := .step .refl hq f
theorem Rch.symm (sy : SymS S) (h : Rch S p q) (hp : S p) : Rch S q p := by
  induction h with
  | refl => exact .refl
  | step g s f ih => exact (Rch.one (g.mem hp) (f.symm sy)).trans ih
theorem Rch.swap (sy : SymS S) (h : Rch S p q) : Rch S (sw p) (sw q) := by
  induction h with
  | refl => exact .refl
  | step g s f ih => exact .step ih (sy _ _ s) f.swap
/-- what is left when a class and its turned about one are taken away -/
def Less (S : PS') (e q : PI) : Prop := S q ∧ ¬ Rch S e q ∧ ¬ Rch S e (sw q)
def HatS (S : PS') (e q : PI) : Prop := Rch S e q ∨ Rch S e (sw q)
theorem Less.irr (ir : IrrS S) {e : PI} : IrrS (Less S e) := fun a h => ir a h.1
/-- two classes meet over one that is taken away -/
def Mg (S : PS') (e x y : PI) : Prop := ∃ a b c, HatS S e (b, c) ∧ S (b, c) ∧ Less S e (a, b) ∧ Less S e (a, c) ∧ ((Rch S x (a, b) ∧ Rch S (a, c) y) ∨ (Rch S x (b, a) ∧ Rch S (c, a) y))
theorem Less.of (sy : SymS S) {e p q : PI} (hp : Less S e p) (h : Rch S p q) : Less S e q :=
  ⟨h.mem hp.1, fun g => hp.2.1 (g.trans (h.symm sy hp.1)), fun g => hp.2.2 (g.trans ((h.swap sy).symm sy (sy _ _ hp.1)))⟩
/-- a choice of each two turns about one another, that goes on -/
structure Tro (S F : PS') : Prop where
  sub : ∀ p, F p → S p
  tot : ∀ a b, S (a, b) → F (a, b) ∨ F (b, a)
  asy : ∀ a b, F (a, b) → ¬ F (b, a)
  tr : ∀ a b c, F (a, b) → F (b, c) → F (a, c)
end
end Dn

/-! Den53: two rows as points; the rows of a choice of turns (plain). -/
namespace Dn
open PySem PySem.Spec L2
open PyProof.Rows hiding St
def ptI (r0 r1 : List Int) (t : Int) : Int × Int := ((r0.idxOf t : Nat), (r1.idxOf t : Nat))
def ptsI (m : Nat) (r0 r1 : List Int) : List (Int × Int) := (upTo m).map (ptI r0 r1)
/-! ### a choice of turns gives two rows -/
/-- all turns of an order, as a list -/
def TurnsOf (m : Nat) (ps T : List (Int × Int)) : Prop := ∀ p, p ∈ T ↔ (0 ≤ p.1 ∧ p.1 < m ∧ 0 ≤ p.2 ∧ p.2 < m) ∧ apartB ps p.1 p.2 = true
def inL (T : List (Int × Int)) : PS' := fun p => p ∈ T
theorem TurnsOf.irr {m : Nat} {ps T : List (Int × Int)} (h : TurnsOf m ps T) : IrrS (inL T) := fun a q => by
  have := apartB_iff.mp ((h _).mp q).2
  exact this.1 rfl
section
variable {m : Nat} {ps T F : List (Int × Int)}
/-- ahead in the row -/
def Lb (ps F : List (Int × Int)) (a b : Int) : Bool := decide ((a, b) ∈ ps) || decide ((a, b) ∈ F)
structure LinB (m : Nat) (R : Int → Int → Bool) : Prop where
  asy : ∀ a b, R a b = true → R b a = false
  tr : ∀ a b c, R a b = true → R b c = true → R a c = true
  tot : ∀ a b : Int, 0 ≤ a → a < m → 0 ≤ b → b < m → a ≠ b → R a b = true ∨ R b a = true
/-- how many are ahead of one -/
def rkB (m : Nat) (R : Int → Int → Bool) (t : Int) : Nat := ((upTo m).filter fun x => R x t).length
/-- the row of a rank -/
def rowRk (m : Nat) (R : Int → Int → Bool) : List Int := (upTo m).mergeSort fun a b => decide (rkB m R a ≤ rkB m R b)
/-- the points by a choice -/
def ptB (ps F : List (Int × Int)) (t : Int) : Int × Int := (((ps.filter fun p => decide (p.2 = t)).length : Int) + ((F.filter fun p => decide (p.2 = t)).length : Int), ((ps.filter fun p => decide (p.2 = t)).length : Int) + ((F.filter fun p => decide (p.1 = t)).length : Int))
end
/-! ### a crown -/
def Crn (m : Int) (ps : List (Int × Int)) : Prop := ∃ l h : Nat → Int, (∀ i, i < 3 → 0 ≤ l i ∧ l i < m ∧ 0 ≤ h i ∧ h i < m ∧ l i ≠ h i ∧ (l i, h i) ∉ ps) ∧ ∀ i j, i < 3 → j < 3 → i ≠ j → (l i, h j) ∈ ps
end Dn

/-! Den54: each row with the one in which all that is apart stands the other way about (plain). -/
namespace Dn
open PySem PySem.Spec L2
open PyProof.Rows hiding St
section
variable {m : Nat} {ps T : List (Int × Int)} {R : Int → Int → Bool}
/-- of each two things just one leads -/
structure Trn (m : Nat) (R : Int → Int → Bool) : Prop where
  inn : ∀ a b, R a b = true → a ∈ upTo m ∧ b ∈ upTo m
  asy : ∀ a b, R a b = true → R b a = false
  tot : ∀ a ∈ upTo m, ∀ b ∈ upTo m, a ≠ b → R a b = true ∨ R b a = true
theorem Trn.irr (t : Trn m R) (a : Int) : R a a = false := by
  cases c : R a a with
  | false => rfl
  | true => exact (t.asy a a c).symm.trans c |>.symm
/-- all that is apart the other way about -/
def othB (m : Nat) (ps : List (Int × Int)) (r : List Int) (a b : Int) : Bool := decide (a ∈ upTo m) && (decide (b ∈ upTo m) && (decide ((a, b) ∈ ps) || (apartB ps a b && decide (r.idxOf b < r.idxOf a))))
/-- the places in the other row -/
def othP (m : Nat) (ps : List (Int × Int)) (r : List Int) : List Int := (upTo m).map fun t => ((rkB m (othB m ps r) t : Nat) : Int)
end
end Dn

/-! Den55: orders put together, and their rows (plain). -/
namespace Dn
open PySem PySem.Spec L2
open PyProof.Rows hiding St
def shP (k : Int) (ps : List (Int × Int)) : List (Int × Int) := ps.map fun p => (p.1 + k, p.2 + k)
def besP (m : Int) (ps qs : List (Int × Int)) : List (Int × Int) := sortP (ps ++ shP m qs)
def acrP (m k : Nat) : List (Int × Int) := (List.range m).flatMap fun a : Nat => (List.range k).map fun b : Nat => ((a : Int), (m : Int) + (b : Int))
def blk (t m one : Nat) : List Int := if one = t then (List.range m).map fun i : Nat => (t : Int) + (i : Int) else [(one : Int) + ((m : Int) - 1) * (if (one : Int) > t then 1 else 0)]
def nrow (t k i : Nat) : List (Int × Int) := (List.range (if i = t then k else 1)).map fun j : Nat => ((i : Int), (j : Int))
def NM (t k i : Nat) : List (Int × Int) := (List.range i).flatMap (nrow t k)
def dec (t k x : Nat) : Int × Int := if x < t then ((x : Int), 0) else if x < t + k then ((t : Int), (x : Int) - t) else ((x : Int) - k + 1, 0)
def rel (t k : Nat) (ps qs : List (Int × Int)) (p : Int × Int) : Bool :=
  if (dec t k p.1.toNat).1 = (dec t k p.2.toNat).1 then decide ((dec t k p.1.toNat).1 = (t : Int)) && decide (((dec t k p.1.toNat).2, (dec t k p.2.toNat).2) ∈ qs)
  else decide (((dec t k p.1.toNat).1, (dec t k p.2.toNat).1) ∈ ps)
def gR (R : List (List Int)) (t : Nat) : List Int := (R[t % R.length]?).getD []
def sh1 (k : Int) (s : List Int) : List Int := s.map (· + k)
def behR (m1 : Nat) (R1 R2 : List (List Int)) (k : Nat) : List (List Int) := (List.range k).map fun t => gR R1 t ++ sh1 m1 (gR R2 t)
section
variable {m1 m2 : Nat} {ps1 ps2 : List (Int × Int)} {R1 R2 : List (List Int)}
/-- a row of the ones beside one another -/
def besRow (m1 : Nat) (R1 R2 : List (List Int)) (t : Nat) : List Int := if t = 1 then sh1 m1 (gR R2 t) ++ gR R1 t else gR R1 t ++ sh1 m1 (gR R2 t)
def besR (m1 : Nat) (R1 R2 : List (List Int)) (k : Nat) : List (List Int) := (List.range k).map (besRow m1 R1 R2)
end
/-- a row with a thing replaced -/
def rplB (t k : Nat) (s : List Int) (one : Int) : List Int := if one = t then s.map fun x => (t : Int) + x else blk t k one.toNat
def rplRow (t k : Nat) (r s : List Int) : List Int := r.flatMap (rplB t k s)
def rplR (t k : Nat) (R1 R2 : List (List Int)) (K : Nat) : List (List Int) := (List.range K).map fun i => rplRow t k (gR R1 i) (gR R2 i)
section
variable {m1 m2 t : Nat} {ps1 ps2 : List (Int × Int)} {R1 R2 : List (List Int)} {r s : List Int}
end

end Dn

/-! Den57: the first that does, in loops; marks of rows as numbers; how many rows an order has at most. -/
namespace Dn
open PySem PySem.Spec L2
open PyProof.Rows hiding St
/-- a loop that gives back at the first that does -/
def FndP {α β : Type} (f : α → Option β) (out : β → Slot) (I : Env → Prop) (E : List α) : Fl × Env → Prop := fun q => (q.1 = .nx ∧ E.findSome? f = none ∧ I q.2) ∨ ∃ v, q.1 = .ret (out v) ∧ E.findSome? f = some v ∧ I q.2
def StpP {β : Type} (o : Option β) (out : β → Slot) (I : Env → Prop) : Fl × Env → Prop := fun q => ((q.1 = .nx ∨ q.1 = .cnt) ∧ o = none ∧ I q.2) ∨ ∃ v, q.1 = .ret (out v) ∧ o = some v ∧ I q.2
/-- whether a row turns a turn -/
def trnB (r : List Int) (p : Int × Int) : Bool := decide (r.idxOf p.2 < r.idxOf p.1)
/-- truths as a number, the first the highest -/
def mkF {α : Type} (f : α → Bool) : Nat → List α → Nat
  | a, [] => a
  | a, x :: T => mkF f (2 * a + (f x).toNat) T
/-- a test that changes nothing leaves the slots as they were -/
def dPure (t : Den) : Den := fun Φ ρ => (t Φ ρ).bind fun r => .ok (r.1, ρ)
theorem Rel.back {B : Bd} {F F' H H' : Hp} {ρ ρ' : Env} {σ : St} (R : Rel B F H ρ σ) (R' : Rel B F' H' ρ' σ) (e : Ex H H') : Rel B F H' ρ σ :=
  ⟨⟨R.kept.ff, R.kept.ex.trans e, R'.kept.keep, R.kept.nof, R'.kept.live⟩,
   ⟨R.sl.len, R.sl.val, R.sl.scr, fun i s q qs => by
      obtain ⟨a, o, h1, h2, h3, h4, h5⟩ := R.sl.own i s q qs
      exact ⟨a, o, h1, h2, e _ _ h3, h4, h5⟩, R.sl.par, R.sl.dis⟩⟩
section
variable {Φ : Calls} {ρ ρ' : Env} {t : Den} {s : Slot}
def kPu (ρ : Env) : Slot × Env → Out (Slot × Env) := fun r => .ok (r.1, ρ)
@[simp] theorem x_dPure : dPure t Φ ρ = (t Φ ρ).bind (kPu ρ) := id rfl
@[simp] theorem x_dPure1 : kPu ρ (s, ρ') = .ok (s, ρ) := id rfl
end
end Dn

/-! Den58: the search for rows that turn some turns: what it finds does, and it finds where some do. -/
namespace Dn
open PySem PySem.Spec L2
open PyProof.Rows hiding St
abbrev PutL := List (List (Int × Int))
/-- what a row has -/
def atP (put : PutL) (i : Nat) : List (Int × Int) := (put[i]?).getD []
/-- the rows that can turn a turn, too -/
def plcP (put : PutL) (t : Int × Int) : List Nat := (List.range put.length).filter fun i => decide (t ∉ atP put i)
/-- of some turns the first that the fewest rows can turn -/
def hardP (put : PutL) (left : List (Int × Int)) : Int × Int := left.foldl (fun b t => if (plcP put t).length < (plcP put b).length then t else b) (left.headD (0, 0))
/-- a row's pairs with one turn turned -/
noncomputable def ndP (m : Nat) (L : List (Int × Int)) (t : Int × Int) : List (Int × Int) := clo m (L ++ [(t.2, t.1)])
/-- the search -/
noncomputable def putF (m : Nat) : Nat → PutL → List (Int × Int) → Option PutL
  | 0, put, _ => some put
  | k + 1, put, left => if left = [] then some put else (plcP put (hardP put left)).findSome? fun i => if i = 0 ∨ atP put i ≠ atP put (i - 1) then putF m k (put.set i (ndP m (atP put i) (hardP put left))) (left.filter fun t => decide (t ≠ hardP put left)) else none
/-- turns in place -/
def TIn (m : Nat) (left : List (Int × Int)) : Prop := ∀ t ∈ left, (0 ≤ t.1 ∧ t.1 < m ∧ 0 ≤ t.2 ∧ t.2 < m) ∧ t.1 ≠ t.2
section
variable {m : Nat} {L : List (Int × Int)} {t : Int × Int}
end
end Dn

/-! Den60: a list looked at in a test stays the law's own. -/
namespace Dn
open PySem PySem.Spec L2
open PyProof.Rows hiding St
/-- the slots, one own again, the other own ones forgotten -/
def keepE (i : Nat) (ds : List PyData) (ρ : Env) : Env := ρ.mapIdx fun j s => if j = i then .own ds else if s.isOwn then .un else s
theorem keepE_at {i j : Nat} {ds : List PyData} {ρ : Env} {s : Slot} (h : (keepE i ds ρ)[j]? = some s) : ∃ s0, ρ[j]? = some s0 ∧ ((j = i ∧ s = .own ds) ∨ (j ≠ i ∧ s = (if s0.isOwn then .un else s0))) := by
  unfold keepE at h
  rw [List.getElem?_mapIdx] at h
  obtain ⟨s0, h1, h2⟩ := Option.map_eq_some_iff.mp h
  refine ⟨s0, h1, ?_⟩
  by_cases c : j = i
  · rw [if_pos c] at h2
    exact .inl ⟨c, h2.symm⟩
  · rw [if_neg c] at h2
    exact .inr ⟨c, h2.symm⟩
/-- a test that looks at one own list of tuples (or the like) -/
def dKeep (i : Nat) (t : Den) : Den := fun Φ ρ => (t Φ ρ).bind fun r => match ρ[i]?, r.2[i]? with
  | some (.own _), some (.val (.list ds)) => guard' (noLAll ds) (.ok (r.1, keepE i ds ρ))
  | _, _ => .ok r
theorem Rel.keep {B : Bd} {F F' H H' : Hp} {ρ ρ' : Env} {σ : St} {i : Nat} {ds0 ds : List PyData} (R : Rel B F H ρ σ) (R' : Rel B F' H' ρ' σ) (e : Ex F F') (h0 : ρ[i]? = some (.own ds0)) (h1 : ρ'[i]? = some (.val (.list ds))) (nl : noLAll ds = true) :
    Rel B (bothH F (tupH F')) H' (keepE i ds ρ) σ ∧ Ex F (bothH F (tupH F')) := by
  have le : Ex (bothH F (tupH F')) F' := fun a o h => by
    unfold bothH at h
    cases z : F a with
    | some u => rw [z] at h; cases h; exact e _ _ z
    | none => rw [z] at h; exact tupH_ex F' _ _ h
  have tl : Ex (tupH F') (bothH F (tupH F')) := fun a o h => by
    unfold bothH
    cases z : F a with
    | some u =>
      have h1 := e _ _ z
      have h2 := tupH_ex F' _ _ h
      rw [h1] at h2
      cases h2
      rfl
    | none => exact h
  have l := bothH_l F (tupH F')
  refine ⟨⟨⟨R.kept.ff.trans l, le.trans R'.kept.ex, R'.kept.keep, fun a a1 a2 a3 => ?_, R'.kept.live⟩, ?_⟩, l⟩
  · have z := R'.kept.nof a a1 a2 a3
    cases y : bothH F (tupH F') a with
    | none => rfl
    | some o =>
      rw [le _ _ y] at z
      cases z
  · refine ⟨?_, fun j d q => ?_, fun j ns q => ?_, fun j s q qs => ?_, R.sl.par, fun j k s t a ne q qs q' qs' => ?_⟩
    · unfold keepE
      rw [List.length_mapIdx]
      exact R.sl.len
    · obtain ⟨s0, g1, g2 | ⟨g2, g3⟩⟩ := keepE_at q
      · cases g2.2
      · split at g3
        · cases g3
        · subst g3
          obtain ⟨v, k1, k2⟩ := R.sl.val j d g1
          exact ⟨v, k1, Rp.mono l _ _ k2⟩
    · obtain ⟨s0, g1, g2 | ⟨g2, g3⟩⟩ := keepE_at q
      · cases g2.2
      · split at g3
        · cases g3
        · subst g3
          obtain ⟨a, k1, k2⟩ := R.sl.scr j ns g1
          exact ⟨a, k1, l.sqL k2⟩
    · obtain ⟨s0, g1, g2 | ⟨g2, g3⟩⟩ := keepE_at q
      · obtain ⟨rfl, rfl⟩ := g2
        obtain ⟨a, o, k1, k2, k3, k4, k5⟩ := R.sl.own j _ h0 rfl
        obtain ⟨v, m1, m2⟩ := R'.sl.val j _ h1
        rw [k1] at m1
        cases m1
        cases m2 with
        | lst n1 n2 =>
          rename_i us
          refine ⟨a, .lst us, k1, ?_, R'.kept.ex _ _ n1, ⟨us, rfl, (rp_tupAll _ _ n2 nl).mono tl⟩, k5⟩
          unfold bothH tupH
          rw [k2, n1]
      · split at g3
        · subst g3; cases qs
        · rename_i c
          subst g3
          exact absurd qs c
    · obtain ⟨s0, g1, g2 | ⟨g2, g3⟩⟩ := keepE_at q
      · obtain ⟨t0, g4, g5 | ⟨g5, g6⟩⟩ := keepE_at q'
        · exact absurd (g2.1.trans g5.1.symm) ne
        · split at g6
          · subst g6; cases qs'
          · rename_i c
            subst g6
            exact absurd qs' c
      · split at g3
        · subst g3; cases qs
        · rename_i c
          subst g3
          exact absurd qs c
section
variable {Φ : Calls} {ρ ρ' : Env} {t : Den} {s : Slot} {i : Nat} {ds es : List PyData}
def kKe (i : Nat) (ρ : Env) : Slot × Env → Out (Slot × Env) := fun r => match ρ[i]?, r.2[i]? with
  | some (.own _), some (.val (.list ds)) => guard' (noLAll ds) (.ok (r.1, keepE i ds ρ))
  | _, _ => .ok r
@[simp] theorem x_dKeep : dKeep i t Φ ρ = (t Φ ρ).bind (kKe i ρ) := id rfl
end
end Dn

/-! Den61: a call without arguments. -/
namespace Dn
open PySem PySem.Spec L2
open PyProof.Rows hiding St
end Dn

/-! Den62: a refusal that a comprehension looks at: its name in a cell, a comprehension while it is held, defs called there. -/
namespace Dn
open PySem PySem.Spec L2
open PyProof.Rows hiding St

/-! ### the name of an except clause, in a cell -/
section
variable {X : Cx} {pins : List (Addr × Obj)} {σ : St} {H : Hp} {s : Shared} {i : Nat} {n : Str}
end
/-! ### a comprehension while an exception is held -/
/-- the block's context, the held exception known in it -/
abbrev blkH (X : Cx) (q : Addr × Obj) (s : Shared) (H : Hp) (scope : Scope) (cenv : PySem.Env) (fp : List Addr) : Cx := { X.blk s H scope cenv fp with pn := [q] }
section
variable {X : Cx} {q : Addr × Obj}
end
end Dn

/-! Den63: refusals told by their places: the defs that look at them, try. -/
namespace Dn
open PySem PySem.Spec L2
open PyProof.Rows hiding St

/-! ### a def that is called while an exception is held -/
/-- from its body -/
theorem hot_fn {P : Program} {w : World} {K : PySem.W.Frag} {mg : Str → Option Value} {base : Heap} {x : Str} {st : Stmt} {f : Addr} {fd : FuncData} {ps N : List Str} (F : Fun K x x st f fd) (S : FnScope N ps (defScope st)) {A : Around} {outer : List PySem.Env} {s : Shared} {H : Hp} {q : Addr × Obj}
    {args : Args} {us : List Value} {vs : List V} {Q : VK} {E : XK} {k : Nat} (room : L2H.RoomH (k + 1) A) (hot : L2H.Hot1 A q) (pin : L2H.PinOk outer H s q) (e0 : Env0 P w K mg base A outer s H) (bind : BindsTo s fd args (ps.zip us)) (len : vs.length = ps.length) (rel : Vals vs us)
    (body : ∀ X : Cx, X.N = N → X.env.scope = defScope st → (∀ x, X.fn x = true) → X.prog = P → X.w = w → X.K = K → X.mg = mg → X.base = base → q ∈ X.pn → L2H.Hot1 X.A q → L2H.RoomH k X.A → wSs X (defBody st) { nx := fun _ H' => Q .non H', rt := Q } (start N vs) H) :
    codeAny (model P w) A (.call (.ref f) args) (CR (L2N.CX P w) outer P w H s Q E) s := by
  obtain ⟨oc, od, kV, doc, pm, an, cv, ct, osl, rfl, lk, code⟩ := F.ex
  have old := fun b o e => (e0.bs b o e).1
  have inK := e0.mod.kin.keeps old
  have far := e0.mod.nolimit.keeps old
  have kinds : ∀ y ∈ ps.zip us, (defScope st).names.lookup y.1 = some .local ∨ ((defScope st).names.lookup y.1 = some .cell ∧ ((cellsFrom (s.heap.objs.size + 1) (defScope st).names []).lookup y.1).isSome = true) := by
    intro y hy
    have my := (List.of_mem_zip (show (y.1, y.2) ∈ ps.zip us from hy)).1
    exact (S.par y.1 my).imp id fun q => ⟨q, PySem.W.cellsFrom_some _ _ _ (.inl q)⟩
  refine codeAny_call_function room.depth (inK _ _ lk) rfl S.co S.gen rfl (PySem.W.codeRec_of inK code) (bind _ _ _ _ (wpAny_newFunctionEnv_cells S.kind kinds fun env he s1 enter => ?_))
  subst he
  have J : Inv (L2H.cxH (L2N.CX P w) P w K mg base N x (defScope st) f cv A outer s H E q) [] (start N vs) H s1 := L2H.inv_startH (ps := ps) (us := us) S pin e0 len rel enter
  have run := body (L2H.cxH (L2N.CX P w) P w K mg base N x (defScope st) f cv A outer s H E q) rfl rfl (fun _ => rfl) rfl rfl rfl rfl rfl (List.mem_singleton.mpr rfl) hot (room.deeper _) [] s1 J
  refine ⟨far.keeps enter.toInCall.keep, codeAny_func (wpAny_mono run (fun fl s' hs => ?_) fun _ _ hs => hs)⟩
  cases fl with
  | brk => exact hs.elim fun _ z => z.elim fun _ z => z.2.elim
  | cont => exact hs.elim fun _ z => z.elim fun _ z => z.2.elim
  | next =>
    obtain ⟨σ', H', I, q⟩ := hs
    exact ⟨.non, H', I.os, I.bare, I.base, I.hok, rfl, q⟩
  | ret u =>
    obtain ⟨v, σ', H', I, rv, q⟩ := hs
    exact ⟨v, H', I.os, I.bare, I.base, I.hok, rv, q⟩
/-- its call -/
theorem hot_call {X : Cx} {f : Addr} {fd : FuncData} {ps : List Str} {x : Str} {p pos : Pos} {e : Expr} {es : List Expr} {t : TA} {σ : St} {H : Hp} {Q : VK} {q : Addr × Obj} (hq : q ∈ X.pn) (hg : Gl X x) (gm : X.mg x = some (.ref f)) (gk : PySem.W.keepIn X.K (.ref f) = true) (gb : Binds X.K fd ps [])
    (hd : (x == ("__debug__" : Str)) = false) (ha : PA X (e :: es) t) (hs : starEach (e :: es) X.env = (false, eval e X.env) :: starEach es X.env) (hp : (backTo pos (starEach es X.env)).any (·.1) = false)
    (h : t σ H fun vs H1 => vs.length = ps.length ∧ ∀ (s1 : Shared) (us : List Value), L2H.PinOk X.stack H1 s1 q → Env0 X.prog X.w X.K X.mg X.base X.A X.stack s1 H1 → BindsTo s1 fd ⟨us, []⟩ (ps.zip us) → Vals vs us →
      codeAny (model X.prog X.w) X.A (.call (.ref f) ⟨us, []⟩) (CR (L2N.CX X.prog X.w) X.stack X.prog X.w H1 s1 Q (fun _ _ _ => False)) s1) : wE X (.Call (.Name x p) (e :: es) [] pos) σ H Q := by
  intro pins s I
  refine wpAny_Call_Name_kw (ld_glob I hg gm (PySem.W.callWith_K (h₀ := X.base) I.ok.mod.kin gk (thn (ha.run pos pins s σ H _ I h) fun us s1 z => ?_) hs hp) hd)
  obtain ⟨vs, H1, I1, rel, len, q1⟩ := z
  have b := gb s1 us I1.kIn (by rw [List.append_nil, ← rel.length]; exact len)
  rw [List.append_nil] at b
  have pn := I1.pin q (List.mem_append_left pins hq)
  have pin : L2H.PinOk X.stack H1 s1 q := ⟨pn.1, pn.2.1, fun hm => by
    rcases List.mem_cons.mp (I1.stkSub q.1 hm) with z | z
    · exact pn.2.2.1 z
    · exact pn.2.2.2.1 z, pn.2.2.2.2⟩
  refine ⟨I1.kIn, wpAny_call (codeAny_mono (q1 s1 us pin I1.env0 b rel) fun r s' h => ?_)⟩
  match r, h with
  | .error err, h => exact (noExc h).elim
  | .ok (.ret u), h => exact I1.after h
  | .ok .next, h => exact h.elim
  | .ok .brk, h => exact h.elim
  | .ok .cont, h => exact h.elim

/-! ### _law_classes, _law_only -/
/-- what is known of a refusal's class -/
structure KnL (K : PySem.W.Frag) (mg : Str → Option Value) (D : Addr) (nm : Str) : Prop where
  ask : ∀ x ∈ asksL, ∃ C : Addr, mg x = some (.ref C) ∧ PySem.W.kitOne K (.ref D) (.ref C) = some (decide (x = nm))
  rank : ∃ C : Addr, mg "RankError" = some (.ref C) ∧ PySem.W.kitOne K (.ref D) (.ref C) = some true
  val : mg "ValueError" = none ∧ PySem.W.kitOne K (.ref D) (.type "ValueError") = some true
  isi : mg "isinstance" = none
  is : ExcC K D
def clSc (sc : Scope) : Bool := ([("e" : Str), "found"].all fun x => sc.names.lookup x == some .local) && ("isinstance" :: asksL : List Str).all fun x => sc.names.lookup x == some .globalImplicit
section
variable {X : Cx} {a D : Addr} {σ : St} {H : Hp}
end
/-- a def whose body tells the classes -/
def ClBody (st : Stmt) : Prop := ∀ (X : Cx) (a D : Addr) (nm : Str) (σ : St) (H : Hp) (D0 : Ends), X.N = (["e", "found"] : List Str) → X.env.scope = defScope st → (∀ x, X.fn x = true) → Holds X a D → KnL X.K X.mg D nm → σ[0]? = some (some (.ref a)) → σ.length = 2 →
  (∀ H' p, Ex H H' → H' p = some (.lst ((asksL.map fun x => decide (x = nm)).map V.bl)) → D0.rt (.ref p) H') → wSs X (defBody st) D0 σ H
/-- its promise -/
def FnC (P : Program) (w : World) (K : PySem.W.Frag) (mg : Str → Option Value) (base : Heap) (f : Addr) (fd : FuncData) (D : Addr) (nm : Str) : Prop :=
  ∀ (A : Around) (outer : List PySem.Env) (s : Shared) (H : Hp) (q : Addr × Obj) (us : List Value) (Q : VK) (E : XK), L2H.RoomH 1 A → L2H.Hot1 A q → L2H.PinOk outer H s q → Env0 P w K mg base A outer s H → BindsTo s fd ⟨us, []⟩ ((["e"] : List Str).zip us) → Vals [.ref q.1] us →
    q.2.cls = .ref D → q.2.dict = none → (∃ vs, q.2.data = .fields vs) → (∀ H' p', Ex H H' → H' p' = some (.lst ((asksL.map fun x => decide (x = nm)).map V.bl)) → Q (.ref p') H') → codeAny (model P w) A (.call (.ref f) ⟨us, []⟩) (CR (L2N.CX P w) outer P w H s Q E) s
def olSc (sc csc : Scope) : Bool := (sc.names.lookup ("e" : Str) == some .local) && (sc.names.lookup ("place" : Str) == some .cell) && (["isinstance", "RankError", "ValueError", "_law_classes", "range"] : List Str).all (fun x => sc.names.lookup x == some .globalImplicit) && blkC ["e", "place", "k"] sc csc [("k", 2)] &&
  ((relS csc sc).names.lookup ("k" : Str) == some .local) && ((relS csc sc).names.lookup ("place" : Str) == some .cell || (relS csc sc).names.lookup ("place" : Str) == some .free)
section
variable {X : Cx} {a D : Addr} {σ : St} {H : Hp}
end
def OlBody (st : Stmt) : Prop := ∀ (X : Cx) (D : Addr) (nm : Str) (σ : St) (H : Hp) (D0 : Ends) (k : Int) (f : Addr) (fd : FuncData) (q : Addr × Obj), X.N = (["e", "place", "k"] : List Str) → X.env.scope = defScope st → q ∈ X.pn → L2H.Hot1 X.A q → L2H.RoomH 1 X.A → q.2.cls = .ref D → q.2.dict = none → (∃ vs, q.2.data = .fields vs) → KnL X.K X.mg D nm →
  FnC X.prog X.w X.K X.mg X.base f fd D nm → X.mg "_law_classes" = some (.ref f) → PySem.W.keepIn X.K (.ref f) = true → Binds X.K fd ["e"] [] → X.mg "range" = none → nm ∈ asksL → σ[0]? = some (some (.ref q.1)) → σ[1]? = some (some (.int k)) → σ.length = 3 →
  (∀ H', Ex H H' → D0.rt (.bl (decide (k = placeOf nm))) H') → wSs X (defBody st) D0 σ H
def tOl (X : Cx) (q : Addr × Obj) (csc : Scope) (e : Expr) : TT := fun σ H Q => ∀ (s : Shared) (H0 : Hp) (C : Addr) (cl : List (Str × Addr)) (fp : List Addr), wT (blkH X q s H0 csc (compEnvC csc cl C X.env) fp) e σ H Q
/-! ### try -/
/-- try: body, except RankError as e: return [place for place in range(16) if _law_only(e, place)] -/
def dTryL (exs : List (Str × Str)) (b : DenS) : DenS := fun Φ ρ => match b Φ ρ with
  | .ok r => .ok r
  | .exc x => match x.arg, exs.find? fun p => p.1 == x.cls with
    | none, some p => .ok (.ret (.own [.int (placeOf p.1)]), thin ρ)
    | _, _ => .stuck
  | .stuck => .stuck
  | .any _ => .stuck
  | .exs _ _ => .stuck
def tlSc (N : List Str) (sc csc : Scope) (jp : Nat) : Bool := (sc.names.lookup ("e" : Str) == some .cell) && (["RankError", "range"] : List Str).all (fun x => sc.names.lookup x == some .globalImplicit) && blkC N sc csc [("place", jp)] &&
  ((relS csc sc).names.lookup ("place" : Str) == some .local) && ((relS csc sc).names.lookup ("e" : Str) == some .cell || (relS csc sc).names.lookup ("e" : Str) == some .free) && ((relS csc sc).names.lookup ("_law_only" : Str) == some .globalImplicit)
/-! ### steps -/
section
variable {Φ : Calls} {ρ : Env} {b : DenS} {exs : List (Str × Str)} {c : Str} {p : Str × Str} {r : Fl × Env}
def kTryL2 (o : Option (Str × Str)) (ρ : Env) : Out (Fl × Env) := match o with
  | some p => .ok (.ret (.own [.int (placeOf p.1)]), thin ρ)
  | none => .stuck
def kTryL (exs : List (Str × Str)) (ρ : Env) : Out (Fl × Env) → Out (Fl × Env)
  | .ok r => .ok r
  | .exc ⟨c, none⟩ => kTryL2 (exs.find? fun p => p.1 == c) ρ
  | .exc ⟨_, some _⟩ => .stuck
  | .stuck => .stuck
  | .any _ => .stuck
  | .exs _ _ => .stuck
@[simp] theorem x_dTryL : dTryL exs b Φ ρ = kTryL exs ρ (b Φ ρ) := by
  unfold dTryL kTryL
  cases b Φ ρ with
  | ok r => rfl
  | stuck => rfl
  | any _ => rfl
  | exs _ _ => rfl
  | exc x =>
    obtain ⟨c, a⟩ := x
    cases a with
    | none =>
      show _ = kTryL2 (exs.find? fun p => p.1 == c) ρ
      cases g : exs.find? fun p => p.1 == c with
      | none => simp only [g]; rfl
      | some p => simp only [g]; rfl
    | some v => rfl
@[simp] theorem x_kTryLO : kTryL exs ρ (.ok r) = .ok r := id rfl
@[simp] theorem x_kTryLX : kTryL exs ρ (.exc ⟨c, none⟩) = kTryL2 (exs.find? fun p => p.1 == c) ρ := id rfl
@[simp] theorem x_kTryL2 : kTryL2 (some p) ρ = .ok (.ret (.own [.int (placeOf p.1)]), thin ρ) := id rfl
end
end Dn

/-! Den68: matchings by augmenting, and the chains they make. -/
namespace Dn
open PySem PySem.Spec L2
open PyProof.Rows hiding St
abbrev MtL := List (Int × Int)
/-- a set of matched things out of which the matching does not lead -/
def Clo (ps : List (Int × Int)) (L : MtL) (C : List Int) : Prop := ∀ l ∈ C, ∃ t, lookL L l = some t ∧ ∀ x, (t, x) ∈ ps → x ∈ C
/-- what augmenting gives -/
structure AugR (m : Nat) (ps : List (Int × Int)) (t : Int) (S : List Int) (L : MtL) (b : Bool) (S' : List Int) (L' : MtL) : Prop where
  sub : ∀ x ∈ S, x ∈ S'
  nd : S'.Nodup
  up : ∀ x ∈ S', x ∈ upTo m
  no : b = false → L' = L ∧ (∀ x, (t, x) ∈ ps → x ∈ S') ∧ ∀ l ∈ S', l ∉ S → ∃ t', lookL L l = some t' ∧ ∀ x, (t', x) ∈ ps → x ∈ S'
  key : b = true → ∃ l0, l0 ∉ L.map (·.1) ∧ l0 ∈ upTo m ∧ L'.map (·.1) = L.map (·.1) ++ [l0]
  val : b = true → (L'.map (·.2)).Perm (t :: L.map (·.2))
  same : b = true → ∀ l ∈ S, lookL L' l = lookL L l
  ok : b = true → ∀ e ∈ L', (e.2, e.1) ∈ ps
  clo : b = true → ∀ C, Clo ps L C → (∀ l ∈ C, lookL L' l = lookL L l) ∧ ¬ ∀ x, (t, x) ∈ ps → x ∈ C
/-- the loop over the places, before place j -/
structure AugI (m : Nat) (ps : List (Int × Int)) (t : Int) (S : List Int) (L : MtL) (j : Nat) (Sj : List Int) : Prop where
  sub : ∀ x ∈ S, x ∈ Sj
  nd : Sj.Nodup
  up : ∀ x ∈ Sj, x ∈ upTo m
  to : ∀ x : Int, 0 ≤ x → x < j → (t, x) ∈ ps → x ∈ Sj
  cl : ∀ l ∈ Sj, l ∉ S → ∃ t', lookL L l = some t' ∧ ∀ x, (t', x) ∈ ps → x ∈ Sj
theorem AugI.start {m : Nat} {ps : List (Int × Int)} {t : Int} {S : List Int} {L : MtL} (nd : S.Nodup) (up : ∀ x ∈ S, x ∈ upTo m) : AugI m ps t S L 0 S := ⟨fun _ h => h, nd, up, fun x h1 h2 => by omega, fun l h1 h2 => absurd h1 h2⟩
theorem AugI.done {m : Nat} {ps : List (Int × Int)} {t : Int} {S Sj : List Int} {L : MtL} (o : IsOrd m ps) (i : AugI m ps t S L m Sj) : AugR m ps t S L false Sj L :=
  ⟨i.sub, i.nd, i.up, fun _ => ⟨rfl, fun x hx => by
    have := o.bd _ hx
    exact i.to x (by omega) (by omega) hx, i.cl⟩, (fun z => by cases z), (fun z => by cases z), (fun z => by cases z), (fun z => by cases z), (fun z => by cases z)⟩
theorem AugI.skip {m : Nat} {ps : List (Int × Int)} {t : Int} {S Sj : List Int} {L : MtL} {j : Nat} (i : AugI m ps t S L j Sj) (h : (t, (j : Int)) ∉ ps ∨ (j : Int) ∈ Sj) : AugI m ps t S L (j + 1) Sj :=
  ⟨i.sub, i.nd, i.up, fun x h1 h2 h3 => by
    by_cases c : x = (j : Int)
    · subst c
      exact h.resolve_left fun z => z h3
    · exact i.to x h1 (by omega) h3, i.cl⟩
/-- all things below j handed in; U those that found no place -/
structure MtI (m : Nat) (ps : List (Int × Int)) (j : Nat) (L : MtL) (U : List Int) : Prop where
  kn : (L.map (·.1)).Nodup
  ku : ∀ x ∈ L.map (·.1), x ∈ upTo m
  ok : ∀ e ∈ L, (e.2, e.1) ∈ ps
  pm : (L.map (·.2) ++ U).Perm (upTo j)
  cl : ∃ C, Clo ps L C ∧ ∀ u ∈ U, ∀ x, (u, x) ∈ ps → x ∈ C
theorem MtI.start (m : Nat) (ps : List (Int × Int)) : MtI m ps 0 [] [] := ⟨.nil, (fun x h => nomatch h), (fun x h => nomatch h), .refl _, [], (fun x h => nomatch h), (fun x h => nomatch h)⟩
theorem upTo_snoc (j : Nat) : upTo (j + 1) = upTo j ++ [(j : Int)] := by
  unfold upTo
  rw [List.range_succ, List.map_append]
  rfl
theorem MtI.step {m : Nat} {ps : List (Int × Int)} {j : Nat} {L L' : MtL} {U S' : List Int} {b : Bool} (i : MtI m ps j L U) (r : AugR m ps (j : Int) [] L b S' L') : ∃ U', MtI m ps (j + 1) L' U' := by
  obtain ⟨C, hC, hU⟩ := i.cl
  cases b with
  | false =>
    obtain ⟨rfl, r2, r3⟩ := r.no rfl
    refine ⟨U ++ [(j : Int)], i.kn, i.ku, i.ok, ?_, C ++ S', fun l hl => ?_, fun u hu x hx => ?_⟩
    · rw [← List.append_assoc, upTo_snoc]
      exact i.pm.append_right _
    · rcases List.mem_append.mp hl with h | h
      · obtain ⟨t, h1, h2⟩ := hC l h
        exact ⟨t, h1, fun x hx => List.mem_append_left _ (h2 x hx)⟩
      · obtain ⟨t, h1, h2⟩ := r3 l h (by simp)
        exact ⟨t, h1, fun x hx => List.mem_append_right _ (h2 x hx)⟩
    · rcases List.mem_append.mp hu with h | h
      · exact List.mem_append_left _ (hU u h x hx)
      · rw [List.mem_singleton.mp h] at hx
        exact List.mem_append_right _ (r2 x hx)
  | true =>
    obtain ⟨l0, hl, hu, hk⟩ := r.key rfl
    obtain ⟨c1, _⟩ := r.clo rfl C hC
    refine ⟨U, ?_, ?_, r.ok rfl, ?_, C, fun l hl => ?_, hU⟩
    · rw [hk]
      exact List.nodup_append.mpr ⟨i.kn, by simp, fun a ha b hb z => hl (by rw [List.mem_singleton] at hb; rw [← hb, ← z]; exact ha)⟩
    · rw [hk]
      intro x hx
      rcases List.mem_append.mp hx with h | h
      · exact i.ku x h
      · rw [List.mem_singleton.mp h]; exact hu
    · rw [upTo_snoc]
      refine ((r.val rfl).append_right U).trans ?_
      rw [List.cons_append]
      exact (i.pm.cons _).trans (List.perm_append_comm (l₁ := [(j : Int)]))
    · obtain ⟨t, h1, h2⟩ := hC l hl
      exact ⟨t, by rw [c1 l hl]; exact h1, h2⟩
theorem filt_two (C : List Int) : ∀ A : List Int, A.length = (A.filter fun x => decide (x ∈ C)).length + (A.filter fun x => decide (x ∉ C)).length
  | [] => rfl
  | a :: A => by
    have ih := filt_two C A
    by_cases c : a ∈ C
    · rw [List.filter_cons_of_pos (by simpa using c), List.filter_cons_of_neg (by simpa using c), List.length_cons, List.length_cons]
      omega
    · rw [List.filter_cons_of_neg (by simpa using c), List.filter_cons_of_pos (by simpa using c), List.length_cons, List.length_cons]
      omega
/-- things that are apart, as many as found no place -/
theorem MtI.apart {m : Nat} {ps : List (Int × Int)} {L : MtL} {U : List Int} (i : MtI m ps m L U) : ∃ B : List Int, U.length ≤ B.length ∧ B.Nodup ∧ (∀ x ∈ B, x ∈ upTo m) ∧ ∀ x ∈ B, ∀ y ∈ B, (x, y) ∉ ps := by
  obtain ⟨C, hC, hU⟩ := i.cl
  let Lc := L.filter fun e => decide (e.1 ∈ C)
  let A := U ++ Lc.map (·.2)
  have lcs : Lc.Sublist L := List.filter_sublist
  have an : A.Nodup := by
    have h := (i.pm.nodup_iff.mpr (by unfold upTo; exact List.Pairwise.map _ (fun a b h e => h (by omega)) List.nodup_range))
    have h2 : (U ++ L.map (·.2)).Nodup := (List.perm_append_comm.nodup_iff).mp h
    exact h2.sublist ((List.Sublist.refl U).append (lcs.map _))
  have au : ∀ x ∈ A, x ∈ upTo m := fun x hx => by
    rw [← i.pm.mem_iff]
    rcases List.mem_append.mp hx with h | h
    · exact List.mem_append_right _ h
    · exact List.mem_append_left _ ((lcs.map _).subset h)
  have out : ∀ x ∈ A, ∀ y, (x, y) ∈ ps → y ∈ C := fun x hx y hy => by
    rcases List.mem_append.mp hx with h | h
    · exact hU x h y hy
    · obtain ⟨e, he, rfl⟩ := List.mem_map.mp h
      have he := List.mem_filter.mp he
      obtain ⟨t, h1, h2⟩ := hC e.1 (of_decide_eq_true he.2)
      rw [lookL_of i.kn (show (e.1, e.2) ∈ L from he.1)] at h1
      cases h1
      exact h2 y hy
  refine ⟨A.filter fun x => decide (x ∉ C), ?_, an.sublist List.filter_sublist, fun x hx => au x (List.mem_filter.mp hx).1, fun x hx y hy z => ?_⟩
  · have h1 : (A.filter fun x => decide (x ∈ C)).length ≤ Lc.length := by
      have := nodup_sub_len (A.filter fun x => decide (x ∈ C)) (Lc.map (·.1)) (an.sublist List.filter_sublist) fun x hx => by
        have hx := List.mem_filter.mp hx
        have hc := of_decide_eq_true hx.2
        obtain ⟨t, h1, _⟩ := hC x hc
        exact List.mem_map.mpr ⟨(x, t), List.mem_filter.mpr ⟨lookL_some h1, decide_eq_true hc⟩, rfl⟩
      rwa [List.length_map] at this
    have h2 : A.length = (A.filter fun x => decide (x ∈ C)).length + (A.filter fun x => decide (x ∉ C)).length := by
      exact filt_two C A
    have h3 : A.length = U.length + Lc.length := by
      show (U ++ Lc.map (·.2)).length = _
      rw [List.length_append, List.length_map]
    omega
  · exact (of_decide_eq_true (List.mem_filter.mp hy).2) (out x (List.mem_filter.mp hx).1 y z)
theorem MtI.count {m : Nat} {ps : List (Int × Int)} {L : MtL} {U : List Int} (i : MtI m ps m L U) : L.length + U.length = m := by
  have := i.pm.length_eq
  rw [List.length_append, List.length_map, upTo_len] at this
  exact this
end Dn

/-! Den70: sorted(set(xs)), xs a list of whole numbers. -/
namespace Dn
open PySem PySem.Spec L2
open PyProof.Rows hiding St
section
variable {P : Program} {w : World} {A : Around} {E : Value → Shared → Prop} {s : Shared}
end
section
variable {X : Cx}
def rSetI (K : PySem.W.Frag) (w : World) : List V → Hp → VK → Prop := fun xs H Q => ∃ (l : Addr) (ns : List Int), xs = [V.ref l] ∧ SqL K H l (ns.map V.int) ∧ ns.length < 62 ∧
  ∀ a c, H a = none → c ≤ ns.length → Q (.ref a) (upd H a (SetO w a (fun j => decide (j ∈ ns)) c))
end
def dedI : List Int → List Int
  | [] => []
  | x :: xs => if x ∈ xs then dedI xs else x :: dedI xs
/-- sorted, each once -/
def setI (ns : List Int) : List Int := sortI (dedI ns)
def pSortSetI : PyData → Option (List PyData)
  | .list ds => (numsOf ds).bind fun ns => if ns.length ≤ 60 then some (nsD (setI ns)) else none
  | _ => none
def dSSI (d : DenO) : Den := fun Φ ρ => (d Φ ρ).bind fun r => (opt (pSortSetI r.1)).bind fun ds => .ok (.own ds, r.2)
theorem rpA_ints {K : PySem.W.Frag} {F : Hp} : ∀ ns : List Int, RpAll K F (nsD ns) (ns.map V.int)
  | [] => .nil
  | n :: ns => .cons (.int n) (rpA_ints ns)
end Dn

/-! Den74: min and max of a tuple of whole numbers. -/
namespace Dn
open PySem PySem.Spec L2
open PyProof.Rows hiding St
theorem reads_ints {h : Heap} : ∀ {ns : List Int} {us : List Value}, Vals (ns.map V.int) us → ∃ as, ReadsAll h us (ns.map PyData.int) as
  | [], _, .nil => ⟨_, .nil⟩
  | n :: ns, _, .cons r t => by
    obtain ⟨as, q⟩ := reads_ints (h := h) t
    obtain ⟨tk, rfl⟩ := r
    exact ⟨_, .cons (.int n tk) q⟩
theorem alike_ints (n : Int) (ns : List Int) : PySem.W.AlikeAll (.int n :: ns.map .int) := by
  have e : PyData.int n :: ns.map .int = (n :: ns).map .int := rfl
  rw [e]
  refine ⟨fun x hx y hy => ?_, fun x hx z => ?_⟩
  · obtain ⟨i, _, rfl⟩ := List.mem_map.mp hx
    obtain ⟨j, _, rfl⟩ := List.mem_map.mp hy
    simp [PySem.W.alike]
  · obtain ⟨i, _, rfl⟩ := List.mem_map.mp hx
    cases z
theorem depth_ints : ∀ ns : List Int, PyData.depthAll (ns.map .int) = 0
  | [] => by simp [PyData.depthAll]
  | n :: ns => by
    have ih := depth_ints ns
    simp [PyData.depthAll, PyData.depth, ih]
def rMinT (K : PySem.W.Frag) : List V → Hp → VK → Prop := fun vs H Q => ∃ (a : Addr) (n : Int) (ns : List Int), vs = [.ref a] ∧ SqT K H a ((n :: ns).map V.int) ∧ Q (.int (ns.foldl min n)) H
def rMaxT (K : PySem.W.Frag) : List V → Hp → VK → Prop := fun vs H Q => ∃ (a : Addr) (n : Int) (ns : List Int), vs = [.ref a] ∧ SqT K H a ((n :: ns).map V.int) ∧ Q (.int (ns.foldl max n)) H
theorem call_maxT {X : Cx} (hc : X.calm = true) (hu : X.A.units + 200 < cLine) : CallR X (.builtin "max") (rMaxT X.K) := by
  intro pins s σ H vs us Q I r ⟨a, n, ns, e, hs, q⟩
  subst e
  rw [Vals.ref1 r]
  obtain ⟨its, rv, hT, _⟩ := I.tuple hs
  obtain ⟨as, ra⟩ := reads_ints (h := s.heap) (ns := n :: ns) rv
  refine PySem.W.max_tuple_data (x := .int n) (xs := ns.map .int) (I.ok.hd hc) hT (as := as) ra (alike_ints n ns) ?_ fun i v h' tk bs hv rd hk => ?_
  · have := depth_ints (n :: ns)
    have e : PyData.depthAll (.int n :: ns.map .int) = 0 := this
    omega
  · rw [PySem.W.maxD_ints] at rd
    cases rd with
    | int _ t => exact ⟨.int (ns.foldl max n), H, I.kept hk, ⟨t, rfl⟩, q⟩
def tup1 (g : Int → List Int → Int) : Prim
  | [.tuple ds] => (numsOf ds).bind fun ns => match ns with
    | [] => none
    | n :: ns => some (.val (.int (g n ns)))
  | _ => none
def pMinT : Prim := tup1 fun n ns => ns.foldl min n
def pMaxT : Prim := tup1 fun n ns => ns.foldl max n
theorem tup1_inv {K : PySem.W.Frag} {F H : Hp} {g : Int → List Int → Int} {ds : List PyData} {vs : List V} {s : Slot} (e : Ex F H) (hb : BpAll K F H ds vs) (h : tup1 g ds = some s) : ∃ a n ns, vs = [.ref a] ∧ SqT K H a ((n :: ns).map V.int) ∧ s = .val (.int (g n ns)) := by
  unfold tup1 at h
  split at h
  · rename_i ys
    obtain ⟨ns, h1, h2⟩ := Option.bind_eq_some_iff.mp h
    obtain ⟨v, rfl, b⟩ := hb.one
    obtain ⟨a, o, xs, rfl, k1, k2, k3⟩ := b.tup
    have := numsOf_rp k3 h1
    subst this
    cases ns with
    | nil => cases h2
    | cons n ns =>
      cases h2
      exact ⟨a, n, ns, rfl, .inl (.inr ⟨o, e _ _ k1⟩), rfl⟩
  · cases h
theorem rl_maxT (K : PySem.W.Frag) : Rule K (rMaxT K) pMaxT := by
  intro F H ds vs Q s e hb hs q
  obtain ⟨a, n, ns, rfl, h1, rfl⟩ := tup1_inv e hb hs
  exact ⟨a, n, ns, rfl, h1, pq_val e q (.int _)⟩
section
variable {Γ : Ctx} {d : DenOs} {p : Bool} {pos fpos : Pos} {a : Expr} {es : List Expr}
theorem e_maxT (h : SndOs Γ (a :: es) d p) (he : (a :: es).all plainE = true) (hg : Γ.sc.names.lookup ("max" : Str) = some .globalImplicit) (hf : ("max" : Str) ∈ Γ.blts) : SndE Γ (.Call (.Name "max" fpos) (a :: es) [] pos) (dP pMaxT d) p :=
  snd_callB (r := rMaxT) (fun X c hr => call_maxT c (by have := hr.un; omega)) rl_maxT boot_max' h he hg hf (by decide)
end
theorem x_maxT (i j : Int) : pMaxT [.tuple [.int i, .int j]] = some (.val (.int (max i j))) := rfl
end Dn

/-! Den75: statements that change a list within a def's result: a part of a body that begins anew (a bubble). -/
namespace Dn
open PySem PySem.Spec L2
open PyProof.Rows hiding St
/-- a frame that began anew -/
structure FrB (B : Bd) : Prop where
  tup : ∀ a vs, B.F0 a ≠ some (.lst vs)
  all : B.F0 = tupH B.F0
  no : ∀ i a, ¬ B.L i a
def BuP (B : Bd) (D : Ends) : Fl × Env → Prop := fun r => match r.1 with
  | .nx => ∀ σ' F' H', Rel B F' H' r.2 σ' → D.nx σ' H'
  | .brk => ∀ σ' F' H', Rel B F' H' r.2 σ' → D.bk σ' H'
  | .cnt => ∀ σ' F' H', Rel B F' H' r.2 σ' → D.ct σ' H'
  | .ret s => ∀ σ' v F' H', Rel B F' H' r.2 σ' → Res B F' H' r.2 σ' s v → D.rt v H'
theorem BuP.st {B : Bd} {D : Ends} {F : Hp} : ∀ r, BuP B D r → StP B F D r := fun r h => by
  obtain ⟨f, ρ⟩ := r
  cases f with
  | nx => exact fun σ' F' H' R _ => h σ' F' H' R
  | brk => exact fun σ' F' H' R _ => h σ' F' H' R
  | cnt => exact fun σ' F' H' R _ => h σ' F' H' R
  | ret s => exact fun σ' v F' H' R _ => h σ' v F' H' R
def SndBu (Γ : Ctx) (st : List Stmt) (d : DenS) : Prop := ∀ (X : Cx) (Φ : Calls) (B : Bd) (F H : Hp) (ρ : Env) (σ : St) (D : Ends) (W : WX), CtxOk Γ Φ X → BodyOk X → BdOk Γ B → B.K = X.K → L2N.Takes X W → Rel B F H ρ σ → FrB B →
  (d Φ ρ).wp (BuP B D) (fun _ => False) → wSs X st D σ H
section
variable {Γ : Ctx} {st : Stmt} {sts : List Stmt} {a b : DenS}
end
/-- what a bubble sees, and what it leaves -/
def bubE (ρ : Env) : Env := ρ.map fun s => if noLS s = true then s else .un
def bacE (ns : List Int) (ρ : Env) : Env := (bubE ρ).set 0 (.scr ns)
def dBub (d : DenS) : DenS := fun Φ ρ => match (ρ[0]? : Option Slot) with
  | some (.scr ns) => (noX (d Φ (bubE ρ))).bind fun r => match r.1 with
    | .ret s => guard' (noLS s) (.ok (.ret s, bacE ns r.2))
    | f => .ok (f, bacE ns r.2)
  | _ => .stuck
/-! ### x[j].append(c), x a tuple with one list -/
def mutS (s : Slot) : Slot := match s with
  | .val d => if noL d = true then .val d else .un
  | .own es => if noLAll es = true then .own es else .un
  | _ => .un
def mutE (i : Nat) (top : Slot) (ρ : Env) : Env := ρ.mapIdx fun k s => if k = i then top else mutS s
def dMutT (i j : Nat) (c : Int) : DenS := fun _ ρ => match (ρ[i]? : Option Slot) with
  | some (.val (.tuple ds)) => match ds[j]? with
    | some (.list xs) => guard' (noLAll (ds.set j .none) && noLAll xs && decide (xs.length < 1000000)) (.ok (.nx, mutE i (.val (.tuple (ds.set j (.list (xs ++ [.int c]))))) ρ))
    | _ => .stuck
  | _ => .stuck
/-! ### x[0].append(c), x.append([]), x a list of lists that nobody looks at again -/
def dMutL (i : Nat) : DenS := fun _ ρ => match (ρ[i]? : Option Slot) with
  | some (.val (.list (.list xs :: ds))) => guard' (decide (xs.length < 1000) && decide (ds.length < 1000)) (.ok (.nx, bubE ρ))
  | _ => .stuck
section
variable {Φ : Calls} {ρ ρ' : Env} {d : DenS} {ns : List Int} {f : Fl} {s : Slot}
def kBub (ns : List Int) : Fl × Env → Out (Fl × Env) := fun r => match r.1 with
  | .ret s => guard' (noLS s) (.ok (.ret s, bacE ns r.2))
  | f => .ok (f, bacE ns r.2)
@[simp] theorem x_kBub1 : kBub ns (.nx, ρ) = .ok (.nx, bacE ns ρ) := id rfl
@[simp] theorem x_kBub2 : kBub ns (.ret s, ρ) = guard' (noLS s) (.ok (.ret s, bacE ns ρ)) := id rfl
end
end Dn

/-! Den76: texts: one within another, int of a text, join, split; tuples of whole numbers compared. -/
namespace Dn
open PySem PySem.Spec L2
open PyProof.Rows hiding St
/-- the one text within the other -/
def inStr (i j : Str) : Bool := !(Builtin.Str.occurrences j i 0 j.length 1).isEmpty
def pInS : Prim
  | [.str i, .str j] => some (.val (.bool (inStr i j)))
  | _ => none
def pNinS : Prim
  | [.str i, .str j] => some (.val (.bool (!inStr i j)))
  | _ => none
theorem rl_ninS (K : PySem.W.Frag) : Rule K (rr2 fun x y H Q => ∃ i j, x = .str i ∧ y = .str j ∧ Q (.bl (!(!(Builtin.Str.occurrences j i 0 j.length 1).isEmpty))) H) pNinS := by
  intro F H ds vs Q s e hb hs q
  unfold pNinS at hs
  split at hs
  · cases hs
    obtain ⟨v, w, rfl, h1, h2⟩ := hb.two
    exact ⟨_, _, rfl, _, _, h1.str, h2.str, pq_val e q (.bl _)⟩
  · cases hs
/-- int of a text -/
def pIntS : Prim
  | [.str a] => if a.length ≤ 640 then (PySem.intText? a).map fun n => Slot.val (.int n) else none
  | _ => none
theorem rl_intS (K : PySem.W.Frag) : Rule K (fun xs H Q => ∃ a n, xs = [.str a] ∧ PySem.intText? a = some n ∧ a.length ≤ 640 ∧ Q (.int n) H) pIntS := by
  intro F H ds vs Q s e hb hs q
  unfold pIntS at hs
  split at hs
  · split at hs
    · rename_i hl
      obtain ⟨n, hn, rfl⟩ := Option.map_eq_some_iff.mp hs
      obtain ⟨v, rfl, h1⟩ := hb.one
      exact ⟨_, n, by rw [h1.str], hn, hl, pq_val e q (.int _)⟩
    · cases hs
  · cases hs
/-- tuples of whole numbers -/
def lexLe (ns ms : List Int) : Bool := Ob.lexAt (fun j => decide (ns.getD j 0 = ms.getD j 0)) (fun j => decide (ns.getD j 0 ≤ ms.getD j 0)) (decide (ns.length ≤ ms.length)) 0 (min ns.length ms.length)
def pLeT : Prim
  | [.tuple ds, .tuple es] => (numsOf ds).bind fun ns => (numsOf es).map fun ms => Slot.val (.bool (lexLe ns ms))
  | _ => none
theorem rl_leT (K : PySem.W.Frag) : Rule K (rr2 (rLeT K)) pLeT := by
  intro F H ds vs Q s e hb hs q
  unfold pLeT at hs
  split at hs
  · obtain ⟨ns, h1, h2⟩ := Option.bind_eq_some_iff.mp hs
    obtain ⟨ms, h3, rfl⟩ := Option.map_eq_some_iff.mp h2
    obtain ⟨v, w, rfl, b1, b2⟩ := hb.two
    obtain ⟨a, o, xs, rfl, k1, k2, k3⟩ := b1.tup
    obtain ⟨b, o2, ys, rfl, l1, l2, l3⟩ := b2.tup
    have := numsOf_rp k3 h1
    subst this
    have := numsOf_rp l3 h3
    subst this
    exact ⟨_, _, rfl, a, b, ns, ms, rfl, rfl, .inl (.inr ⟨o, e _ _ k1⟩), .inl (.inr ⟨o2, e _ _ l1⟩), pq_val e q (.bl _)⟩
  · cases hs
/-- the texts of a list -/
def strsOf : List PyData → Option (List Str)
  | [] => some []
  | .str i :: ds => (strsOf ds).map (i :: ·)
  | _ :: _ => none
theorem strsOf_rp {K : PySem.W.Frag} {F : Hp} : ∀ {ds : List PyData} {vs : List V} {ns : List Str}, RpAll K F ds vs → strsOf ds = some ns → vs = ns.map V.str
  | [], _, _, r, h => by cases r; cases h; rfl
  | d :: ds, _, ns, r, h => by
    cases r with
    | cons r1 r2 =>
      unfold strsOf at h
      split at h
      · rename_i z; cases z
      · rename_i i ds' z
        cases z
        obtain ⟨ms, h1, rfl⟩ := Option.map_eq_some_iff.mp h
        cases r1
        rw [strsOf_rp r2 h1]
        rfl
      · cases h
theorem strs_rp {K : PySem.W.Frag} {F : Hp} : ∀ ns : List Str, RpAll K F (ns.map PyData.str) (ns.map V.str)
  | [] => .nil
  | n :: ns => .cons (.str n) (strs_rp ns)
def rJoin (K : PySem.W.Frag) : V → List V → Hp → VK → Prop := fun x xs H Q => ∃ a p, ∃ ys : List Str, x = .str a ∧ xs = [.ref p] ∧ (SqL K H p (ys.map V.str) ∨ SqT K H p (ys.map V.str)) ∧
    (ys.map (·.length)).sum + ys.length * a.length ≤ 16777216 ∧ Q (.str (Txt.join a ys)) H
/-- sep.join(a list of texts) -/
def pJoin : Prim
  | [.str a, .list ds] => (strsOf ds).bind fun ys => if (ys.map (·.length)).sum + ys.length * a.length ≤ 16777216 then some (.val (.str (Txt.join a ys))) else none
  | _ => none
theorem rl_join (K : PySem.W.Frag) : Rule K (rrm (rJoin K)) pJoin := by
  intro F H ds vs Q s e hb hs q
  unfold pJoin at hs
  split at hs
  · obtain ⟨ys, h1, h2⟩ := Option.bind_eq_some_iff.mp hs
    split at h2
    · rename_i hl
      cases h2
      obtain ⟨v, w, rfl, b1, b2⟩ := hb.two
      obtain ⟨p, xs, rfl, k1, k2⟩ := b2.lst e
      have := strsOf_rp k2 h1
      subst this
      exact ⟨_, _, rfl, _, p, ys, b1.str, rfl, .inl (.inl (.inl k1)), hl, pq_val e q (.str _)⟩
    · cases h2
  · cases hs
def rSplit : V → List V → Hp → VK → Prop := fun x xs H Q => ∃ a b, x = .str a ∧ xs = [.str b] ∧ (b.length == 0) = false ∧ a.length + 2 ≤ sizeLine ∧ rNewStrs (Txt.split a b) H Q
/-- a text, split -/
def pSplit : Prim
  | [.str a, .str b] => if (b.length == 0) = false ∧ a.length + 2 ≤ sizeLine then some (.own ((Txt.split a b).map PyData.str)) else none
  | _ => none
theorem rl_split (K : PySem.W.Frag) : Rule K (rrm rSplit) pSplit := by
  intro F H ds vs Q s e hb hs q
  unfold pSplit at hs
  split at hs
  · split at hs
    · rename_i hl
      cases hs
      obtain ⟨v, w, rfl, b1, b2⟩ := hb.two
      exact ⟨_, _, rfl, _, _, b1.str, by rw [b2.str], hl.1, hl.2, fun p hp => q p _ hp (strs_rp _)⟩
    · cases hs
  · cases hs
section
variable {Γ : Ctx} {x : DenO} {d : DenOs} {p p' pm : Bool} {pos apos fpos : Pos} {o a b : Expr} {es : List Expr}
theorem t_ninS (h : SndOs Γ [a, b] d p) (hb : notSet b = true) : SndT Γ (.Compare a [.NotIn] [b] pos) (dP pNinS d) p := snd_cmpT (r := fun _ => fun x y H Q => ∃ i j, x = .str i ∧ y = .str j ∧ Q (.bl (!(!(Builtin.Str.occurrences j i 0 j.length 1).isEmpty))) H) (fun X _ _ => op_notIn_str) rl_ninS h hb
theorem t_leT (h : SndOs Γ [a, b] d p) (hb : notSet b = true) : SndT Γ (.Compare a [.LtE] [b] pos) (dP pLeT d) p := snd_cmpT (r := rLeT) (fun X _ hr => op_leT (by have := hr.un; omega)) rl_leT h hb
theorem e_intS (h : SndOs Γ (a :: es) d p) (he : (a :: es).all plainE = true) (hg : Γ.sc.names.lookup ("int" : Str) = some .globalImplicit) (hf : ("int" : Str) ∈ Γ.blts) : SndE Γ (.Call (.Name "int" fpos) (a :: es) [] pos) (dP pIntS d) p :=
  snd_callTy (r := fun _ xs H Q => ∃ a n, xs = [.str a] ∧ PySem.intText? a = some n ∧ a.length ≤ 640 ∧ Q (.int n) H) (fun X _ _ => call_int_str) rl_intS boot_int' h he hg hf (by decide)
theorem e_join (h1 : SndO Γ o x p pm) (h2 : SndOs Γ (a :: es) d p') (hp : (p' || !pm) = true) (he : (a :: es).all plainE = true) (hl : (a :: es).length < 20) (hc : notCall o = true) (hline : (apos.endLine == pos.line) = true) : SndE Γ (.Call (.Attribute o "join" apos) (a :: es) [] pos) (dM "str" pJoin x d) (p && p') :=
  snd_meth PySem.F.plainAttrs_str PySem.F.slot_str_join PySem.F.type_str_join (fun X _ _ => mt_join) rl_join (by decide) h1 h2 hp he hl hc hline
theorem e_split (h1 : SndO Γ o x p pm) (h2 : SndOs Γ (a :: es) d p') (hp : (p' || !pm) = true) (he : (a :: es).all plainE = true) (hl : (a :: es).length < 20) (hc : notCall o = true) (hline : (apos.endLine == pos.line) = true) : SndE Γ (.Call (.Attribute o "split" apos) (a :: es) [] pos) (dM "str" pSplit x d) (p && p') :=
  snd_meth PySem.F.plainAttrs_str PySem.F.slot_str_split PySem.F.type_str_split (fun X _ _ => mt_split) rl_split (by decide) h1 h2 hp he hl hc hline
end
/-! ### what they give -/
theorem strsOf_map : ∀ ys : List Str, strsOf (ys.map PyData.str) = some ys
  | [] => rfl
  | y :: ys => by
    show (strsOf (ys.map PyData.str)).map (y :: ·) = _
    rw [strsOf_map ys]
    rfl
theorem x_join (a : Str) (ys : List Str) (h : (ys.map (·.length)).sum + ys.length * a.length ≤ 16777216) : pJoin [.str a, .list (ys.map PyData.str)] = some (.val (.str (Txt.join a ys))) := by
  show ((strsOf (ys.map PyData.str)).bind fun ys => if (ys.map (·.length)).sum + ys.length * a.length ≤ 16777216 then some (Slot.val (.str (Txt.join a ys))) else none) = _
  rw [strsOf_map]
  show (if _ then _ else _) = _
  rw [if_pos h]
theorem x_split (a b : Str) (h : (b.length == 0) = false ∧ a.length + 2 ≤ sizeLine) : pSplit [.str a, .str b] = some (.own ((Txt.split a b).map PyData.str)) := by
  show (if (b.length == 0) = false ∧ a.length + 2 ≤ sizeLine then some (Slot.own ((Txt.split a b).map PyData.str)) else none) = _
  rw [if_pos h]
@[simp] theorem x_ninS (i j : Str) : pNinS [.str i, .str j] = some (.val (.bool (!inStr i j))) := id rfl
@[simp] theorem x_inS (i j : Str) : pInS [.str i, .str j] = some (.val (.bool (inStr i j))) := id rfl
theorem x_leT2 (a b c d : Int) : pLeT [.tuple [.int a, .int b], .tuple [.int c, .int d]] = some (.val (.bool (if a = c then (if b = d then true else decide (b ≤ d)) else decide (a ≤ c)))) := by
  show some (Slot.val (.bool (lexLe [a, b] [c, d]))) = _
  congr 3
  unfold lexLe
  simp [Ob.lexAt]
theorem fig_in : ∀ d : Nat, d < 10 → inStr ⟨#[48 + d]⟩ "0123456789" = true := by decide +kernel
end Dn

/-! Den77: a loop that puts things into lists within a list, through another list of the same lists. -/
namespace Dn
open PySem PySem.Spec L2
open PyProof.Rows hiding St
/-- the ones that are marked -/
def pick {α : Type} : List Bool → List α → List α
  | true :: ms, x :: xs => x :: pick ms xs
  | false :: ms, _ :: xs => pick ms xs
  | _, _ => []
/-- which of them pass -/
def fitL (k : Nat) (c : Den) (Φ : Calls) : List PyData → Env → Out (List Bool × Env)
  | [], ρ => .ok ([], ρ)
  | d :: ds, ρ => (c Φ (ρ.set k (.val d))).bind fun b => match b.1 with
    | .val (.bool m) => (fitL k c Φ ds (wipeE [k] b.2)).bind fun z => .ok (m :: z.1, z.2)
    | _ => .stuck
section
variable {Γ : Ctx} {scope : Scope} {test : Expr} {c : Den} {pc : Bool} {k i : Nat} {x y : Str} {p1 p2 p3 : Pos}
end

/-! ### lists within a list that no slot shows -/
def clD (cs : List (List Int)) : List PyData := cs.map fun c => .list (nsD c)
structure Hid (B : Bd) (F H : Hp) (ρ : Env) (σ : St) (i : Nat) (f : Addr) (as : List Addr) (cs : List (List Int)) : Prop where
  at' : σ[i]? = some (some (.ref f))
  len : as.length = cs.length
  nd : as.Nodup
  nf : f ∉ as
  top : H f = some (.lst (as.map V.ref)) ∧ F f = none ∧ B.H0 f = none
  low : ∀ (q : Nat) (a : Addr) (c : List Int), as[q]? = some a → cs[q]? = some c → H a = some (.lst (c.map V.int)) ∧ F a = none ∧ B.H0 a = none
  un : ∀ (j : Nat) (s : Slot), ρ[j]? = some s → s.isOwn = true → ∀ a, σ[j]? = some (some (.ref a)) → a ≠ f ∧ a ∉ as
def iceF (F H : Hp) (f : Addr) (as : List Addr) : Hp := fun a => if a = f ∨ a ∈ as then H a else F a
section
variable {B : Bd} {F H F3 H3 H4 : Hp} {ρ ρ3 : Env} {σ σ3 : St} {i : Nat} {f : Addr} {as : List Addr} {cs : List (List Int)}
theorem Hid.lowA (h : Hid B F H ρ σ i f as cs) {a : Addr} (m : a ∈ as) : ∃ c, c ∈ cs ∧ H a = some (.lst (c.map V.int)) ∧ F a = none ∧ B.H0 a = none := by
  obtain ⟨q, hq, e⟩ := List.getElem_of_mem m
  have l : q < cs.length := by rw [← h.len]; exact hq
  exact ⟨cs[q], List.getElem_mem l, h.low q a cs[q] (by rw [List.getElem?_eq_getElem hq, e]) (List.getElem?_eq_getElem l)⟩
theorem Hid.hid (h : Hid B F H ρ σ i f as cs) {a : Addr} (m : a = f ∨ a ∈ as) : (∃ vs, H a = some (.lst vs)) ∧ F a = none ∧ B.H0 a = none := by
  rcases m with rfl | m
  · exact ⟨⟨_, h.top.1⟩, h.top.2⟩
  · obtain ⟨c, _, h1, h2⟩ := h.lowA m
    exact ⟨⟨_, h1⟩, h2⟩
theorem Hid.exF (h : Hid B F H ρ σ i f as cs) : Ex F (iceF F H f as) := fun a o e => by
  unfold iceF
  rw [if_neg fun m => by rw [(h.hid m).2.1] at e; cases e]
  exact e
theorem Hid.rp (h : Hid B F H ρ σ i f as cs) {G : Hp} (e : Ex (iceF F H f as) G) : RpAll B.K G (clD cs) (as.map V.ref) := by
  have key : ∀ (as : List Addr) (cs : List (List Int)), as.length = cs.length → (∀ (q : Nat) (a : Addr) (c : List Int), as[q]? = some a → cs[q]? = some c → G a = some (.lst (c.map V.int))) → RpAll B.K G (clD cs) (as.map V.ref) := by
    intro as
    induction as with
    | nil =>
      intro cs l _
      cases cs with
      | nil => exact .nil
      | cons c cs => cases l
    | cons a as ih =>
      intro cs l k
      cases cs with
      | nil => cases l
      | cons c cs =>
        exact .cons (.lst (k 0 a c rfl rfl) (rpA_ints c)) (ih cs (by simpa using l) fun q a c h1 h2 => k (q + 1) a c (by simpa using h1) (by simpa using h2))
  refine key as cs h.len fun q a c h1 h2 => e a _ ?_
  unfold iceF
  rw [if_pos (.inr (List.mem_of_getElem? h1))]
  exact (h.low q a c h1 h2).1
theorem Hid.topF (h : Hid B F H ρ σ i f as cs) : iceF F H f as f = some (.lst (as.map V.ref)) := by
  unfold iceF
  rw [if_pos (.inl rfl)]
  exact h.top.1
theorem Hid.ice (h : Hid B F H ρ σ i f as cs) (R : Rel B F H ρ σ) : Rel B (iceF F H f as) H (ρ.set i (.val (.list (clD cs)))) σ := by
  have e := h.exF
  refine ⟨⟨R.kept.ff.trans e, fun a o q => ?_, R.kept.keep, fun a h1 h2 h3 => ?_, R.kept.live⟩, ⟨by rw [List.length_set]; exact R.sl.len, fun j d q => ?_, fun j ns q => ?_, fun j s q qs => ?_, R.sl.par, fun j m s t a ne q qs q' qs' => ?_⟩⟩
  · unfold iceF at q
    split at q
    · exact q
    · exact R.kept.ex _ _ q
  · unfold iceF
    rw [if_neg fun m => h1 (h.hid m).2.2]
    exact R.kept.nof a h1 h2 h3
  · rcases set_get q with ⟨rfl, z, _⟩ | ⟨_, z⟩
    · cases z
      exact ⟨_, h.at', .lst h.topF (h.rp (.refl _))⟩
    · obtain ⟨v, k1, k2⟩ := R.sl.val j d z
      exact ⟨v, k1, k2.mono e⟩
  · rcases set_get q with ⟨_, z, _⟩ | ⟨_, z⟩
    · cases z
    · obtain ⟨v, k1, k2⟩ := R.sl.scr j ns z
      exact ⟨v, k1, e.sqL k2⟩
  · rcases set_get q with ⟨_, z, _⟩ | ⟨_, z⟩
    · subst z; cases qs
    · obtain ⟨a, o, k1, k2, k3, k4, k5⟩ := R.sl.own j s z qs
      refine ⟨a, o, k1, ?_, k3, k4.mono e, k5⟩
      unfold iceF
      rw [if_neg fun m => ?_]
      · exact k2
      · have := h.un j s z qs a k1
        exact m.elim this.1 this.2
  · rcases set_get q with ⟨_, z, _⟩ | ⟨_, z⟩
    · subst z; cases qs
    · rcases set_get q' with ⟨_, z', _⟩ | ⟨_, z'⟩
      · subst z'; cases qs'
      · exact R.sl.dis j m s t a ne z qs z' qs'
end

/-! ### the two statements -/
def nthT : List Bool → Nat → Option Nat
  | [], _ => none
  | true :: _, 0 => some 0
  | true :: ms, n + 1 => (nthT ms n).map (· + 1)
  | false :: ms, n => (nthT ms n).map (· + 1)
def appC (cs : List (List Int)) (q : Nat) (u : Int) : List (List Int) := cs.set q (cs.getD q [] ++ [u])
def dPB (i j k t : Nat) (c cond idx : Den) (Φ : Calls) (cs : List (List Int)) (ρ : Env) : Out (List (List Int) × Env) :=
  guard' (decide (cs.length ≤ 1000 ∧ k < ρ.length ∧ j < ρ.length) && cs.all fun c => decide (c.length ≤ 1000))
  ((noX (fitL k c Φ (clD cs) (wipeE [k] (ρ.set i (.val (.list (clD cs))))))).bind fun z =>
    (noX (cond Φ ((unwipe [k] (ρ.set i (.val (.list (clD cs)))) z.2).set j (.val (.list (pick z.1 (clD cs))))))).bind fun b => match b.1 with
      | .val (.bool true) => (noX (idx Φ b.2)).bind fun x => match x.1, x.2[t]? with
        | .val (.int n), some (.val (.int u)) => match nthT z.1 n.toNat with
          | some q => guard' (decide (0 ≤ n)) (.ok (appC cs q u, mutE i .un x.2))
          | none => .stuck
        | _, _ => .stuck
      | .val (.bool false) => match b.2[t]? with
        | some (.val (.int u)) => .ok (cs ++ [[u]], mutE i .un b.2)
        | _ => .stuck
      | _ => .stuck)
section
variable {Γ : Ctx} {scope : Scope} {test condE idxE : Expr} {c cond idx : Den} {pc p' p'' : Bool} {i j k t : Nat} {x y z w : Str}
def partL (i j k t : Nat) (c cond idx : Den) (Φ : Calls) : List PyData → List (List Int) → Env → Out (List (List Int) × Env)
  | [], cs, ρ => .ok (cs, ρ)
  | d :: ds, cs, ρ => (dPB i j k t c cond idx Φ cs (ρ.set t (.val d))).bind fun z => partL i j k t c cond idx Φ ds z.1 z.2
/-- the loop -/
def dPart (i j k t : Nat) (s : DenI) (c cond idx : Den) : DenS := fun Φ ρ => (s Φ ρ).bind fun r => match r.2[i]? with
  | some (.own []) => (noX (partL i j k t c cond idx Φ r.1 [] (r.2.set i .un))).bind fun z => .ok (.nx, z.2.set i (.own (clD z.1)))
  | _ => .stuck
theorem Hid.grow {B : Bd} {F H H' : Hp} {ρ ρ' : Env} {σ σ' : St} {f : Addr} {as : List Addr} {cs : List (List Int)} (h : Hid B F H ρ σ i f as cs) (e : Ex H H') (a' : σ'[i]? = some (some (.ref f))) (u : ∀ (j : Nat) (s : Slot), ρ'[j]? = some s → s.isOwn = true → ∀ a, σ'[j]? = some (some (.ref a)) → a ≠ f ∧ a ∉ as) : Hid B F H' ρ' σ' i f as cs :=
  ⟨a', h.len, h.nd, h.nf, ⟨e _ _ h.top.1, h.top.2⟩, fun q a c h1 h2 => ⟨e _ _ (h.low q a c h1 h2).1, (h.low q a c h1 h2).2⟩, u⟩
/-- the lists are seen again -/
theorem Hid.back {B : Bd} {F H : Hp} {ρ : Env} {σ : St} {f : Addr} {as : List Addr} {cs : List (List Int)} (h : Hid B F H ρ σ i f as cs) (R : Rel B F H ρ σ) : ∃ F', Rel B F' H (ρ.set i (.own (clD cs))) σ ∧ Ex F F' := by
  have low : ∀ a, a ∈ as → (∃ vs, H a = some (.lst vs)) ∧ F a = none ∧ B.H0 a = none := fun a m => h.hid (.inr m)
  have e : Ex F (fun a => if a ∈ as then H a else F a) := fun a o q => by
    show (if a ∈ as then H a else F a) = _
    rw [if_neg fun m => by rw [(low a m).2.1] at q; cases q]
    exact q
  have rp : RpAll B.K (fun a => if a ∈ as then H a else F a) (clD cs) (as.map V.ref) := by
    have key : ∀ (G : Hp) (as : List Addr) (cs : List (List Int)), as.length = cs.length → (∀ (q : Nat) (a : Addr) (c : List Int), as[q]? = some a → cs[q]? = some c → G a = some (.lst (c.map V.int))) → RpAll B.K G (clD cs) (as.map V.ref) := by
      intro G as
      induction as with
      | nil =>
        intro cs l _
        cases cs with
        | nil => exact .nil
        | cons c cs => cases l
      | cons a as ih =>
        intro cs l k
        cases cs with
        | nil => cases l
        | cons c cs => exact .cons (.lst (k 0 a c rfl rfl) (rpA_ints c)) (ih cs (by simpa using l) fun q a c h1 h2 => k (q + 1) a c (by simpa using h1) (by simpa using h2))
    refine key _ as cs h.len fun q a c h1 h2 => ?_
    show (if a ∈ as then H a else F a) = _
    rw [if_pos (List.mem_of_getElem? h1)]
    exact (h.low q a c h1 h2).1
  refine ⟨fun a => if a ∈ as then H a else F a, ⟨⟨R.kept.ff.trans e, fun a o q => ?_, R.kept.keep, fun a h1 h2 h3 => ?_, R.kept.live⟩, ⟨by rw [List.length_set]; exact R.sl.len, fun j d q => ?_, fun j ns q => ?_, fun j s q qs => ?_, R.sl.par, fun j m s t a ne q qs q' qs' e1 e2 => ?_⟩⟩, e⟩
  · replace q : (if a ∈ as then H a else F a) = some o := q
    split at q
    · exact q
    · exact R.kept.ex _ _ q
  · show (if a ∈ as then H a else F a) = none
    rw [if_neg fun m => h1 (low a m).2.2]
    exact R.kept.nof a h1 h2 h3
  · rcases set_get q with ⟨_, z, _⟩ | ⟨_, z⟩
    · cases z
    · obtain ⟨v, k1, k2⟩ := R.sl.val j d z
      exact ⟨v, k1, k2.mono e⟩
  · rcases set_get q with ⟨_, z, _⟩ | ⟨_, z⟩
    · cases z
    · obtain ⟨v, k1, k2⟩ := R.sl.scr j ns z
      exact ⟨v, k1, e.sqL k2⟩
  · rcases set_get q with ⟨rfl, z, _⟩ | ⟨_, z⟩
    · subst z
      refine ⟨f, _, h.at', ?_, h.top.1, ⟨_, rfl, rp⟩, .inr h.top.2.2⟩
      show (if f ∈ as then H f else F f) = none
      rw [if_neg h.nf]
      exact h.top.2.1
    · obtain ⟨a, o, k1, k2, k3, k4, k5⟩ := R.sl.own j s z qs
      refine ⟨a, o, k1, ?_, k3, k4.mono e, k5⟩
      show (if a ∈ as then H a else F a) = none
      rw [if_neg (h.un j s z qs a k1).2]
      exact k2
  · rcases set_get q with ⟨rfl, z, _⟩ | ⟨_, z⟩
    · rcases set_get q' with ⟨z', _, _⟩ | ⟨_, z'⟩
      · exact ne z'.symm
      · rw [h.at'] at e1
        cases e1
        exact (h.un m t z' qs' _ e2).1 rfl
    · rcases set_get q' with ⟨rfl, z', _⟩ | ⟨_, z'⟩
      · rw [h.at'] at e2
        cases e2
        exact (h.un j s z qs _ e1).1 rfl
      · exact R.sl.dis j m s t a ne z qs z' qs' e1 e2
end
end Dn

/-! Den78: calls where a desk is handed over first and its past stands beside; methods; the making of an instance. -/
namespace Dn
open PySem PySem.Spec L2
open PyProof.Rows hiding St
section
variable {B : Bd} {F H F' H' : Hp} {ρ ρ' : Env} {σ : St}
end
/-! ### methods, making -/
section
variable {X : Cx} {CX : CXT} {k : Nat} {f C : Addr} {fd : FuncData} {ps : List Str} {sp : Sp} {E : XK} {EE : St → XK} {x m : Str} {p pos apos : Pos} {e o : Expr} {es : List Expr} {ta : TE} {t : TA}
/-- o.m(..) -/
def tMethG (C : Addr) (m : Str) (sp : Sp) (E : St → XK) (ta : TE) (t : TA) : TE := fun σ H Q => ta σ H fun x H1 => ∃ a dx fs, x = .ref a ∧ H1 a = some (.ins C dx fs) ∧ fs.lookup m = none ∧
  t σ H1 fun vs H2 => sp (x :: vs) H2 Q (E σ)
/-- C() -/
def tMakeG (C : Addr) (sp : Sp) : TE := fun σ H Q => ∀ x dx, H x = none → H dx = none → dx ≠ x →
  sp [.ref x] (upd (upd H dx (.own x)) x (.ins C dx [])) (fun v H2 => v = .non ∧ Q (.ref x) H2) (fun _ _ _ => False)
end
end Dn

/-! Den79: a desk's attributes: read, stored; its past: read, changed. -/
namespace Dn
open PySem PySem.Spec L2
open PyProof.Rows hiding St
/-- an attribute's place -/
def atF (n : Nat) : Str := if n = 2 then "order" else "kept"
/-- self.order, self.kept -/
def fldD (s : Option Slot) (n : Nat) : Option PyData := match s with
  | some (.obj 0 [_, _, d1, d2]) => if n = 2 then some d1 else some d2
  | _ => none
def dFld (i n : Nat) : Den := fun _ ρ => (opt (fldD (ρ[i]?) n)).bind fun d => .ok (.val d, ρ)
section
variable {Γ : Ctx} {x f : Str} {i j n : Nat} {pos xpos apos : Pos} {Φ : Calls} {X : Cx} {B : Bd} {F H : Hp} {ρ : Env} {σ : St}
/-! ### stores -/
def putFld (s : Option Slot) (n : Nat) (d : PyData) : Option Slot := match s with
  | some (.obj 0 [c, p, d1, d2]) => if n = 2 then some (.obj 0 [c, p, d, d2]) else some (.obj 0 [c, p, d1, d])
  | _ => none
/-- self.order = e -/
def dFldSet (i n : Nat) (e : Den) : DenS := fun Φ ρ => (oOf e Φ ρ).bind fun r => (opt (putFld (r.2[i]?) n r.1)).bind fun s => .ok (.nx, r.2.set i s)
/-! ### the past -/
def linked (s t : Option Slot) : Bool := match s, t with
  | some (.obj 0 [_, .int p, _, _]), some (.obj 1 (.int q :: _)) => decide (p = q)
  | _, _ => false
def pastD : Option Slot → Option (List PyData)
  | some (.obj 1 (_ :: ds)) => some ds
  | _ => none
/-- self.past, looked at -/
def oPast (i j : Nat) : DenO := fun _ ρ => guard' (linked (ρ[i]?) (ρ[j]?)) ((opt (pastD (ρ[j]?))).bind fun ds => .ok (.list ds, ρ))
/-- self.past.append(e), self.past.pop() -/
def dPastM (i j : Nat) (f : MutF) (as : DenOs) : Den := fun Φ ρ => guard' (linked (ρ[i]?) (ρ[j]?)) ((as Φ ρ).bind fun r => (opt (pastD (r.2[j]?))).bind fun ds => (opt (f ds r.1)).bind fun m => .ok (.val m.1, r.2.set j (.obj 1 ((pastC (r.2[j]?)) :: m.2))))
where pastC : Option Slot → PyData
  | some (.obj 1 (c :: _)) => c
  | _ => .none
end
end Dn

/-! Den80: statements where numbers may come and refusals are told with the slots; calls with a desk; a desk made; try. -/
namespace Dn
open PySem PySem.Spec L2
open PyProof.Rows hiding St
/-! ### a desk is lent with its past -/
def isDesk : Option Slot → Bool
  | some (.obj 0 _) => true
  | _ => false
def lendD (i j : Nat) (y : List (Option Nat × Slot) × Env) : Option (List (Option Nat × Slot) × Env) := match y.2[i]?, y.2[j]? with
  | some (.obj 0 ds), some (.obj 1 es) => some (((some i, .obj 0 ds) :: y.1) ++ [(some j, .obj 1 es)], (y.2.set i .un).set j .un)
  | _, _ => none
section
variable {X : Cx} {B : Bd} {F H F' H' : Hp} {ρ ρ' : Env} {σ : St} {i j : Nat}
end
/-- f(desk, ..) -/
def dCallD (x : Str) (n i j : Nat) (as : DenA) : Den := fun Φ ρ => guard' (isDesk (ρ[i]?)) ((as Φ ρ).bind fun y => (opt (lendD i j y)).bind fun z => guard' (z.1.length == n + 1) ((calm' (Φ x (z.1.map (·.2)))).bind fun r => guard' (r.2.length == n + 1) (.ok (r.1, giveBack z.1 r.2 z.2))))
/-- what a method's end means -/
def backM (n : Nat) (k : Slot → Fl) (z : List (Option Nat × Slot) × Env) : Out (Slot × List Slot) → Out (Fl × Env)
  | .ok r => guard' (r.2.length == n + 1) (.ok (k r.1, giveBack z.1 r.2 z.2))
  | .exs x outs => guard' (outs.length == n + 1) (.exs x (giveBack z.1 outs z.2))
  | .exc x => .exc x
  | _ => .stuck
/-- return o.m(..), o.m(..) -/
def dMeth (k : Slot → Fl) (x : Str) (n i j : Nat) (as : DenA) : DenS := fun Φ ρ => guard' (isDesk (ρ[i]?)) ((calm' (as Φ ρ)).bind fun y => (opt (lendD i j y)).bind fun z => guard' (z.1.length == n + 1) (backM n k z (Φ x (z.1.map (·.2)))))
section
variable {Γ : Ctx} {es : List Expr} {r : DenA} {pos fpos xpos apos rpos : Pos} {i j n : Nat} {x y m : Str} {e : Expr} {kf : Slot → Fl}
theorem meth_eval {o : Expr} {env : PySem.Env} {m : Str} {apos pos : Pos} {args : List Expr} (hbase : attributeBase o m env (eval o env) = eval o env) (hform : methodCallForm (args.length + ([] : List Keyword).length) (backTo pos (starEach args env)) (backToKw pos (keywordEach [] env)) = true) (hline : (apos.endLine == pos.line) = true) :
    eval (.Call (.Attribute o m apos) args [] pos) env = (do
      let ov ← eval o env
      standAt apos.atName
      let (f, first) ← holding [ov] (getMethod ov m (do return (← importBound o env).getD true))
      callWith pos f first (backTo pos (starEach args env)) (backToKw pos (keywordEach [] env))) := by
  rw [PySem.arm_eval_Call, hbase]
  unfold methodCall calleeOf methodCallPos
  simp only [hform, hline, if_true, Bool.not_true, Bool.or_true]
  rfl
end
/-! ### statements -/
def dLift (d : DenS) : DenS := fun Φ ρ => calm' (d Φ ρ)
def dIfX (t : Den) (a b : DenS) : DenS := fun Φ ρ => (calm' (t Φ ρ)).bind (kIfS a b Φ)
def dForX (t : Tgt) (s : DenI) (b : DenS) : DenS := fun Φ ρ => (calm' (s Φ ρ)).bind fun r => forL (fun d ρ => (opt (putT t d ρ)).bind fun ρ => b Φ ρ) r.1 r.2
def dRaiseX (x : Str) : DenS := fun _ ρ => .exs ⟨x, none⟩ ρ
section
variable {Γ : Ctx} {st : Stmt} {sts sts' : List Stmt} {a b : DenS} {d : Den} {e c : Expr} {p : Bool} {pos pos' : Pos} {i : Nat} {x : Str}
theorem StPx.mono {X : Cx} {B : Bd} {F F' : Hp} {W : WX} {D : Ends} {c : Out (Fl × Env)} (e : Ex F F') (h : c.wpx (StP B F D) (ExS X B F W) (ExsS X B F W)) : c.wpx (StP B F' D) (ExS X B F' W) (ExsS X B F' W) := wpx_mono h (StP.mono e) (ExS.mono e) (ExsS.mono e)
end
end Dn

/-! Den81: a desk made; both attributes stored at once; try; values by truth. -/
namespace Dn
open PySem PySem.Spec L2
open PyProof.Rows hiding St
/-! ### attributes as targets -/
def gFld (K : PySem.W.Frag) (to : TE) (f : Str) : TG := fun v σ H Q => to σ H fun x H1 => ∃ a C dx fs, x = .ref a ∧ H1 a = some (.ins C dx fs) ∧ Cls K C ∧ NoAttr K C f ∧ fs.length < 1000 ∧ Q σ (upd H1 a (.ins C dx (L2.putF f v fs)))
def kPop2 (i : Nat) : Slot × Env → Out (Fl × Env) := fun r => match r.1 with
  | .val (.tuple [d1, d2]) => (opt (putFld (r.2[i]?) 2 d1)).bind fun s => (opt (putFld (some s) 3 d2)).bind fun t => .ok (.nx, r.2.set i t)
  | _ => .stuck
/-- self.order, self.kept = e -/
def dSet2 (i : Nat) (d : Den) : DenS := fun Φ ρ => (d Φ ρ).bind (kPop2 i)
section
variable {Γ : Ctx} {x y : Str} {i j n : Nat} {pos xpos apos p1 p2 p3 p4 p5 : Pos} {e : Expr} {d : Den} {p : Bool}
/-! ### a desk, made -/
def ord0 : PyData := .tuple [.int 1, .tuple []]
def dNewDesk (i j : Nat) : DenS := fun _ ρ => .any fun a => .any fun q => .ok (.nx, (ρ.set i (.obj 0 [.int (a : Int), .int (q : Int), ord0, .list []])).set j (.obj 1 [.int (q : Int)]))
/-! ### __init__ -/
end
end Dn

/-! Den82: try where refusals are told with the slots; one value or another; all of it step by step. -/
namespace Dn
open PySem PySem.Spec L2
open PyProof.Rows hiding St
def kTryX2 (o : Option (Str × Str)) (ρ : Env) : Out (Fl × Env) := match o with
  | some p => .ok (.ret (.own [.int (placeOf p.1)]), ρ)
  | none => .stuck
def kTryX (exs : List (Str × Str)) : Out (Fl × Env) → Out (Fl × Env)
  | .ok r => .ok r
  | .exs ⟨c, none⟩ ρ => kTryX2 (exs.find? fun p => p.1 == c) ρ
  | _ => .stuck
/-- try: body, except RankError as e: return [place for place in range(16) if _law_only(e, place)] -/
def dTryX (exs : List (Str × Str)) (b : DenS) : DenS := fun Φ ρ => kTryX exs (b Φ ρ)
section
variable {Γ : Ctx} {x : Str} {i j : Nat} {pos xpos apos fpos : Pos} {as : DenOs} {e : Expr} {p : Bool}
end
/-! ### one value or another -/
def truD : PyData → Option Bool
  | .none => some false
  | .str s => if s.length ≤ 1000000 then some (decide (s.length ≠ 0)) else none
  | .tuple ds => some (!ds.isEmpty)
  | _ => none
def kOrV2 (o : Option Bool) (d : PyData) (b : Den) (Φ : Calls) (ρ : Env) : Out (Slot × Env) := match o with
  | some true => .ok (.val d, ρ)
  | some false => b Φ ρ
  | none => .stuck
def kOrV (b : Den) (Φ : Calls) : PyData × Env → Out (Slot × Env) := fun x => kOrV2 (truD x.1) x.1 b Φ x.2
/-- a or b -/
def dOrV (a b : Den) : Den := fun Φ ρ => (oOf a Φ ρ).bind (kOrV b Φ)
/-! ### step by step -/
section
variable {α β : Type} {Φ : Calls} {ρ ρ2 : Env} {a b t : Den} {s s' : DenS} {i j n k : Nat} {x y : PyData} {r : DenA} {q c : Str} {g : MutF} {as : DenOs} {ds es xs outs : List PyData} {ss : List Slot} {sl s2 : Slot} {la la2 : List (Option Nat × Slot)} {f : α → Out β} {u : α} {P : α → Prop} {E : Exc → Prop} {S : Exc → Env → Prop} {ex : Exc} {kf : Slot → Fl} {exs : List (Str × Str)} {p : Str × Str} {w : Fl × Env} {z : Slot × List Slot}
@[simp] theorem x_calm1 : calm' (Out.ok u) = .ok u := id rfl
@[simp] theorem x_calm2 : calm' (Out.exc ex : Out α) = .exc ex := id rfl
@[simp] theorem x_exsB : (Out.exs ex ρ : Out α).bind f = .exs ex ρ := id rfl
@[simp] theorem x_anyB {g : Nat → Out α} : (Out.any g).bind f = .any fun n => (g n).bind f := congrArg Out.any (funext fun n => Out.bindR_eq _ _)
@[simp] theorem x_wpxO : (Out.ok u).wpx P E S = P u := id rfl
@[simp] theorem x_wpxE : (Out.exc ex : Out α).wpx P E S = E ex := id rfl
@[simp] theorem x_wpxS : (Out.exs ex ρ : Out α).wpx P E S = S ex ρ := id rfl
@[simp] theorem x_wpxA {g : Nat → Out α} : (Out.any g).wpx P E S = ∀ n, (g n).wpx P E S := id rfl
@[simp] theorem x_wpxN : (Out.stuck : Out α).wpx P E S = False := id rfl
def fldG (o : Option PyData) (ρ : Env) : Out (Slot × Env) := (opt o).bind fun d => .ok (.val d, ρ)
@[simp] theorem x_dFld : dFld i n Φ ρ = fldG (fldD (ρ[i]?) n) ρ := id rfl
@[simp] theorem x_dFld1 : fldG (some x) ρ = .ok (.val x, ρ) := id rfl
@[simp] theorem x_fldD2 {a1 a2 a3 a4 : PyData} : fldD (some (.obj 0 [a1, a2, a3, a4])) 2 = some a3 := id rfl
@[simp] theorem x_fldD3 {a1 a2 a3 a4 : PyData} : fldD (some (.obj 0 [a1, a2, a3, a4])) 3 = some a4 := id rfl
def fsG (o : Option Slot) (i : Nat) (ρ : Env) : Out (Fl × Env) := (opt o).bind fun s => .ok (.nx, ρ.set i s)
def kFs (i n : Nat) : PyData × Env → Out (Fl × Env) := fun r => fsG (putFld (r.2[i]?) n r.1) i r.2
@[simp] theorem x_dFldSet : dFldSet i n a Φ ρ = (oOf a Φ ρ).bind (kFs i n) := id rfl
@[simp] theorem x_dFldSet1 : kFs i n (x, ρ) = fsG (putFld (ρ[i]?) n x) i ρ := id rfl
@[simp] theorem x_dFldSet2 : fsG (some sl) i ρ = .ok (.nx, ρ.set i sl) := id rfl
@[simp] theorem x_putFld2 {a1 a2 a3 a4 : PyData} : putFld (some (.obj 0 [a1, a2, a3, a4])) 2 x = some (.obj 0 [a1, a2, x, a4]) := id rfl
@[simp] theorem x_putFld3 {a1 a2 a3 a4 : PyData} : putFld (some (.obj 0 [a1, a2, a3, a4])) 3 x = some (.obj 0 [a1, a2, a3, x]) := id rfl
@[simp] theorem x_linked {a1 a3 a4 : PyData} {m m' : Int} : linked (some (.obj 0 [a1, .int m, a3, a4])) (some (.obj 1 (.int m' :: ds))) = decide (m = m') := id rfl
@[simp] theorem x_pastD {a1 : PyData} : pastD (some (.obj 1 (a1 :: ds))) = some ds := id rfl
@[simp] theorem x_pastC {a1 : PyData} : dPastM.pastC (some (.obj 1 (a1 :: ds))) = a1 := id rfl
def oPastG (o : Option (List PyData)) (ρ : Env) : Out (PyData × Env) := (opt o).bind fun ds => .ok (.list ds, ρ)
@[simp] theorem x_oPast : oPast i j Φ ρ = guard' (linked (ρ[i]?) (ρ[j]?)) (oPastG (pastD (ρ[j]?)) ρ) := id rfl
@[simp] theorem x_oPast1 : oPastG (some ds) ρ = .ok (.list ds, ρ) := id rfl
def pmG2 (o : Option (PyData × List PyData)) (j : Nat) (c : PyData) (ρ : Env) : Out (Slot × Env) := (opt o).bind fun m => .ok (.val m.1, ρ.set j (.obj 1 (c :: m.2)))
def pmG (o : Option (List PyData)) (g : MutF) (xs : List PyData) (j : Nat) (c : PyData) (ρ : Env) : Out (Slot × Env) := (opt o).bind fun ds => pmG2 (g ds xs) j c ρ
def kPm (j : Nat) (g : MutF) : List PyData × Env → Out (Slot × Env) := fun r => pmG (pastD (r.2[j]?)) g r.1 j (dPastM.pastC (r.2[j]?)) r.2
@[simp] theorem x_dPastM : dPastM i j g as Φ ρ = guard' (linked (ρ[i]?) (ρ[j]?)) ((as Φ ρ).bind (kPm j g)) := id rfl
@[simp] theorem x_dPastM1 : kPm j g (xs, ρ) = pmG (pastD (ρ[j]?)) g xs j (dPastM.pastC (ρ[j]?)) ρ := id rfl
@[simp] theorem x_dPastM2 : pmG (some ds) g xs j x ρ = pmG2 (g ds xs) j x ρ := id rfl
@[simp] theorem x_dPastM3 : pmG2 (some (x, ds)) j y ρ = .ok (.val x, ρ.set j (.obj 1 (y :: ds))) := id rfl
def kP23 (o : Option Slot) (i : Nat) (ρ : Env) : Out (Fl × Env) := (opt o).bind fun t => .ok (.nx, ρ.set i t)
def kP22 (o : Option Slot) (i : Nat) (y : PyData) (ρ : Env) : Out (Fl × Env) := (opt o).bind fun s => kP23 (putFld (some s) 3 y) i ρ
@[simp] theorem x_dSet2 : dSet2 i a Φ ρ = (a Φ ρ).bind (kPop2 i) := id rfl
@[simp] theorem x_dSet21 : kPop2 i (.val (.tuple [x, y]), ρ) = kP22 (putFld (ρ[i]?) 2 x) i y ρ := id rfl
@[simp] theorem x_dSet22 : kP22 (some sl) i y ρ = kP23 (putFld (some sl) 3 y) i ρ := id rfl
@[simp] theorem x_dSet23 : kP23 (some sl) i ρ = .ok (.nx, ρ.set i sl) := id rfl
def ldG (o o' : Option Slot) (i j : Nat) (la : List (Option Nat × Slot)) (ρ : Env) : Option (List (Option Nat × Slot) × Env) := match o, o' with
  | some (.obj 0 ds), some (.obj 1 es) => some (((some i, .obj 0 ds) :: la) ++ [(some j, .obj 1 es)], (ρ.set i .un).set j .un)
  | _, _ => none
@[simp] theorem x_lendD : lendD i j (la, ρ) = ldG (ρ[i]?) (ρ[j]?) i j la ρ := id rfl
@[simp] theorem x_lendD1 : ldG (some (.obj 0 ds)) (some (.obj 1 es)) i j la ρ = some (((some i, .obj 0 ds) :: la) ++ [(some j, .obj 1 es)], (ρ.set i .un).set j .un) := id rfl
@[simp] theorem x_isDesk : isDesk (some (.obj 0 ds)) = true := id rfl
def kCd3 (n : Nat) (la : List (Option Nat × Slot)) (ρ : Env) : Slot × List Slot → Out (Slot × Env) := fun r => guard' (r.2.length == n + 1) (.ok (r.1, giveBack la r.2 ρ))
def kCd2 (q : Str) (n : Nat) (Φ : Calls) (o : Option (List (Option Nat × Slot) × Env)) : Out (Slot × Env) := (opt o).bind fun z => guard' (z.1.length == n + 1) ((calm' (Φ q (z.1.map (·.2)))).bind (kCd3 n z.1 z.2))
def kCd (q : Str) (n i j : Nat) (Φ : Calls) : List (Option Nat × Slot) × Env → Out (Slot × Env) := fun y => kCd2 q n Φ (lendD i j y)
@[simp] theorem x_dCallD : dCallD q n i j r Φ ρ = guard' (isDesk (ρ[i]?)) ((r Φ ρ).bind (kCd q n i j Φ)) := id rfl
@[simp] theorem x_dCallD1 : kCd q n i j Φ (la, ρ) = kCd2 q n Φ (lendD i j (la, ρ)) := id rfl
@[simp] theorem x_dCallD2 : kCd2 q n Φ (some (la, ρ)) = guard' (la.length == n + 1) ((calm' (Φ q (la.map (·.2)))).bind (kCd3 n la ρ)) := id rfl
@[simp] theorem x_dCallD3 : kCd3 n la ρ (sl, ss) = guard' (ss.length == n + 1) (.ok (sl, giveBack la ss ρ)) := id rfl
def kMe2 (kf : Slot → Fl) (q : Str) (n : Nat) (Φ : Calls) (o : Option (List (Option Nat × Slot) × Env)) : Out (Fl × Env) := (opt o).bind fun z => guard' (z.1.length == n + 1) (backM n kf z (Φ q (z.1.map (·.2))))
def kMe (kf : Slot → Fl) (q : Str) (n i j : Nat) (Φ : Calls) : List (Option Nat × Slot) × Env → Out (Fl × Env) := fun y => kMe2 kf q n Φ (lendD i j y)
@[simp] theorem x_dMeth : dMeth kf q n i j r Φ ρ = guard' (isDesk (ρ[i]?)) ((calm' (r Φ ρ)).bind (kMe kf q n i j Φ)) := id rfl
@[simp] theorem x_dMeth1 : kMe kf q n i j Φ (la, ρ) = kMe2 kf q n Φ (lendD i j (la, ρ)) := id rfl
@[simp] theorem x_dMeth2 : kMe2 kf q n Φ (some (la, ρ)) = guard' (la.length == n + 1) (backM n kf (la, ρ) (Φ q (la.map (·.2)))) := id rfl
@[simp] theorem x_backM1 : backM n kf (la, ρ) (.ok (sl, ss)) = guard' (ss.length == n + 1) (.ok (kf sl, giveBack la ss ρ)) := id rfl
@[simp] theorem x_backM2 : backM n kf (la, ρ) (.exs ex ss) = guard' (ss.length == n + 1) (.exs ex (giveBack la ss ρ)) := id rfl
@[simp] theorem x_dLift : dLift s Φ ρ = calm' (s Φ ρ) := id rfl
@[simp] theorem x_dIfX : dIfX t s s' Φ ρ = (calm' (t Φ ρ)).bind (kIfS s s' Φ) := id rfl
@[simp] theorem x_dRaiseX : dRaiseX c Φ ρ = .exs ⟨c, none⟩ ρ := id rfl
@[simp] theorem x_dNewDesk : dNewDesk i j Φ ρ = .any fun a => .any fun q => .ok (.nx, (ρ.set i (.obj 0 [.int (a : Int), .int (q : Int), ord0, .list []])).set j (.obj 1 [.int (q : Int)])) := id rfl
@[simp] theorem x_dTryX : dTryX exs s Φ ρ = kTryX exs (s Φ ρ) := id rfl
@[simp] theorem x_kTryX1 : kTryX exs (.ok w) = .ok w := id rfl
@[simp] theorem x_kTryX2 : kTryX exs (.exs ⟨c, none⟩ ρ) = kTryX2 (exs.find? fun p => p.1 == c) ρ := id rfl
@[simp] theorem x_kTryX3 : kTryX2 (some p) ρ = .ok (.ret (.own [.int (placeOf p.1)]), ρ) := id rfl
@[simp] theorem x_dOrV : dOrV a b Φ ρ = (oOf a Φ ρ).bind (kOrV b Φ) := id rfl
@[simp] theorem x_dOrV1 : kOrV b Φ (x, ρ) = kOrV2 (truD x) x b Φ ρ := id rfl
@[simp] theorem x_dOrV2 : kOrV2 (some true) x b Φ ρ = .ok (.val x, ρ) := id rfl
@[simp] theorem x_dOrV3 : kOrV2 (some false) x b Φ ρ = b Φ ρ := id rfl
@[simp] theorem x_truD1 : truD .none = some false := id rfl
@[simp] theorem x_truD2 : truD (.tuple ds) = some (!ds.isEmpty) := id rfl
@[simp] theorem x_dBodyX {np : Nat} {ss : List Slot} : dBodyX np n s Φ ss = (cutX ss np (s Φ (ss ++ List.replicate (n - np) .un))).bind (kBodyX ss np) := id rfl
@[simp] theorem x_cutX1 {np : Nat} {ss : List Slot} : cutX ss np (.ok u) = .ok u := id rfl
@[simp] theorem x_cutX2 {np : Nat} {ss : List Slot} : (cutX ss np (.exs ex ρ) : Out α) = if outsOk ss (ρ.take np) = true then .exs ex (ρ.take np) else .stuck := id rfl
@[simp] theorem x_cutX3 {np : Nat} {ss : List Slot} {g : Nat → Out α} : cutX ss np (.any g) = .any fun n => cutX ss np (g n) := id rfl
@[simp] theorem x_kBodyX1 {np : Nat} {ss : List Slot} : kBodyX ss np (.ret sl, ρ) = fin ss np sl ρ := id rfl
@[simp] theorem x_kBodyX2 {np : Nat} {ss : List Slot} : kBodyX ss np (.nx, ρ) = fin ss np (.val .none) ρ := id rfl
@[simp] theorem x_asVarO : aVar (some (.obj k ds)) i r Φ ρ = (r Φ (ρ.set i .un)).bind (kAs (some i, .obj k ds)) := id rfl
@[simp] theorem x_dForX {tg : Tgt} {so : DenI} : dForX tg so s Φ ρ = (calm' (so Φ ρ)).bind (kFor tg s Φ) := id rfl
def kFL {f : PyData → Env → Out (Fl × Env)} (ds : List PyData) : Fl × Env → Out (Fl × Env) := fun r => match r.1 with
  | .nx => forL f ds r.2
  | .cnt => forL f ds r.2
  | .brk => .ok (.nx, r.2)
  | .ret s => .ok (.ret s, r.2)
@[simp] theorem x_kFL1 {f : PyData → Env → Out (Fl × Env)} : kFL (f := f) ds (.nx, ρ) = forL f ds ρ := id rfl
@[simp] theorem x_outsO {ss : List Slot} {k k' : Nat} : outsOk (.obj k ds :: ss) (.obj k' es :: ρ) = outsOk ss ρ := id rfl
@[simp] theorem x_finX {np : Nat} {ss : List Slot} : fin ss np sl ρ = guard' (outsOk ss (ρ.take np)) (.ok (sl, ρ.take np)) := id rfl
end
end Dn

/-! Den83: plain reasoning where numbers may come. -/
namespace Dn
open PySem PySem.Spec L2
open PyProof.Rows hiding St
end Dn

/-! Den84: {"a": f(x), ..}: a dict display with text keys and any values. -/
namespace Dn
open PySem PySem.Spec L2
open PyProof.Rows hiding St
inductive KeysOf : List (Option Expr) → List Str → Prop
  | nil : KeysOf [] []
  | cons {k : Str} {ck : Nat} {cp : Pos} {ks : List (Option Expr)} {ss : List Str} : KeysOf ks ss → KeysOf (some (.Constant (.str k) ck cp) :: ks) (k :: ss)
theorem KeysOf.len : ∀ {ks : List (Option Expr)} {ss : List Str}, KeysOf ks ss → ks.length = ss.length ∧ ks.all (·.isSome) = true
  | _, _, .nil => ⟨rfl, rfl⟩
  | _, _, .cons h => ⟨congrArg Nat.succ h.len.1, by rw [List.all_cons, h.len.2]; rfl⟩
def trsS (X : Cx) : List Str → List Expr → List (TE × TE)
  | s :: ss, e :: es => (tC (.str s), wE X e) :: trsS X ss es
  | _, _ => []
def dDispS (ks : List Str) (a : DenOs) : Den := fun Φ ρ => (a Φ ρ).bind fun x => .ok (.odc false ((ks.zip x.1).map fun p => (.str p.1, p.2)), x.2)
@[simp] theorem x_dDispS {ks : List Str} {a : DenOs} {Φ : Calls} {ρ : Env} : dDispS ks a Φ ρ = (a Φ ρ).bind fun x => .ok (.odc false ((ks.zip x.1).map fun p => (.str p.1, p.2)), x.2) := id rfl
end Dn

/-! Den85: {a: x, b: y}.get(e, f) with keys whole numbers or texts: read at once. -/
namespace Dn
open PySem PySem.Spec L2
open PyProof.Rows hiding St
def kDg2 (k1 v1 k2 v2 : PyData) : List PyData × Env → Out (Slot × Env) := fun y => match y.1 with
  | [e, d] => guard' (keyK e).isSome (.ok (.val ((lookD [(k1, v1), (k2, v2)] e).getD d), y.2))
  | _ => .stuck
def kDg (b : DenOs) (Φ : Calls) : List PyData × Env → Out (Slot × Env) := fun x => match x.1 with
  | [k1, v1, k2, v2] => guard' ((keyK k1).isSome && ((keyK k2).isSome && !kEq k1 k2)) ((b Φ x.2).bind (kDg2 k1 v1 k2 v2))
  | _ => .stuck
def dDispGet (a b : DenOs) : Den := fun Φ ρ => (a Φ ρ).bind (kDg b Φ)
@[simp] theorem x_dDispGet {a b : DenOs} {Φ : Calls} {ρ : Env} : dDispGet a b Φ ρ = (a Φ ρ).bind (kDg b Φ) := id rfl
@[simp] theorem x_dDispGet1 {b : DenOs} {Φ : Calls} {ρ : Env} {k1 v1 k2 v2 : PyData} : kDg b Φ ([k1, v1, k2, v2], ρ) = guard' ((keyK k1).isSome && ((keyK k2).isSome && !kEq k1 k2)) ((b Φ ρ).bind (kDg2 k1 v1 k2 v2)) := id rfl
@[simp] theorem x_dDispGet2 {ρ : Env} {k1 v1 k2 v2 e d : PyData} : kDg2 k1 v1 k2 v2 ([e, d], ρ) = guard' (keyK e).isSome (.ok (.val ((lookD [(k1, v1), (k2, v2)] e).getD d), ρ)) := id rfl
end Dn

/-! Den86: parts that may be refused while a desk stands aside: the refusal is told with the desk's slots. -/
namespace Dn
open PySem PySem.Spec L2
open PyProof.Rows hiding St
def bareS (s : Slot) : Slot := if s.isOwn then .un else s
def bareE (ρ : Env) : Env := ρ.map bareS
def unD (i j : Nat) (ρ : Env) : Env := (ρ.set i .un).set j .un
def reD (i j : Nat) (ρ ρ1 : Env) : Env := match ρ[i]?, ρ[j]? with
  | some s, some t => (ρ1.set i s).set j t
  | _, _ => ρ1
def isUn : Option Slot → Bool
  | some .un => true
  | _ => false
def isPast : Option Slot → Bool
  | some (.obj 1 _) => true
  | _ => false
section
variable {B : Bd} {F H F' H' : Hp} {ρ ρ1 : Env} {σ : St} {i j : Nat}
/-- what stood aside stands there again -/
theorem Rel.again (R : Rel B F H ρ σ) {s t : Slot} (ne : i ≠ j) (hi : ρ[i]? = some s) (hj : ρ[j]? = some t) (ss : s.isOwn = true) (st : t.isOwn = true)
    (R' : Rel (B.re F H (unD i j ρ) σ) F' H' ρ1 σ) (e : Ex F F') (u1 : ρ1[i]? = some .un) (u2 : ρ1[j]? = some .un) : Rel B F' H' ((ρ1.set i s).set j t) σ ∧ ∀ v r, Res (B.re F H (unD i j ρ) σ) F' H' ρ1 σ r v → Res B F' H' ((ρ1.set i s).set j t) σ r v := by
  obtain ⟨a, oa, a1, a2, a3, a4, a5⟩ := R.sl.own i s hi ss
  obtain ⟨b, ob, b1, b2, b3, b4, b5⟩ := R.sl.own j t hj st
  have nab : a ≠ b := fun z => by
    subst z
    exact R.sl.dis i j s t a ne hi ss hj st a1 b1
  have off : ∀ (k : Nat) (c : Slot), (unD i j ρ)[k]? = some c → c.isOwn = true → k ≠ i ∧ k ≠ j ∧ ρ[k]? = some c := fun k c h hc => by
    unfold unD at h
    rcases set_get h with ⟨_, z, _⟩ | ⟨z1, z2⟩
    · rw [z] at hc; cases hc
    · rcases set_get z2 with ⟨_, z, _⟩ | ⟨z3, z4⟩
      · rw [z] at hc; cases hc
      · exact ⟨z3, z1, z4⟩
  have na : ¬ owned (unD i j ρ) σ a := fun ⟨k, c, h, hc, hk⟩ => by
    obtain ⟨k1, _, h'⟩ := off k c h hc
    exact R.sl.dis k i c s a k1 h' hc hi ss hk a1
  have nb : ¬ owned (unD i j ρ) σ b := fun ⟨k, c, h, hc, hk⟩ => by
    obtain ⟨_, k1, h'⟩ := off k c h hc
    exact R.sl.dis k j c t b k1 h' hc hj st hk b1
  obtain ⟨fa, ha⟩ := R'.stays a3 a2 na
  obtain ⟨fb, hb⟩ := R'.stays b3 b2 nb
  have R0 : Rel B F H (unD i j ρ) σ := (R.unset i).unset j
  have R1 : Rel B F' H' ρ1 σ := R0.un R'
  have far : ∀ (k : Nat) (c : Slot), ρ1[k]? = some c → c.isOwn = true → σ[k]? ≠ some (some (.ref a)) ∧ σ[k]? ≠ some (some (.ref b)) := fun k c h hc => by
    obtain ⟨d, o, d1, d2, d3, d4, d5⟩ := R'.sl.own k c h hc
    refine ⟨fun z => ?_, fun z => ?_⟩
    · rw [z] at d1
      cases d1
      rcases d5 with y | y
      · exact na ⟨k, y⟩
      · have y : H a = none := y
        rw [a3] at y; cases y
    · rw [z] at d1
      cases d1
      rcases d5 with y | y
      · exact nb ⟨k, y⟩
      · have y : H b = none := y
        rw [b3] at y; cases y
  have get : ∀ (k : Nat) (c : Slot), ((ρ1.set i s).set j t)[k]? = some c → (k = j ∧ c = t) ∨ (k = i ∧ c = s) ∨ (k ≠ i ∧ k ≠ j ∧ ρ1[k]? = some c) := fun k c h => by
    rcases set_get h with ⟨z, y, _⟩ | ⟨z, h2⟩
    · exact .inl ⟨z, y⟩
    · rcases set_get h2 with ⟨z2, y, _⟩ | ⟨z2, h3⟩
      · exact .inr (.inl ⟨z2, y⟩)
      · exact .inr (.inr ⟨z2, z, h3⟩)
  refine ⟨⟨R1.kept, ⟨by rw [List.length_set, List.length_set]; exact R1.sl.len, fun k d h => ?_, fun k ns h => ?_, fun k c h hc => ?_, R1.sl.par, fun k l c d x kl h hc h' hd hk hl => ?_⟩⟩, fun v r hr => ?_⟩
  · rcases get k _ h with ⟨_, y⟩ | ⟨_, y⟩ | ⟨_, _, y⟩
    · subst y; cases st
    · subst y; cases ss
    · exact R1.sl.val k d y
  · rcases get k _ h with ⟨_, y⟩ | ⟨_, y⟩ | ⟨_, _, y⟩
    · subst y; cases st
    · subst y; cases ss
    · exact R1.sl.scr k ns y
  · rcases get k c h with ⟨z, y⟩ | ⟨z, y⟩ | ⟨_, _, y⟩
    · subst z y
      exact ⟨b, ob, b1, fb, hb, b4.mono e, b5⟩
    · subst z y
      exact ⟨a, oa, a1, fa, ha, a4.mono e, a5⟩
    · exact R1.sl.own k c y hc
  · rcases get k c h with ⟨z, y⟩ | ⟨z, y⟩ | ⟨z1, z2, y⟩ <;> rcases get l d h' with ⟨z', y'⟩ | ⟨z', y'⟩ | ⟨z1', z2', y'⟩
    · exact kl (z.trans z'.symm)
    · subst z y z' y'
      rw [b1] at hk
      cases hk
      rw [a1] at hl
      exact nab (V.ref.inj (Option.some.inj (Option.some.inj hl)))
    · subst z y
      rw [b1] at hk
      cases hk
      exact (far l d y' hd).2 hl
    · subst z y z' y'
      rw [a1] at hk
      cases hk
      rw [b1] at hl
      exact nab (V.ref.inj (Option.some.inj (Option.some.inj hl))).symm
    · exact kl (z.trans z'.symm)
    · subst z y
      rw [a1] at hk
      cases hk
      exact (far l d y' hd).1 hl
    · subst z' y'
      rw [b1] at hl
      cases hl
      exact (far k c y hc).2 hk
    · subst z' y'
      rw [a1] at hl
      cases hl
      exact (far k c y hc).1 hk
    · exact R1.sl.dis k l c d x kl y hc y' hd hk hl
  · cases hr0 : r.isOwn with
    | false =>
      cases r with
      | val d => exact hr
      | un => exact hr
      | scr ns => exact hr
      | own ds => cases hr0
      | odc t es => cases hr0
      | obj k ds => cases hr0
    | true =>
      obtain ⟨c, o, c1, c2, c3, c4, c5, c6⟩ := (Res.of_own hr0).mp hr
      have hc : H c = none := c5
      refine (Res.of_own hr0).mpr ⟨c, o, c1, c2, c3, c4, R.kept.old hc, fun k d h hd z => ?_⟩
      rcases get k d h with ⟨z1, y⟩ | ⟨z1, y⟩ | ⟨_, _, y⟩
      · subst z1 y
        rw [b1] at z
        cases z
        rw [b3] at hc; cases hc
      · subst z1 y
        rw [a1] at z
        cases z
        rw [a3] at hc; cases hc
      · exact c6 k d y hd z
/-- of what is not lent and not known, nothing is told -/
theorem Rel.bare (R : Rel B F H ρ σ) (k : Kept B F' H') (e : Ex F F') : Rel B F' H' (bareE ρ) σ := by
  have get : ∀ (k : Nat) (c : Slot), (bareE ρ)[k]? = some c → c.isOwn = false ∧ (c = .un ∨ ρ[k]? = some c) := fun k c h => by
    unfold bareE at h
    rw [List.getElem?_map] at h
    obtain ⟨d, h1, h2⟩ := Option.map_eq_some_iff.mp h
    unfold bareS at h2
    cases q : d.isOwn with
    | true =>
      rw [q, if_pos rfl] at h2
      subst h2
      exact ⟨rfl, .inl rfl⟩
    | false =>
      rw [q, if_neg Bool.false_ne_true] at h2
      subst h2
      exact ⟨q, .inr h1⟩
  refine ⟨k, ⟨by unfold bareE; rw [List.length_map]; exact R.sl.len, fun k d h => ?_, fun k ns h => ?_, fun k c h hc => ?_, R.sl.par, fun k l c d x kl h hc h' hd hk hl => ?_⟩⟩
  · obtain ⟨v, h1, h2⟩ := R.sl.val k d ((get k _ h).2.resolve_left (fun z => by cases z))
    exact ⟨v, h1, h2.mono e⟩
  · obtain ⟨v, h1, h2⟩ := R.sl.scr k ns ((get k _ h).2.resolve_left (fun z => by cases z))
    exact ⟨v, h1, e.sqL h2⟩
  · rw [(get k c h).1] at hc; cases hc
  · rw [(get k c h).1] at hc; cases hc
end
/-- with the desk aside -/
def asideK {α : Type} (i j : Nat) (ρ : Env) : Out (α × Env) → Out (α × Env)
  | .ok r => guard' (isUn r.2[i]? && isUn r.2[j]?) (.ok (r.1, reD i j ρ r.2))
  | .exc x => .exs x (reD i j ρ (bareE (unD i j ρ)))
  | _ => .stuck
def asideD {α : Type} (i j : Nat) (d : Calls → Env → Out (α × Env)) : Calls → Env → Out (α × Env) := fun Φ ρ => guard' (isDesk ρ[i]? && isPast ρ[j]?) (asideK i j ρ (d Φ (unD i j ρ)))
section
variable {X : Cx} {B : Bd} {F H : Hp} {ρ : Env} {σ : St} {i j : Nat} {W : WX} {α : Type} {c : Out (α × Env)} {P : α × Env → Prop}
end
/-- x = e -/
def dSetA (k i j : Nat) (d : Den) : DenS := fun Φ ρ => (asideD i j d Φ ρ).bind fun r => .ok (.nx, r.2.set k r.1)
/-- return o.m(..) -/
def allV (as : List (Option Nat × Slot)) : Bool := as.all fun a => match a with
  | (none, .val _) => true
  | _ => false
def dMethA (k : Slot → Fl) (x : Str) (n i j : Nat) (as : DenA) : DenS := fun Φ ρ => (asideD i j as Φ ρ).bind fun y => guard' (allV y.1) ((opt (lendD i j y)).bind fun z => guard' (z.1.length == n + 1) (backM n k z (Φ x (z.1.map (·.2)))))
section
variable {Γ : Ctx} {es : List Expr} {r : DenA} {pos pos' fpos xpos apos rpos : Pos} {i j k n : Nat} {x y m : Str} {e : Expr} {d : Den} {p : Bool} {kf : Slot → Fl}
end
/-! ### upper -/
def kUp : Slot × Env → Out (Slot × Env) := fun r => match r.1 with
  | .val (.str z) => guard' (decide (z.length ≤ 1000)) (.ok (.val (.str (Txt.upper z)), r.2))
  | _ => .stuck
def dUpper (a : Den) : Den := fun Φ ρ => (a Φ ρ).bind kUp
@[simp] theorem x_dUpper {a : Den} {Φ : Calls} {ρ : Env} : dUpper a Φ ρ = (a Φ ρ).bind kUp := id rfl
@[simp] theorem x_dUpper1 {z : Str} {ρ : Env} : kUp (.val (.str z), ρ) = guard' (decide (z.length ≤ 1000)) (.ok (.val (.str (Txt.upper z)), ρ)) := id rfl
/-! ### steps -/
@[simp] theorem x_aside {α : Type} {i j : Nat} {d : Calls → Env → Out (α × Env)} {Φ : Calls} {ρ : Env} : asideD i j d Φ ρ = guard' (isDesk ρ[i]? && isPast ρ[j]?) (asideK i j ρ (d Φ (unD i j ρ))) := id rfl
@[simp] theorem x_asideO {α : Type} {i j : Nat} {ρ ρ1 : Env} {a : α} : asideK i j ρ (.ok (a, ρ1)) = guard' (isUn ρ1[i]? && isUn ρ1[j]?) (.ok (a, reD i j ρ ρ1)) := id rfl
@[simp] theorem x_asideX {α : Type} {i j : Nat} {ρ : Env} {x : Exc} : asideK (α := α) i j ρ (.exc x) = .exs x (reD i j ρ (bareE (unD i j ρ))) := id rfl
def kSetA (k : Nat) : Slot × Env → Out (Fl × Env) := fun r => .ok (.nx, r.2.set k r.1)
@[simp] theorem x_dSetA {k i j : Nat} {d : Den} {Φ : Calls} {ρ : Env} : dSetA k i j d Φ ρ = (asideD i j d Φ ρ).bind (kSetA k) := id rfl
@[simp] theorem x_dSetA1 {k : Nat} {s : Slot} {ρ : Env} : kSetA k (s, ρ) = .ok (.nx, ρ.set k s) := id rfl
@[simp] theorem x_unD {i j : Nat} {ρ : Env} : unD i j ρ = (ρ.set i .un).set j .un := id rfl
def reG (o o' : Option Slot) (i j : Nat) (ρ1 : Env) : Env := match o, o' with
  | some s, some t => (ρ1.set i s).set j t
  | _, _ => ρ1
@[simp] theorem x_reD {i j : Nat} {ρ ρ1 : Env} : reD i j ρ ρ1 = reG ρ[i]? ρ[j]? i j ρ1 := id rfl
@[simp] theorem x_reG {i j : Nat} {s t : Slot} {ρ1 : Env} : reG (some s) (some t) i j ρ1 = (ρ1.set i s).set j t := id rfl
@[simp] theorem x_isUn : isUn (some .un) = true := id rfl
@[simp] theorem x_isPast {ds : List PyData} : isPast (some (.obj 1 ds)) = true := id rfl
@[simp] theorem x_bareN : bareE [] = [] := id rfl
@[simp] theorem x_bareC {s : Slot} {ρ : Env} : bareE (s :: ρ) = bareS s :: bareE ρ := id rfl
@[simp] theorem x_bareV {d : PyData} : bareS (.val d) = .val d := id rfl
@[simp] theorem x_bareO {ds : List PyData} : bareS (.own ds) = .un := id rfl
@[simp] theorem x_bareU : bareS .un = .un := id rfl
@[simp] theorem x_bareJ {k : Nat} {ds : List PyData} : bareS (.obj k ds) = .un := id rfl
@[simp] theorem x_allN : allV [] = true := id rfl
@[simp] theorem x_allC {d : PyData} {as : List (Option Nat × Slot)} : allV ((none, .val d) :: as) = allV as := by
  show (true && _) = _
  rw [Bool.true_and]
  rfl
def kMethA (kf : Slot → Fl) (x : Str) (n i j : Nat) (Φ : Calls) : List (Option Nat × Slot) × Env → Out (Fl × Env) := fun y => guard' (allV y.1) (kMe2 kf x n Φ (lendD i j y))
@[simp] theorem x_dMethA {kf : Slot → Fl} {x : Str} {n i j : Nat} {as : DenA} {Φ : Calls} {ρ : Env} : dMethA kf x n i j as Φ ρ = (asideD i j as Φ ρ).bind (kMethA kf x n i j Φ) := id rfl
@[simp] theorem x_dMethA1 {kf : Slot → Fl} {x : Str} {n i j : Nat} {Φ : Calls} {la : List (Option Nat × Slot)} {ρ : Env} : kMethA kf x n i j Φ (la, ρ) = guard' (allV la) (kMe2 kf x n Φ (lendD i j (la, ρ))) := id rfl
end Dn

/-! Den93: refusals with an __init__ of their own: made, raised, their number read where they are held. -/
namespace Dn
open PySem PySem.Spec L2
open PyProof.Rows hiding St
/-! ### R.__init__(self, ..), R a class of the text that has ValueError's -/
structure RInit (K : PySem.W.Frag) (R : Addr) : Prop where
  ga : PySem.W.specialIn K (.ref R) "__getattribute__" = some (some (.builtin "type.__getattribute__"))
  rd : PySem.W.readsIn K R (.type "type") = true
  fd : PySem.W.findCls K (.ref R) (.type "type") "__init__" = some (.val (.builtin "ValueError.__init__"))
theorem pe_rinit {X : Cx} {x : Str} {R : Addr} {e : Expr} {es : List Expr} {ta : TA} {p1 p2 pos : Pos} {pl : Sem Bool} (hg : Gl X x) (hm : X.mg x = some (.ref R)) (r : RInit X.K R) (hd : (x == ("__debug__" : Str)) = false) (ha : PA X (e :: es) ta)
    (hc : eval (.Call (.Attribute (.Name x p1) "__init__" p2) (e :: es) [] pos) X.env = (do
      let ov ← eval (.Name x p1) X.env
      standAt p2.atName
      let (f, first) ← holding [ov] (getMethod ov "__init__" pl)
      callWith pos f first (backTo pos (starEach (e :: es) X.env)) (backToKw pos (keywordEach [] X.env))) := by rfl)
    (he : starEach (e :: es) X.env = (false, eval e X.env) :: starEach es X.env := by rfl) (hp : (backTo pos (starEach es X.env)).any (·.1) = false := by rfl) :
    PE X (.Call (.Attribute (.Name x p1) "__init__" p2) (e :: es) [] pos) (tVeI X.K ta) := by
  constructor
  intro pins s σ H Q I h
  have hk := I.kIn
  refine PySem.W.methodCall_KW (ld_glob I hg hm ?_ hd) hc
  refine PySem.W.method_cls hk r.ga (PySem.W.cls_value hk r.rd r.fd (by decide +kernel) ?_)
  show wpAny _ _ (callWith pos (Value.builtin "ValueError.__init__") [] (backTo pos (starEach (e :: es) X.env)) []) _ _ _
  refine PyProof.Rows.callWith_method1 (thn (ha.run pos pins _ σ H _ (I.tok _) h) fun us s1 z => ?_) he hp
  obtain ⟨vs, H1, I1, rel, a, C, ws, e1, e2, oc, at_, q⟩ := z
  subst e1
  cases rel with
  | @cons _ u _ ur ru rel =>
    have eu : u = Value.ref a := ru
    subst eu
    have le : ur.length ≤ sizeLine := by
      have := Paired.length rel
      rw [sizeLine_eq]
      omega
    exact oinit_ok oc I1 at_ le fun s2 I2 => ⟨.non, H1, I2, rfl, q⟩
/-- def __init__(self, at): R.__init__(self, "..") / self.at = at -/
theorem ini_fn {P : Program} {w : World} {K : PySem.W.Frag} {mg : Str → Option Value} {base : Heap} {qn x m : Str} {st : Stmt} {f C R : Addr} {fd : FuncData} {q1 q2 q3 q4 q5 q6 q7 q8 q9 q10 : Pos} {c : Nat} (F : Fun K "__init__" qn st f fd) (hs : FnScope ["self", "at"] ["self", "at"] (defScope st))
    (hb : defBody st = [.Expr (.Call (.Attribute (.Name x q1) "__init__" q2) [.Name "self" q3, .Constant (.str m) c q4] [] q5) q6, .Assign [.Attribute (.Name "self" q7) "at" q8] (.Name "at" q9) q10])
    (hline : (q2.endLine == q5.line) = true) (hx : (x == ("__debug__" : Str)) = false) (gx : (defScope st).names.lookup x = some .globalImplicit) (mx : mg x = some (.ref R)) (r : RInit K R) (oc : OexC K C) (hno : PySem.W.findIn K (.ref C) "at" = some none) : FnG P w K mg base (L2N.CX P w) 1 f fd ["self", "at"] (spIni C "at") := by
  refine FnG.of_body F hs (fun vs H Q E h => ?_) (fun cdv A outer s H vs Q E hA hr h => ?_)
  · obtain ⟨p, v, rfl, _⟩ := h
    rfl
  · obtain ⟨p, v, rfl, hp, k⟩ := h
    generalize hX : cxOf (L2N.CX P w) P w K mg base ["self", "at"] qn (defScope st) f cdv A outer s H E = X
    have XK : X.K = K := by subst hX; rfl
    have l0 : ∀ {q : Pos}, PE X (.Name "self" q) (tVar 0) := by
      intro q
      subst hX
      exact pe_var rfl (hs.par "self" (by decide) |>.elim .inl fun z => .inr (.inl z)) rfl rfl
    have l1 : ∀ {q : Pos}, PE X (.Name "at" q) (tVar 1) := by
      intro q
      subst hX
      exact pe_var rfl (hs.par "at" (by decide) |>.elim .inl fun z => .inr (.inl z)) rfl rfl
    have gl : Gl X x := by subst hX; exact gx
    have mX : X.mg x = some (.ref R) := by subst hX; exact mx
    rw [hb]
    refine ⟨_, pss_cons (ps_expr (pe_rinit gl mX (XK ▸ r) hx (pa_cons l0 (pa_cons pe_str pa_nil)) (meth_eval (base_of rfl) (few_of rfl (by show 2 < 20; decide)) hline) (star_of rfl) (plain_any rfl))) (pss_one (ps_ost l0 l1)), ?_⟩
    refine ⟨_, rfl, p, C, [.str m], rfl, by show 1 ≤ 1000; decide, XK ▸ oc, hp, ?_⟩
    exact ⟨_, rfl, _, rfl, p, C, rfl, XK ▸ oc, XK ▸ hno, .inl ⟨hp, k⟩⟩
/-! ### C(e), C with such an __init__ -/
section
variable {X : Cx} {x : Str} {e : Expr} {es : List Expr} {ta : TA} {p pos : Pos} {C f : Addr} {k : Nat} {fd : FuncData} {ps : List Str} {sp : Sp}
theorem pmk_ini (oc : OexC X.K C) (at_ : PySem.W.findIn X.K (.ref C) "__init__" = some (some (.ref f))) (isf : PySem.W.typeIn X.K (.ref f) = some (.type "function")) (F : FnG X.prog X.w X.K X.mg X.base (L2N.CX X.prog X.w) k f fd ps sp) (gd : X.A.guards = some []) (room : Room (k + 1) X.A)
    (hb : Binds X.K fd ps []) (hg : Gl X x) (hm : X.mg x = some (.ref C)) (hd : (x == ("__debug__" : Str)) = false) (ha : PA X (e :: es) ta) (he : starEach (e :: es) X.env = (false, eval e X.env) :: starEach es X.env := by rfl) (hp : (backTo pos (starEach es X.env)).any (·.1) = false := by rfl) :
    L2N.PMk X (.Call (.Name x p) (e :: es) [] pos) (tMkO C sp [] ta) := by
  intro pins s σ H Q I h
  obtain ⟨n1, n2, n3, bs, bm, n4, n5, n6, n7, n8, c0, c1, c2, c3, c5, lk, refs⟩ := oc.cls
  refine wpAny_Call_Name_kw (ld_glob I hg hm ?_ hd)
  refine PySem.W.callWith_K (h₀ := X.base) I.ok.mod.kin oc.kC (thn (ha.run pos pins s σ H _ I h) fun us s1 z => ?_) he hp
  obtain ⟨vs, H1, I1, rel, small, want⟩ := z
  refine ⟨I1.kIn, ?_⟩
  show wpAny _ _ (call (.ref C) us) _ _ _
  obtain ⟨h1, gs, dr, tk, os⟩ := s1
  obtain ⟨N, eN⟩ : ∃ N, N = h1.objs.size + 1 := ⟨_, rfl⟩
  have above : h1.objs.size ≤ N := by omega
  have new : H1 N = none := I1.hok.fresh above
  have q := want N new
  rw [List.append_nil] at q
  obtain ⟨h2, e2⟩ : ∃ h2, h2 = (h1.push (PySem.W.kdv_tup us)).push (PySem.HandSPX.excO C h1.objs.size) := ⟨_, rfl⟩
  have grown : ∀ b o, h1.get? b = some o → h2.get? b = some o := fun b o z => by rw [e2]; exact Heap.get?_push_of_some _ (Heap.get?_push_of_some _ z)
  have there : h2.get? N = some (PySem.HandSPX.excO C h1.objs.size) := by rw [e2, eN]; heap_get
  have I2 : Inv X pins σ (upd H1 N (exo N C none)) ⟨h2, gs, dr, tk, os⟩ := I1.laid (t' := tk) (a := N) (o := exo N C none) (h' := h2) grown above (exo_ok there)
  have rel2 : Vals (V.ref N :: vs) (Value.ref N :: us) := .cons rfl rel
  have len : (Value.ref N :: us ++ []).length = ps.length := by
    have z := rel2.length
    rw [F.len _ _ _ _ q] at z
    rw [List.append_nil]
    exact z.symm
  have few : us.length ≤ sizeLine := by
    have := Paired.length rel
    rw [sizeLine_eq]
    omega
  have b := hb _ (Value.ref N :: us) I2.kIn len
  rw [List.append_nil] at b
  subst e2 eN
  refine wpAny_call (PySem.HandSPX.call_own PySem.F.excBase_ValueError (fun Y => PySem.HandSPX.refsVE_contains Y bm refs) (I1.kIn _ _ lk) (PySem.W.looks_findIn I1.kIn at_) (fun self => PySem.W.bind_fn I1.kIn self isf) few
    (codeAny_mono (F.run _ (by exact gd) X.stack _ _ ⟨Value.ref (h1.objs.size + 1) :: us, []⟩ (Value.ref (h1.objs.size + 1) :: us) _ _ (fun _ _ _ => False) (room.make C us []) (I2.env0.make C us []) b rel2 q) fun r s3 z => ?_))
  match r, z with
  | .error er, z => exact (noExc z).elim
  | .ok .next, z => exact z.elim
  | .ok .brk, z => exact z.elim
  | .ok .cont, z => exact z.elim
  | .ok (.ret u), z =>
    obtain ⟨v, H3, o3, bare, un, hok, rv, ev, d, fs, k1, k2, k3, k4⟩ := z
    subst ev
    obtain ⟨h3, g3, d3, t3, os3⟩ := s3
    obtain ⟨t0, G, J, kG, fresh, ob, na⟩ := mk_end0 (d2 := d3) (t2 := t3) I1 above grown un hok o3 bare k1 k2 k3
    refine ⟨rv, h1.objs.size + 1, _, _, ⟨G, g3, d3, t3, os3⟩, _, .ref C, some d, rfl, J, kG, fresh, ob, ⟨rfl, rfl, fun ws hw => ?_⟩, rfl, rfl, na, rfl, bare, raises_own oc.exC oc.tyC, k4⟩
    cases hw
    rfl
end
/-! ### raise C(e) -/
def dRaiseV (x : Str) (d : DenO) : DenS := fun Φ ρ => (d Φ ρ).bind fun r => .exc ⟨x, some r.1⟩
theorem snd_raiseV {Γ : Ctx} {x : Str} {e : Expr} {d : DenO} {p : Bool} {p1 p2 pos : Pos} (hx : Γ.ini.contains x = true) (hg : Γ.sc.names.lookup x = some .globalImplicit) (hd : (x == ("__debug__" : Str)) = false) (he : plainE e = true) (h : SndO Γ e d p false) :
    SndS Γ (.Raise (some (.Call (.Name x p1) [e] [] p2)) none pos) (dRaiseV x d) := by
  intro X Φ B F H ρ σ D W C BO bo hK T R hq
  have hx : x ∈ Γ.ini := by simpa using hx
  obtain ⟨⟨cl, f, fd, m1, oc, at_, isf, G, hb, _⟩, room, _⟩ := C.ini x hx
  refine PS.w (L2N.ps_raise C.calm T (pmk_ini oc at_ isf G C.grd room hb (gl_of C hg) m1 hd (pa_ws (es := [e]) (by rw [List.all_cons, he]; rfl)) (star_of he) rfl)) ?_
  show wEs X [e] σ H _
  refine h X Φ B F H ρ σ _ W C hK T R (wp_mono (wp_bind (c := d Φ ρ) hq) (fun r q v F1 H1 R1 e1 _ hv => ?_) ExS.ex)
  obtain ⟨y, ρ1⟩ := r
  have R1 : Rel B F1 H1 ρ1 σ := R1
  have hv : Rp B.K F1 y v := hv
  refine ⟨by show 1 ≤ 1000; decide, fun a na => ⟨a, v, rfl, upd_same, fun dx nd ne => ⟨rfl, dx, [("at", v)], upd_same, by rw [upd_ne ne]; exact upd_same, ?_, ?_⟩⟩⟩
  · rw [upd_ne ne] at nd
    exact nd
  · have nd1 : H1 dx = none := by rw [upd_ne ne] at nd; exact nd
    have ex : Ex H1 (upd (del (upd (upd (upd H1 a (exo a cl none)) dx (exd dx [("at", v)])) a (exo a cl (some dx))) a) dx (.xd [("at", v)])) := fun b o hb => by
      have n1 : b ≠ dx := ne_of_none hb nd1
      have n2 : b ≠ a := ne_of_none hb na
      rw [upd_ne n1, del_ne n2, upd_ne n2, upd_ne n1, upd_ne n2]
      exact hb
    exact (show ExS X B F W ⟨x, some y⟩ from q) σ F1 _ (.ref cl) (some dx) (R1.kept.grow ex) e1 ⟨m1, dx, v, rfl, upd_same, hK ▸ hv⟩
end Dn

/-! Den94: a refusal with a number of its own, looked at while it is held; try. -/
namespace Dn
open PySem PySem.Spec L2
open PyProof.Rows hiding St
/-! ### what the suite calls -/
theorem fnMD_of {P : Program} {w : World} {K : PySem.W.Frag} {mg : Str → Option Value} {base : Heap} {f D : Addr} {fd : FuncData} {st : Stmt} {nm m : Str} (F : Fun K "_law_marks" "_law_marks" st f fd) (S : FnScope marksN ["e"] (defScope st)) (body : MkBody st)
    (isi : mg "isinstance" = none) (says : markOf (asks.map fun x => decide (x = nm)) words = m) (kn : Kn K mg D nm) (is : ExcC K D) : FnMD P w K mg base f fd D m := by
  obtain ⟨oc, od, kV, doc, pm, an, cv, ct, osl, rfl, lk, code⟩ := F.ex
  intro A outer s H q args Q E dd ob room hot pin e0 bind h1 h2 h4 h3 good
  have old := fun b o e => (e0.bs b o e).1
  have inK := e0.mod.kin.keeps old
  have far := e0.mod.nolimit.keeps old
  have kinds : ∀ y ∈ [(("e" : Str), Value.ref q.1)], (defScope st).names.lookup y.1 = some .local ∨ ((defScope st).names.lookup y.1 = some .cell ∧ ((cellsFrom (s.heap.objs.size + 1) (defScope st).names []).lookup y.1).isSome = true) := by
    intro y hy
    have ey : y = (("e" : Str), Value.ref q.1) := List.mem_singleton.mp hy
    subst ey
    exact (S.par _ (List.mem_singleton.mpr rfl)).imp id fun q => ⟨q, PySem.W.cellsFrom_some _ _ _ (.inl q)⟩
  refine codeAny_call_function room.depth (inK _ _ lk) rfl S.co S.gen rfl (PySem.W.codeRec_of inK code) (bind _ _ _ _ (wpAny_newFunctionEnv_cells S.kind kinds fun env he s1 enter => ?_))
  subst he
  generalize hX : L2H.cxH (L2N.CX P w) P w K mg base marksN "_law_marks" (defScope st) f cv A outer s H E q = X
  have J : Inv X [] (start marksN [.ref q.1]) H s1 := by
    subst hX
    exact L2H.inv_startH (ps := ["e"]) (us := [.ref q.1]) S pin e0 rfl (.cons rfl .nil) enter
  have hh : Holds X q.1 D := by
    subst hX
    exact ⟨⟨q.2, List.mem_singleton.mpr rfl, h1, .inr ⟨dd, ob, h2, h4, fun z => nomatch z⟩, h3⟩, is, isi⟩
  have ht : wSs X (defBody st) { nx := fun _ H' => Q .non H', rt := Q } (start marksN [.ref q.1]) H := by
    refine body X q.1 D nm _ H _ (by subst hX; rfl) (by subst hX; rfl) (by subst hX; exact fun _ => rfl) hh (by subst hX; exact kn) rfl rfl fun H' x => ?_
    rw [says]
    exact good H' x
  have run := ht [] s1 J
  subst hX
  refine ⟨far.keeps enter.toInCall.keep, codeAny_func (wpAny_mono run (fun fl s' hs => ?_) fun _ _ hs => hs)⟩
  cases fl with
  | brk => exact hs.elim fun _ z => z.elim fun _ z => z.2.elim
  | cont => exact hs.elim fun _ z => z.elim fun _ z => z.2.elim
  | next =>
    obtain ⟨σ', H', I, q⟩ := hs
    exact ⟨.non, H', I.os, I.bare, I.base, I.hok, rfl, q⟩
  | ret u =>
    obtain ⟨v, σ', H', I, rv, q⟩ := hs
    exact ⟨v, H', I.os, I.bare, I.base, I.hok, rv, q⟩
/-- isinstance(y, T) of a whole number -/
theorem isi_w {X : Cx} {σ : St} {H : Hp} {Q : VK} {y x : Str} {T : String} {i : Nat} {k : Int} {p1 p2 p3 p4 : Pos} (hN : X.N[i]? = some y) (hv : Vis X.env.scope y) (hy1 : (y == ("__debug__" : Str)) = false) (hy2 : (y == ("__classdict__" : Str)) = false) (g1 : Gl X "isinstance") (m1 : X.mg "isinstance" = none)
    (g2 : Gl X x) (m2 : X.mg x = none) (bo : bootBuiltins x = some (.type T)) (hT : T ∈ isTs) (hx : okName x = true) (e0 : σ[i]? = some (some (.int k))) (q : Q (.bl (isT T (.int k))) H) : wE X (.Call (.Name "isinstance" p1) [.Name y p2, .Name x p3] [] p4) σ H Q :=
  PE.w (pe_callB call_isi g1 m1 boot_isinstance' (pa_cons (pe_var hN hv hy1 hy2) (pa_cons (pe_bltn (v := .ty T) g2 m2 bo rfl (okName_n hx) (okName_d hx)) pa_nil))) ⟨_, e0, _, _, _, _, _, rfl, .ty T, .base (.int k), kit_is (x := .int k) hT, q⟩
/-- def _law_whole(thing): return isinstance(thing, int) and not isinstance(thing, bool) -/
theorem fnWH_of {P : Program} {w : World} {K : PySem.W.Frag} {mg : Str → Option Value} {base : Heap} {f : Addr} {fd : FuncData} {st : Stmt} {p1 p2 p3 p4 p5 p6 p7 p8 p9 p10 p11 : Pos} (F : Fun K "_law_whole" "_law_whole" st f fd) (S : FnScope ["thing"] ["thing"] (defScope st))
    (hb : defBody st = [.Return (some (.BoolOp .And [.Call (.Name "isinstance" p1) [.Name "thing" p2, .Name "int" p3] [] p4, .UnaryOp .Not (.Call (.Name "isinstance" p5) [.Name "thing" p6, .Name "bool" p7] [] p8) p9] p10)) p11])
    (g : (["isinstance", "int", "bool"] : List Str).all (fun x => (defScope st).names.lookup x == some .globalImplicit) = true) (m1 : mg "isinstance" = none) (m2 : mg "int" = none) (m3 : mg "bool" = none) : FnWH P w K mg base f fd "thing" true := by
  intro A outer s H q args Q E k u room hot pin e0 ru bind good
  have gs : ∀ x ∈ (["isinstance", "int", "bool"] : List Str), (defScope st).names.lookup x = some .globalImplicit := fun x hx => by simpa using List.all_eq_true.mp g x hx
  refine hot_fn (vs := [.int k]) (us := [u]) F S room hot pin e0 bind rfl (.cons ru .nil) fun X hN hs hf hP hw hK hm hB hq hh hr => ?_
  have gl : ∀ x ∈ (["isinstance", "int", "bool"] : List Str), Gl X x := fun x hx => by
    show X.env.scope.names.lookup x = _
    rw [hs]
    exact gs x hx
  have vis : Vis X.env.scope "thing" := by
    rw [hs]
    exact (S.par "thing" (by decide)).elim .inl fun z => .inr (.inl z)
  have n0 : X.N[0]? = some ("thing" : Str) := by rw [hN]; rfl
  rw [hb]
  refine PSs.w (pss_one (ps_ret (pe_and pe_w (pe_one (pe_not pe_w))))) ?_
  refine isi_w (k := k) n0 vis (by decide) (by decide) (gl _ (by decide)) (by rw [hm]; exact m1) (gl _ (by decide)) (by rw [hm]; exact m2) boot_int' (by decide) (by decide) rfl ⟨true, rfl, iteT ?_⟩
  refine isi_w (k := k) n0 vis (by decide) (by decide) (gl _ (by decide)) (by rw [hm]; exact m1) (gl _ (by decide)) (by rw [hm]; exact m3) boot_bool' (by decide) (by decide) rfl ⟨false, rfl, ?_⟩
  exact good H (.refl H)
/-! ### try: body, except RankError as e: if _law_marks(e) != "text" or not _law_whole(e.at): return None / return e.at -/
def dTryA (x : Str) (b : DenS) : DenS := fun Φ ρ => match b Φ ρ with
  | .ok r => .ok r
  | .exc y => if y.cls = x then (match y.arg with
    | some (.int k) => .ok (.ret (.val (.int k)), thin ρ)
    | _ => .stuck) else .stuck
  | .stuck => .stuck
  | .any _ => .stuck
  | .exs _ _ => .stuck
theorem snd_tryA {Γ : Ctx} {body : List Stmt} {b : DenS} {i j j2 : Nat} {x : Str} {np p1 p2 p3 p4 p5 p6 p7 p8 p9 p10 p11 p12 p13 p14 p15 p16 p17 p18 pos : Pos} (hb : SndSs Γ body b) (hN : Γ.N[i]? = some ("e" : Str)) (hl : Γ.sc.names.lookup ("e" : Str) = some .local)
    (g1 : Γ.sc.names.lookup ("RankError" : Str) = some .globalImplicit) (g2 : Γ.sc.names.lookup ("_law_marks" : Str) = some .globalImplicit) (g3 : Γ.sc.names.lookup ("_law_whole" : Str) = some .globalImplicit) (hi : Γ.ini.contains x = true) :
    SndS Γ (.Try body [.ExceptHandler (some (.Name "RankError" np)) (some "e") [.If (.BoolOp .Or [.Compare (.Call (.Name "_law_marks" p1) [.Name "e" p2] [] p3) [.NotEq] [.Constant (.str "text") j p4] p5, .UnaryOp .Not (.Call (.Name "_law_whole" p6) [.Attribute (.Name "e" p7) "at" p8] [] p9) p10] p11) [.Return (some (.Constant .none j2 p12)) p13] [] p14, .Return (some (.Attribute (.Name "e" p15) "at" p16)) p17] p18] [] [] pos) (dTryA x b) := by
  intro X Φ B F H ρ σ D W C BO bo hK T R hq
  have hx : x ∈ Γ.ini := by simpa using hi
  obtain ⟨⟨cl, f, fd, mx, oc, _, _, _, _, xf, hno, fM, fW, Rk, dM, dW, mM, kM, bM, FM, mW, kW, bW, FW, mR, ex⟩, _, room⟩ := C.ini x hx
  have nd : X.N.Nodup := by rw [C.nm]; exact C.nd
  have iN : X.N[i]? = some ("e" : Str) := by rw [C.nm]; exact hN
  have il : X.env.scope.names.lookup ("e" : Str) = some .local := by rw [C.sc]; exact hl
  refine PS.w (L2N.ps_try_as (i := i) (tb := fun W' D σ H => ∃ (B : Bd) (F : Hp) (ρ : Env), BdOk Γ B ∧ B.K = X.K ∧ Rel B F H ρ σ ∧ (b Φ ρ).wp (StP B F D) (ExS X B F W'))
    (ts := fun a cls d D σ H => ∃ (dd : Addr) (k : Int), d = some dd ∧ cls = .ref cl ∧ H dd = some (.xd [("at", .int k)]) ∧ (∃ σ0 : St, σ = σ0.set i (some (.ref a))) ∧ ∀ H', Ex H H' → D.rt (.int k) H')
    BO.stk.1 BO.stk.2 nd iN il ⟨gl_of C g1, by decide, .inl mR⟩ T (fun W' pn xe tk hp => ⟨fun pins s σ H D I h => ?_⟩) fun a oe cls d pn hz hf => ⟨fun pins s σ H D I h => ?_⟩) ?_
  · obtain ⟨B', F', ρ', bo', hK', R', h⟩ := h
    have C' : CtxOk Γ Φ (X.tr pn xe) := ⟨C.nm, C.sc, C.nd, C.calm, C.room, C.grd, C.fns, C.gints, C.gstrs, C.blt, C.exs, C.hot, C.dk, C.ini⟩
    have BO' : BodyOk (X.tr pn xe) := ⟨BO.fn, BO.fk, hp, BO.stk⟩
    exact hb (X.tr pn xe) Φ B' F' H ρ' σ D W' C' BO' bo' hK' tk R' h pins s I
  · obtain ⟨dd, k, hd, hc, at_, ⟨σ0, hσ⟩, good⟩ := h
    subst hσ hd hc
    obtain ⟨vs, hv⟩ := hf
    have len : i < σ0.length := by
      have := I.len
      rw [List.length_set] at this
      have hi := (List.getElem?_eq_some_iff.mp iN).1
      have e : (X.suite a ((a, oe) :: pn)).N = X.N := rfl
      rw [e] at this
      omega
    have e0 : (σ0.set i (some (V.ref a)))[i]? = some (some (.ref a)) := by rw [List.getElem?_set_self len]
    have hot : L2H.Hot1 (X.suite a ((a, oe) :: pn)).A (a, oe) := ⟨rfl, vs, hv, hz.2.2 vs hv⟩
    have r1 : L2H.RoomH 1 (X.suite a ((a, oe) :: pn)).A := ⟨(room.mono (by decide : 1 ≤ 2)).dp, (room.mono (by decide : 1 ≤ 2)).un⟩
    have ev : ∀ {q : Pos}, PE (X.suite a ((a, oe) :: pn)) (.Name "e" q) (tVar i) := fun {q} => pe_var iN (.inl il) (by decide) (by decide)
    have fld : ∀ {q q' : Pos}, PE (X.suite a ((a, oe) :: pn)) (.Attribute (.Name "e" q) "at" q') (tXf a (.ref cl) (some dd) cl "at" (tVar i)) := fun {q q'} => pe_xf xf hno hz.zc ⟨vs, hv⟩ ev
    have see : ∀ {H1 : Hp} {Q : VK}, Ex H H1 → Q (.int k) H1 → tXf a (.ref cl) (some dd) cl "at" (tVar i) (σ0.set i (some (.ref a))) H1 Q := fun {H1 Q} e q => ⟨_, e0, rfl, rfl, dd, _, _, rfl, e _ _ at_, rfl, q⟩
    refine (PSs.w (pss_cons (ps_if (PW.pt (pw_or (pt_cmpR op_ne pe_w pe_w rfl) (pw_or1 (pt_not (pt_val pe_w))))) pss_w pss_nil) (pss_one (ps_ret fld))) ?_ : wSs (X.suite a ((a, oe) :: pn)) _ D _ H) pins s I
    have gM : Gl X "_law_marks" := gl_of C g2
    have gW : Gl X "_law_whole" := gl_of C g3
    refine hot_call (ps := ["e"]) (q := (a, oe)) List.mem_cons_self gM mM kM bM (by decide) (pa_cons ev pa_nil) rfl rfl ⟨_, e0, rfl, fun s1 us pin env0 b rel => ?_⟩
    match us, rel with
    | [u], .cons ru .nil =>
      have eu : u = .ref a := ru
      subst eu
      obtain ⟨od, hod⟩ := objOk_get (env0.hok dd _ at_)
      refine FM _ _ s1 H (a, oe) ⟨[.ref a], []⟩ _ _ dd od r1 hot pin env0 b hz.1 hz.2.1 hod ⟨vs, hv⟩ fun H1 x1 => ?_
      refine PE.w pe_str ⟨rfl, false, rfl, iteF ?_⟩
      refine hot_call (ps := ["thing"]) (q := (a, oe)) List.mem_cons_self gW mW kW bW (by decide) (pa_cons fld pa_nil) rfl rfl (see x1 ⟨rfl, fun s2 us2 pin2 env2 b2 rel2 => ?_⟩)
      match us2, rel2 with
      | [u2], .cons ru2 .nil =>
        refine FW _ _ s2 H1 (a, oe) ⟨[u2], []⟩ _ _ k u2 r1 hot pin2 env2 ru2 b2 fun H2 x2 => ⟨true, rfl, iteF ?_⟩
        exact see (x1.trans x2) (good H2 (x1.trans x2))
  · refine ⟨B, F, ρ, bo, hK, R, ?_⟩
    have q : (dTryA x b Φ ρ).wp (StP B F D) (ExS X B F W) := hq
    unfold dTryA at q
    cases e : b Φ ρ with
    | ok r => rw [e] at q; exact q
    | stuck => rw [e] at q; exact q.elim
    | any _ => rw [e] at q; exact q.elim
    | exs _ _ => rw [e] at q; exact q.elim
    | exc y =>
      rw [e] at q
      obtain ⟨xc, xa⟩ := y
      by_cases c : xc = x
      · subst c
        simp only [if_true] at q
        cases xa with
        | none => exact q.elim
        | some v =>
          cases v with
          | int k =>
            intro σ' F' H' cls d kp ef m
            obtain ⟨m1, dd, u, h1, h2, h3⟩ := m
            have m1 : X.mg xc = some cls := m1
            rw [mx] at m1
            obtain rfl : Value.ref cl = cls := Option.some.inj m1
            cases h3
            exact ⟨true, ex, fun _ a na => ⟨dd, k, h1, rfl, h2, ⟨σ', rfl⟩, fun H2 e2 => q σ (.int k) F' H2 ⟨kp.grow e2, R.sl.thin ef⟩ ef (.int k)⟩, fun z => nomatch z⟩
          | _ => exact q.elim
      · simp only [if_neg c] at q
        exact q.elim
end Dn

set_option maxHeartbeats 0
/-! the text of k06, printed by gen.py -/
namespace Dn.M06
open PySem PySem.Spec L2
open PyProof.Rows hiding St
def topS (i : Nat) : Stmt := PySem.Challenge.pw_rowsorder_k06_texts_refused.main.body.getD i (.Pass ⟨0, 0, 0, 0⟩)
def fns : List (Str × Nat) := (("is_whole", 1) :: ("is_many", 1) :: ("is_pair", 2) :: ("follows", 1) :: ("is_order", 1) :: ("need_order", 1) :: ("closed", 2) :: ("is_next", 3) :: ("next_pairs", 1) :: ("pair_in", 2) :: ("read_order", 1) :: ("_law_cell", 2) :: ("_law_mix", 2) :: ("_law_box", 2) :: ("_law_take", 2) :: ("_law_whole", 1) :: ("_law_odd", 1) :: ("_law_mixed_up", 2) :: ("_law_closed", 1) :: ("_law_order", 2) :: ("_law_next", 2) :: ("_law_read", 1) :: ("_law_said", 1) :: ("_law_bent", 2) :: ("law", 1) :: [])
def gis : List (Str × Int) := [("MOST_THINGS", 8)]
def gss : List (Str × Str) := [("FIGURES", "0123456789")]
def bls : List Str := ["ValueError", "abs", "all", "any", "bool", "divmod", "enumerate", "int", "isinstance", "len", "list", "max", "min", "range", "repr", "set", "sorted", "str", "tuple"]
def dks : List (Str × Nat × Option Str) := []
def inis : List Str := ["NoText"]
def exs : List (Str × Str) := [("NoOrder", "order")]
theorem sc_marks : FnScope marksN ["e"] (defScope (topS 39)) := ⟨rfl, rfl, rfl, by decide +kernel, rfl, by decide +kernel, by decide +kernel⟩
theorem exs_say : ∀ p ∈ exs, markOf (asks.map fun x => decide (x = p.1)) words = p.2 := by decide +kernel
theorem mk_body : MkBody (topS 39) := fun X a D nm σ H D0 hN hsc hfn hh kn e0 el good => @marks_st X a D σ H _ _ _ _ _ _ _ _ _ _ _ _ _ _ _ _ _ _ _ _ _ _ _ _ _ _ _ _ _ _ _ _ _ _ _ _ _ _ _ _ _ _ _ _ _ _ _ _ _ _ _ _ _ _ _ _ _ _ _ _ _ _ _ _ _ _ _ _ _ _ _ _ _ _ _ _ _ _ _ _ _ _ _ _ _ _ _ _ _ _ _ _ _ _ _ _ _ _ _ _ _ _ _ _ _ _ _ _ _ _ _ _ _ _ _ _ _ _ _ _ _ _ _ _ nm D0 hsc (by decide +kernel) hN hfn hh kn (by decide +kernel) (by decide +kernel) e0 el good
def c_is_whole : Ctx := ⟨["thing"], defScope (topS 16), 1, fns, gis, gss, bls, exs, dks, inis⟩
def b_is_whole : DenS := dRet (dAnd (dP (pIs "int") (osCons (oVar 0) (osNil))) (dNot (dP (pIs "bool") (osCons (oVar 0) (osNil)))))
def c_is_many : Ctx := ⟨["thing"], defScope (topS 17), 1, fns, gis, gss, bls, exs, dks, inis⟩
def b_is_many : DenS := dRet (dAnd (dCall "is_whole" 1 (asVar 0 (asNil))) (dCh (fun i j => decide (i ≤ j)) (fun i j => decide (i ≤ j)) (oOf (dLit (.int 1))) (oVar 0) (oOf (dLit (.int 8)))))
def c_is_pair : Ctx := ⟨["many", "thing", "one"], defScope (topS 18), 2, fns, gis, gss, bls, exs, dks, inis⟩
def b_is_pair : DenS := dSeq (dIfS (dOr (dNot (dP (pIs "tuple") (osCons (oVar 1) (osNil)))) (dP pNe (osCons (oOf (dP pLen (osCons (oVar 1) (osNil)))) (osCons (oOf (dLit (.int 2))) (osNil)))))
  (dRet (dLit (.bool false)))
  (dSkip))
  (dRet (dP pAll (osCons (oOf (dLc (.nm 2) (iSeq (oOf (dVar 1))) (dYes) (dAnd (dCall "is_whole" 1 (asVar 2 (asNil))) (dCh (fun i j => decide (i ≤ j)) (fun i j => decide (i < j)) (oOf (dLit (.int 0))) (oVar 2) (oVar 0))) [2])) (osNil))))
def c_follows : Ctx := ⟨["pairs", "a", "b", "c", "d"], defScope (topS 19), 1, fns, gis, gss, bls, exs, dks, inis⟩
def b_follows : DenS := dSeq (dFor (.tp [1, 2]) (iSeq (oOf (dVar 0)))
  (dSeq (dIfS (dP pEq (osCons (oVar 1) (osCons (oVar 2) (osNil))))
  (dRet (dLit (.bool false)))
  (dSkip))
  (dFor (.tp [3, 4]) (iSeq (oOf (dVar 0)))
  (dIfS (dAnd (dP pEq (osCons (oVar 2) (osCons (oVar 3) (osNil)))) (dP pNin (osCons (oOf (dTup (fsCons (dVar 1) (fsCons (dVar 4) (fsNil))))) (osCons (oVar 0) (osNil)))))
  (dRet (dLit (.bool false)))
  (dSkip)))))
  (dRet (dLit (.bool true)))
def c_is_order : Ctx := ⟨["thing", "many", "pairs", "pair"], defScope (topS 20), 1, fns, gis, gss, bls, exs, dks, inis⟩
def b_is_order : DenS := dSeq (dIfS (dOr (dNot (dP (pIs "tuple") (osCons (oVar 0) (osNil)))) (dOr (dP pNe (osCons (oOf (dP pLen (osCons (oVar 0) (osNil)))) (osCons (oOf (dLit (.int 2))) (osNil)))) (dOr (dNot (dCall "is_many" 1 (asExp (dP pIx (osCons (oVar 0) (osCons (oOf (dLit (.int 0))) (osNil)))) (asNil)))) (dNot (dP (pIs "tuple") (osCons (oOf (dP pIx (osCons (oVar 0) (osCons (oOf (dLit (.int 1))) (osNil))))) (osNil)))))))
  (dRet (dLit (.bool false)))
  (dSkip))
  (dSeq (dUnp [1, 2] (dVar 0))
  (dSeq (dIfS (dNot (dP pAll (osCons (oOf (dLc (.nm 3) (iSeq (oOf (dVar 2))) (dYes) (dCall "is_pair" 2 (asVar 1 (asVar 3 (asNil)))) [3])) (osNil))))
  (dRet (dLit (.bool false)))
  (dSkip))
  (dRet (dAnd (dP pEq (osCons (oOf (dP pListOf (osCons (oVar 2) (osNil)))) (osCons (oOf (dSS (oVar 2))) (osNil)))) (dCall "follows" 1 (asVar 2 (asNil)))))))
def c_need_order : Ctx := ⟨["order"], defScope (topS 21), 1, fns, gis, gss, bls, exs, dks, inis⟩
def b_need_order : DenS := dIfS (dNot (dCall "is_order" 1 (asVar 0 (asNil))))
  (dRaise "NoOrder")
  (dSkip)
def c_closed : Ctx := ⟨["many", "pairs", "found", "middle", "more", "a", "b", "c", "d"], defScope (topS 22), 2, fns, gis, gss, bls, exs, dks, inis⟩
def b_closed : DenS := dSeq (dSet 2 (dSS (oVar 1)))
  (dSeq (dFor (.nm 3) (iR1 (oVar 0))
  (dSeq (dSet 4 (dLst (fsNil)))
  (dSeq (dFor (.tp [5, 6]) (iSeq (oOf (dVar 2)))
  (dIfS (dP pEq (osCons (oVar 6) (osCons (oVar 3) (osNil))))
  (dDo (dMut 4 mExtend (fsCons (dLc (.tp [7, 8]) (iSeq (oOf (dVar 2))) (dP pEq (osCons (oVar 7) (osCons (oVar 3) (osNil)))) (dTup (fsCons (dVar 5) (fsCons (dVar 8) (fsNil)))) [7, 8]) (fsNil))))
  (dSkip)))
  (dSet 2 (dSS (oOf (dP pAdd (osCons (oVar 2) (osCons (oVar 4) (osNil))))))))))
  (dRet (dP pTupOf (osCons (oVar 2) (osNil)))))
def c_is_next : Ctx := ⟨["order", "a", "b", "c"], defScope (topS 23), 3, fns, gis, gss, bls, exs, dks, inis⟩
def b_is_next : DenS := dRet (dNot (dP pAny (osCons (oOf (dLc (.nm 3) (iR1 (oOf (dP pIx (osCons (oVar 0) (osCons (oOf (dLit (.int 0))) (osNil)))))) (dYes) (dAnd (dP pIn (osCons (oOf (dTup (fsCons (dVar 1) (fsCons (dVar 3) (fsNil))))) (osCons (oOf (dP pIx (osCons (oVar 0) (osCons (oOf (dLit (.int 1))) (osNil))))) (osNil)))) (dP pIn (osCons (oOf (dTup (fsCons (dVar 3) (fsCons (dVar 2) (fsNil))))) (osCons (oOf (dP pIx (osCons (oVar 0) (osCons (oOf (dLit (.int 1))) (osNil))))) (osNil))))) [3])) (osNil))))
def c_next_pairs : Ctx := ⟨["order", "a", "b"], defScope (topS 24), 1, fns, gis, gss, bls, exs, dks, inis⟩
def b_next_pairs : DenS := dSeq (dDo (dCall "need_order" 1 (asVar 0 (asNil))))
  (dRet (dLc (.tp [1, 2]) (iSeq (oOf (dP pIx (osCons (oVar 0) (osCons (oOf (dLit (.int 1))) (osNil)))))) (dCall "is_next" 3 (asVar 0 (asVar 1 (asVar 2 (asNil))))) (dTup (fsCons (dVar 1) (fsCons (dVar 2) (fsNil)))) [1, 2]))
def c_pair_in : Ctx := ⟨["word", "many", "pair"], defScope (topS 27), 2, fns, gis, gss, bls, exs, dks, inis⟩
def b_pair_in : DenS := dSeq (dIfS (dOr (dP pNe (osCons (oOf (dP pLen (osCons (oVar 0) (osNil)))) (osCons (oOf (dLit (.int 3))) (osNil)))) (dOr (dP pNe (osCons (oOf (dP pIx (osCons (oVar 0) (osCons (oOf (dLit (.int 1))) (osNil))))) (osCons (oOf (dLit (.str "<"))) (osNil)))) (dOr (dP pNinS (osCons (oOf (dP pIx (osCons (oVar 0) (osCons (oOf (dLit (.int 0))) (osNil))))) (osCons (oOf (dLit (.str "0123456789"))) (osNil)))) (dP pNinS (osCons (oOf (dP pIx (osCons (oVar 0) (osCons (oOf (dLit (.int 2))) (osNil))))) (osCons (oOf (dLit (.str "0123456789"))) (osNil)))))))
  (dRet (dLit .none))
  (dSkip))
  (dSeq (dSet 2 (dTup (fsCons (dP pIntS (osCons (oOf (dP pIx (osCons (oVar 0) (osCons (oOf (dLit (.int 0))) (osNil))))) (osNil))) (fsCons (dP pIntS (osCons (oOf (dP pIx (osCons (oVar 0) (osCons (oOf (dLit (.int 2))) (osNil))))) (osNil))) (fsNil)))))
  (dSeq (dIfS (dOr (dP pEq (osCons (oOf (dP pIx (osCons (oVar 2) (osCons (oOf (dLit (.int 0))) (osNil))))) (osCons (oOf (dP pIx (osCons (oVar 2) (osCons (oOf (dLit (.int 1))) (osNil))))) (osNil)))) (dP pGe (osCons (oOf (dP pMaxT (osCons (oVar 2) (osNil)))) (osCons (oVar 1) (osNil)))))
  (dRet (dLit .none))
  (dSkip))
  (dRetV 2)))
def c_read_order : Ctx := ⟨["text", "words", "many", "pairs", "at", "found", "pair", "a", "b"], defScope (topS 28), 1, fns, gis, gss, bls, exs, dks, inis⟩
def b_read_order : DenS := dSeq (dIfS (dNot (dP (pIs "str") (osCons (oVar 0) (osNil))))
  (dRaiseV "NoText" (oOf (dLit (.int 0))))
  (dSkip))
  (dSeq (dSet 1 (dM "str" pSplit (oVar 0) (osCons (oOf (dLit (.str " "))) (osNil))))
  (dSeq (dIfS (dOr (dP pNe (osCons (oOf (dP pLen (osCons (oOf (dP pIx (osCons (oVar 1) (osCons (oOf (dLit (.int 0))) (osNil))))) (osNil)))) (osCons (oOf (dLit (.int 1))) (osNil)))) (dOr (dP pNinS (osCons (oOf (dP pIx (osCons (oVar 1) (osCons (oOf (dLit (.int 0))) (osNil))))) (osCons (oOf (dLit (.str "0123456789"))) (osNil)))) (dNot (dCh (fun i j => decide (i ≤ j)) (fun i j => decide (i ≤ j)) (oOf (dLit (.int 1))) (oOf (dP pIntS (osCons (oOf (dP pIx (osCons (oVar 1) (osCons (oOf (dLit (.int 0))) (osNil))))) (osNil)))) (oOf (dLit (.int 8)))))))
  (dRaiseV "NoText" (oOf (dLit (.int 0))))
  (dSkip))
  (dSeq (dSet 2 (dP pIntS (osCons (oOf (dP pIx (osCons (oVar 1) (osCons (oOf (dLit (.int 0))) (osNil))))) (osNil))))
  (dSeq (dSet 3 (dLst (fsNil)))
  (dSeq (dFor (.nm 4) (iR2 (oOf (dLit (.int 1))) (oOf (dP pLen (osCons (oVar 1) (osNil)))))
  (dSeq (dSet 6 (dCall "pair_in" 2 (asExp (dP pIx (osCons (oVar 1) (osCons (oVar 4) (osNil)))) (asVar 2 (asNil)))))
  (dSeq (dIfS (dOr (dP pIsN (osCons (oVar 6) (osCons (oOf (dLit .none)) (osNil)))) (dAnd (dP pNe (osCons (oVar 3) (osCons (oOf (dLst (fsNil))) (osNil)))) (dP pLeT (osCons (oVar 6) (osCons (oOf (dP pIx (osCons (oVar 3) (osCons (oOf (dP pNeg (osCons (oOf (dLit (.int 1))) (osNil)))) (osNil))))) (osNil))))))
  (dRaiseV "NoText" (oOf (dVar 4)))
  (dSkip))
  (dDo (dMut 3 mAppend (fsCons (dVar 6) (fsNil)))))))
  (dSeq (dSet 5 (dCall "closed" 2 (asVar 2 (asVar 3 (asNil)))))
  (dSeq (dIfS (dOr (dP pNe (osCons (oOf (dLc (.tp [7, 8]) (iSeq (oOf (dVar 5))) (dP pEq (osCons (oVar 7) (osCons (oVar 8) (osNil)))) (dVar 7) [7, 8])) (osCons (oOf (dLst (fsNil))) (osNil)))) (dP pNe (osCons (oOf (dCall "next_pairs" 1 (asExp (dTup (fsCons (dVar 2) (fsCons (dVar 5) (fsNil)))) (asNil)))) (osCons (oVar 3) (osNil)))))
  (dRaiseV "NoText" (oOf (dP pLen (osCons (oVar 1) (osNil)))))
  (dSkip))
  (dRet (dTup (fsCons (dVar 2) (fsCons (dVar 5) (fsNil))))))))))))
def c__law_cell : Ctx := ⟨["script", "k"], defScope (topS 30), 2, fns, gis, gss, bls, exs, dks, inis⟩
def b__law_cell : DenS := dSeq (dIfS (dP pLt (osCons (oVar 1) (osCons (oOf (dScrLen 0)) (osNil))))
  (dRet (dScrAt 0 (oVar 1)))
  (dSkip))
  (dRet (dLit (.int 0)))
def c__law_mix : Ctx := ⟨["cell", "k", "some", "stir"], defScope (topS 31), 2, fns, gis, gss, bls, exs, dks, inis⟩
def b__law_mix : DenS := dSeq (dSet 2 (dConst (.list [(.int 48271), (.int 69621), (.int 16807), (.int 39373), (.int 30269), (.int 40014), (.int 40692), (.int 50021), (.int 61687), (.int 71993), (.int 83869), (.int 95561), (.int 30307)])))
  (dSeq (dSet 3 (dP pAdd (osCons (oOf (dP pAdd (osCons (oOf (dP pMul (osCons (oOf (dP pAdd (osCons (oOf (dP pMod (osCons (oVar 0) (osCons (oOf (dLit (.int 2147483647))) (osNil))))) (osCons (oOf (dLit (.int 12345))) (osNil))))) (osCons (oOf (dP pIx (osCons (oVar 2) (osCons (oOf (dP pMod (osCons (oVar 1) (osCons (oOf (dLit (.int 13))) (osNil))))) (osNil))))) (osNil))))) (osCons (oOf (dP pMul (osCons (oOf (dLit (.int 977))) (osCons (oVar 1) (osNil))))) (osNil))))) (osCons (oOf (dP pMul (osCons (oOf (dLit (.int 7919))) (osCons (oOf (dP pDiv (osCons (oVar 1) (osCons (oOf (dLit (.int 13))) (osNil))))) (osNil))))) (osNil)))))
  (dSeq (dSet 3 (dP pMod (osCons (oVar 3) (osCons (oOf (dLit (.int 1000000007))) (osNil)))))
  (dRet (dP pDiv (osCons (oOf (dP pMod (osCons (oOf (dP pAdd (osCons (oOf (dP pMul (osCons (oVar 3) (osCons (oVar 3) (osNil))))) (osCons (oOf (dP pMul (osCons (oOf (dLit (.int 48271))) (osCons (oVar 1) (osNil))))) (osNil))))) (osCons (oOf (dLit (.int 1000000007))) (osNil))))) (osCons (oOf (dLit (.int 7))) (osNil)))))))
def c__law_box : Ctx := ⟨["script", "k", "cell", "number", "j"], defScope (topS 32), 2, fns, gis, gss, bls, exs, dks, inis⟩
def b__law_box : DenS := dSeq (dSet 2 (dCall "_law_cell" 2 (asVar 0 (asVar 1 (asNil)))))
  (dSeq (dIfS (dP pEq (osCons (oOf (dP pMod (osCons (oVar 2) (osCons (oOf (dLit (.int 2))) (osNil))))) (osCons (oOf (dLit (.int 0))) (osNil))))
  (dRet (dLst (fsCons (dP pDiv (osCons (oOf (dP pAbs (osCons (oVar 2) (osNil)))) (osCons (oOf (dLit (.int 2))) (osNil)))) (fsNil))))
  (dSkip))
  (dSeq (dSet 3 (dLit (.int 0)))
  (dSeq (dFor (.nm 4) (iR1 (oOf (dLit (.int 40))))
  (dSet 3 (dP pAdd (osCons (oOf (dP pMul (osCons (oVar 3) (osCons (oOf (dLit (.int 142857143))) (osNil))))) (osCons (oOf (dCall "_law_mix" 2 (asVar 2 (asVar 4 (asNil))))) (osNil))))))
  (dRet (dLst (fsCons (dVar 3) (fsNil)))))))
def c__law_take : Ctx := ⟨["box", "many", "left", "digit"], defScope (topS 33), 2, fns, gis, gss, bls, exs, dks, inis⟩
def b__law_take : DenS := dSeq (dUnp [2, 3] (dP pDvm (osCons (oOf (dP pIx (osCons (oVar 0) (osCons (oOf (dLit (.int 0))) (osNil))))) (osCons (oVar 1) (osNil)))))
  (dSeq (dSetIx 0 (oOf (dLit (.int 0))) (dVar 2))
  (dRetV 3))
def c__law_whole : Ctx := ⟨["thing"], defScope (topS 34), 1, fns, gis, gss, bls, exs, dks, inis⟩
def b__law_whole : DenS := dRet (dAnd (dP (pIs "int") (osCons (oVar 0) (osNil))) (dNot (dP (pIs "bool") (osCons (oVar 0) (osNil)))))
def c__law_odd : Ctx := ⟨["box", "some"], defScope (topS 35), 1, fns, gis, gss, bls, exs, dks, inis⟩
def b__law_odd : DenS := dSeq (dSet 1 (dConst (.list [.none, (.bool true), (.bool false), (.int (-1)), (.int 0), (.int 1), (.str ""), (.str "1"), (.tuple []), (.list []), (.tuple [(.int 0)]), (.tuple [(.int 1), (.tuple [])]), (.list [(.int 0)])])))
  (dSeq (dSet 1 (dP pAdd (osCons (oVar 1) (osCons (oOf (dConst (.list [(.dict [(.str "a", .int 1)]), (.tuple [(.int 0), (.int 1)]), (.int 1000000000000000000000000000000000000000), (.tuple [(.tuple [(.int 0), (.int 1)])]), (.str "a")]))) (osNil)))))
  (dRet (dP pIx (osCons (oOf (dVar 1)) (osCons (oOf (dCall "_law_take" 2 (asVar 0 (asExp (dLit (.int 18)) (asNil))))) (osNil))))))
def c__law_mixed_up : Ctx := ⟨["box", "some", "left", "found"], defScope (topS 36), 2, fns, gis, gss, bls, exs, dks, inis⟩
def b__law_mixed_up : DenS := dSeq (dSet 2 (dP pListOf (osCons (oVar 1) (osNil))))
  (dSeq (dSet 3 (dLst (fsNil)))
  (dSeq (dWhile (dP pNe (osCons (oVar 2) (osCons (oOf (dLst (fsNil))) (osNil))))
  (dDo (dMut 3 mAppend (fsCons (dMut 2 mPopAt (fsCons (dCall "_law_take" 2 (asVar 0 (asExp (dP pLen (osCons (oVar 2) (osNil))) (asNil)))) (fsNil))) (fsNil)))))
  (dRetV 3)))
def c__law_closed : Ctx := ⟨["pairs", "found", "size", "more", "a", "b", "c", "d"], defScope (topS 37), 1, fns, gis, gss, bls, exs, dks, inis⟩
def b__law_closed : DenS := dSeq (dSet 1 (dSS (oVar 0)))
  (dSeq (dSet 2 (dP pNeg (osCons (oOf (dLit (.int 1))) (osNil))))
  (dSeq (dWhile (dP pNe (osCons (oVar 2) (osCons (oOf (dP pLen (osCons (oVar 1) (osNil)))) (osNil))))
  (dSeq (dSet 2 (dP pLen (osCons (oVar 1) (osNil))))
  (dSeq (dSet 3 (dLst (fsNil)))
  (dSeq (dFor (.tp [4, 5]) (iSeq (oOf (dVar 1)))
  (dSet 3 (dP pAdd (osCons (oVar 3) (osCons (oOf (dLc (.tp [6, 7]) (iSeq (oOf (dVar 1))) (dP pEq (osCons (oVar 6) (osCons (oVar 5) (osNil)))) (dTup (fsCons (dVar 4) (fsCons (dVar 7) (fsNil)))) [6, 7])) (osNil))))))
  (dSet 1 (dSS (oOf (dP pAdd (osCons (oVar 1) (osCons (oVar 3) (osNil)))))))))))
  (dRet (dP pTupOf (osCons (oVar 1) (osNil))))))
def c__law_order : Ctx := ⟨["box", "most", "many", "names", "thin", "pairs", "i", "j"], defScope (topS 38), 2, fns, gis, gss, bls, exs, dks, inis⟩
def b__law_order : DenS := dSeq (dSet 2 (dP pAdd (osCons (oOf (dLit (.int 1))) (osCons (oOf (dCall "_law_take" 2 (asVar 0 (asVar 1 (asNil))))) (osNil)))))
  (dSeq (dSet 3 (dCall "_law_mixed_up" 2 (asVar 0 (asExp (dListR (iR1 (oVar 2))) (asNil)))))
  (dSeq (dSet 4 (dP pIx (osCons (oOf (dLst (fsCons (dLit (.int 2)) (fsCons (dLit (.int 3)) (fsCons (dLit (.int 4)) (fsCons (dLit (.int 7)) (fsNil))))))) (osCons (oOf (dCall "_law_take" 2 (asVar 0 (asExp (dLit (.int 4)) (asNil))))) (osNil)))))
  (dSeq (dSet 5 (dLst (fsNil)))
  (dSeq (dFor (.nm 6) (iR1 (oVar 2))
  (dFor (.nm 7) (iR2 (oOf (dP pAdd (osCons (oVar 6) (osCons (oOf (dLit (.int 1))) (osNil))))) (oVar 2))
  (dIfS (dP pEq (osCons (oOf (dCall "_law_take" 2 (asVar 0 (asVar 4 (asNil))))) (osCons (oOf (dLit (.int 0))) (osNil))))
  (dDo (dMut 5 mAppend (fsCons (dTup (fsCons (dP pIx (osCons (oVar 3) (osCons (oVar 6) (osNil)))) (fsCons (dP pIx (osCons (oVar 3) (osCons (oVar 7) (osNil)))) (fsNil)))) (fsNil))))
  (dSkip))))
  (dRet (dTup (fsCons (dVar 2) (fsCons (dCall "_law_closed" 1 (asVar 5 (asNil))) (fsNil)))))))))
def c__law_next : Ctx := ⟨["many", "pairs", "found", "a", "b", "c"], defScope (topS 40), 2, fns, gis, gss, bls, exs, dks, inis⟩
def b__law_next : DenS := dSeq (dSet 2 (dLst (fsNil)))
  (dSeq (dFor (.tp [3, 4]) (iSeq (oOf (dVar 1)))
  (dIfS (dP pEq (osCons (oOf (dLc (.nm 5) (iR1 (oVar 0)) (dAnd (dP pIn (osCons (oOf (dTup (fsCons (dVar 3) (fsCons (dVar 5) (fsNil))))) (osCons (oVar 1) (osNil)))) (dP pIn (osCons (oOf (dTup (fsCons (dVar 5) (fsCons (dVar 4) (fsNil))))) (osCons (oVar 1) (osNil))))) (dVar 5) [5])) (osCons (oOf (dLst (fsNil))) (osNil))))
  (dDo (dMut 2 mAppend (fsCons (dTup (fsCons (dVar 3) (fsCons (dVar 4) (fsNil)))) (fsNil))))
  (dSkip)))
  (dRetV 2))
def c__law_read : Ctx := ⟨["text", "words", "many", "pairs", "at", "word", "every", "pair", "a", "b"], defScope (topS 41), 1, fns, gis, gss, bls, exs, dks, inis⟩
def b__law_read : DenS := dSeq (dSet 1 (dM "str" pSplit (oVar 0) (osCons (oOf (dLit (.str " "))) (osNil))))
  (dSeq (dIfS (dP pNin (osCons (oOf (dP pIx (osCons (oVar 1) (osCons (oOf (dLit (.int 0))) (osNil))))) (osCons (oOf (dConst (.list [(.str "1"), (.str "2"), (.str "3"), (.str "4"), (.str "5"), (.str "6"), (.str "7"), (.str "8")]))) (osNil))))
  (dRet (dLit (.int 0)))
  (dSkip))
  (dSeq (dSet 2 (dP pIntS (osCons (oOf (dP pIx (osCons (oVar 1) (osCons (oOf (dLit (.int 0))) (osNil))))) (osNil))))
  (dSeq (dSet 3 (dLst (fsNil)))
  (dSeq (dFor (.tp [4, 5]) (iEnumD (dVar 1))
  (dIfS (dP pGt (osCons (oVar 4) (osCons (oOf (dLit (.int 0))) (osNil))))
  (dSeq (dIfS (dOr (dP pNe (osCons (oOf (dP pLen (osCons (oVar 5) (osNil)))) (osCons (oOf (dLit (.int 3))) (osNil)))) (dOr (dP pNe (osCons (oOf (dP pIx (osCons (oVar 5) (osCons (oOf (dLit (.int 1))) (osNil))))) (osCons (oOf (dLit (.str "<"))) (osNil)))) (dOr (dP pNinS (osCons (oOf (dP pIx (osCons (oVar 5) (osCons (oOf (dLit (.int 0))) (osNil))))) (osCons (oOf (dLit (.str "0123456789"))) (osNil)))) (dP pNinS (osCons (oOf (dP pIx (osCons (oVar 5) (osCons (oOf (dLit (.int 2))) (osNil))))) (osCons (oOf (dLit (.str "0123456789"))) (osNil)))))))
  (dRetV 4)
  (dSkip))
  (dSeq (dSet 7 (dTup (fsCons (dP pIntS (osCons (oOf (dP pIx (osCons (oVar 5) (osCons (oOf (dLit (.int 0))) (osNil))))) (osNil))) (fsCons (dP pIntS (osCons (oOf (dP pIx (osCons (oVar 5) (osCons (oOf (dLit (.int 2))) (osNil))))) (osNil))) (fsNil)))))
  (dSeq (dIfS (dOr (dP pEq (osCons (oOf (dP pIx (osCons (oVar 7) (osCons (oOf (dLit (.int 0))) (osNil))))) (osCons (oOf (dP pIx (osCons (oVar 7) (osCons (oOf (dLit (.int 1))) (osNil))))) (osNil)))) (dOr (dP pGe (osCons (oOf (dP pMaxT (osCons (oVar 7) (osNil)))) (osCons (oVar 2) (osNil)))) (dAnd (dP pNe (osCons (oVar 3) (osCons (oOf (dLst (fsNil))) (osNil)))) (dP pLeT (osCons (oVar 7) (osCons (oOf (dP pIx (osCons (oVar 3) (osCons (oOf (dP pNeg (osCons (oOf (dLit (.int 1))) (osNil)))) (osNil))))) (osNil)))))))
  (dRetV 4)
  (dSkip))
  (dDo (dMut 3 mAppend (fsCons (dVar 7) (fsNil)))))))
  (dSkip)))
  (dSeq (dSet 6 (dCall "_law_closed" 1 (asVar 3 (asNil))))
  (dSeq (dIfS (dOr (dP pNe (osCons (oOf (dLc (.tp [8, 9]) (iSeq (oOf (dVar 6))) (dP pEq (osCons (oVar 8) (osCons (oVar 9) (osNil)))) (dVar 8) [8, 9])) (osCons (oOf (dLst (fsNil))) (osNil)))) (dP pNe (osCons (oOf (dCall "_law_next" 2 (asVar 2 (asVar 6 (asNil))))) (osCons (oVar 3) (osNil)))))
  (dRet (dP pLen (osCons (oVar 1) (osNil))))
  (dSkip))
  (dRet (dTup (fsCons (dVar 2) (fsCons (dVar 6) (fsNil)))))))))))
def c__law_said : Ctx := ⟨["text", "e"], defScope (topS 42), 1, fns, gis, gss, bls, exs, dks, inis⟩
def b__law_said : DenS := dTryA "NoText" (dRet (dCall "read_order" 1 (asVar 0 (asNil))))
def c__law_bent : Ctx := ⟨["box", "text", "words", "at", "where", "sign", "a", "b", "kind", "pair", "some"], defScope (topS 43), 2, fns, gis, gss, bls, exs, dks, inis⟩
def b__law_bent : DenS := dSeq (dSet 2 (dM "str" pSplit (oVar 1) (osCons (oOf (dLit (.str " "))) (osNil))))
  (dSeq (dSet 3 (dCall "_law_take" 2 (asVar 0 (asExp (dP pLen (osCons (oVar 2) (osNil))) (asNil)))))
  (dSeq (dSet 4 (dCall "_law_take" 2 (asVar 0 (asExp (dP pAdd (osCons (oOf (dP pLen (osCons (oVar 1) (osNil)))) (osCons (oOf (dLit (.int 1))) (osNil)))) (asNil)))))
  (dSeq (dSet 5 (dP pIx (osCons (oOf (dLit (.str "0123456789< >\n9a-.8"))) (osCons (oOf (dCall "_law_take" 2 (asVar 0 (asExp (dLit (.int 19)) (asNil))))) (osNil)))))
  (dSeq (dPar 6 7 (fsCons (dCall "_law_take" 2 (asVar 0 (asExp (dLit (.int 9)) (asNil)))) (fsCons (dCall "_law_take" 2 (asVar 0 (asExp (dLit (.int 9)) (asNil)))) (fsNil))))
  (dSeq (dSet 8 (dCall "_law_take" 2 (asVar 0 (asExp (dLit (.int 9)) (asNil)))))
  (dSeq (dIfS (dP pLt (osCons (oVar 8) (osCons (oOf (dLit (.int 3))) (osNil))))
  (dRet (dP pAdd (osCons (oOf (dP pAdd (osCons (oOf (dSl pSlc (oVar 1) (none) (some (oVar 4)))) (osCons (oOf (dP pIx (osCons (oOf (dLst (fsCons (dVar 5) (fsCons (dLit (.str "")) (fsCons (dVar 5) (fsNil)))))) (osCons (oVar 8) (osNil))))) (osNil))))) (osCons (oOf (dSl pSlc (oVar 1) (some (oOf (dP pAdd (osCons (oVar 4) (osCons (oOf (dP pInt (osCons (oOf (dP pGt (osCons (oVar 8) (osCons (oOf (dLit (.int 0))) (osNil))))) (osNil)))) (osNil)))))) (none))) (osNil)))))
  (dSkip))
  (dSeq (dSet 9 (dP pAdd (osCons (oOf (dP pAdd (osCons (oOf (dP pStrI (osCons (oVar 6) (osNil)))) (osCons (oOf (dLit (.str "<"))) (osNil))))) (osCons (oOf (dP pStrI (osCons (oVar 7) (osNil)))) (osNil)))))
  (dSeq (dSet 10 (dLst (fsCons (dP pAdd (osCons (oOf (dSl pSlc (oVar 2) (none) (some (oVar 3)))) (osCons (oOf (dSl pSlc (oVar 2) (some (oOf (dP pAdd (osCons (oVar 3) (osCons (oOf (dLit (.int 1))) (osNil)))))) (none))) (osNil)))) (fsCons (dP pAdd (osCons (oOf (dP pAdd (osCons (oOf (dSl pSlc (oVar 2) (none) (some (oVar 3)))) (osCons (oOf (dLst (fsCons (dP pIx (osCons (oVar 2) (osCons (oVar 3) (osNil)))) (fsNil)))) (osNil))))) (osCons (oOf (dSl pSlc (oVar 2) (some (oVar 3)) (none))) (osNil)))) (fsCons (dP pAdd (osCons (oOf (dSl pSlc (oVar 2) (none) (some (oVar 3)))) (osCons (oOf (dRevS (oOf (dSl pSlc (oVar 2) (some (oVar 3)) (none))))) (osNil)))) (fsNil))))))
  (dSeq (dSet 10 (dP pAdd (osCons (oVar 10) (osCons (oOf (dLst (fsCons (dP pSortS (osCons (oOf (dP pAdd (osCons (oVar 2) (osCons (oOf (dLst (fsCons (dVar 9) (fsNil)))) (osNil))))) (osNil))) (fsCons (dP pAdd (osCons (oVar 2) (osCons (oOf (dLst (fsCons (dVar 9) (fsNil)))) (osNil)))) (fsCons (dP pAdd (osCons (oOf (dSl pSlc (oVar 2) (none) (some (oOf (dLit (.int 1)))))) (osCons (oOf (dP pSortS (osCons (oOf (dP pAdd (osCons (oOf (dSl pSlc (oVar 2) (some (oOf (dLit (.int 1)))) (none))) (osCons (oOf (dLst (fsCons (dVar 9) (fsNil)))) (osNil))))) (osNil)))) (osNil)))) (fsNil)))))) (osNil)))))
  (dRet (dM "str" pJoin (oOf (dLit (.str " "))) (osCons (oOf (dP pIx (osCons (oVar 10) (osCons (oOf (dP pSub (osCons (oVar 8) (osCons (oOf (dLit (.int 3))) (osNil))))) (osNil))))) (osNil)))))))))))))
def c_law : Ctx := ⟨["script", "k", "box", "order", "text", "some", "odd", "a", "b"], defScope (topS 44), 1, fns, gis, gss, bls, exs, dks, inis⟩
def b_law : DenS := dSeq (dFor (.nm 1) (iR1 (oOf (dP pMax (osCons (oOf (dLit (.int 1))) (osCons (oOf (dP pMin (osCons (oOf (dScrLen 0)) (osCons (oOf (dLit (.int 6))) (osNil))))) (osNil))))))
  (dSeq (dSet 2 (dCall "_law_box" 2 (asVar 0 (asVar 1 (asNil)))))
  (dSeq (dSet 3 (dCall "_law_order" 2 (asVar 2 (asExp (dLit (.int 6)) (asNil)))))
  (dSeq (dSet 4 (dM "str" pJoin (oOf (dLit (.str " "))) (osCons (oOf (dP pAdd (osCons (oOf (dLst (fsCons (dP pStrI (osCons (oOf (dP pIx (osCons (oVar 3) (osCons (oOf (dLit (.int 0))) (osNil))))) (osNil))) (fsNil)))) (osCons (oOf (dLc (.tp [7, 8]) (iSeq (oOf (dCall "_law_next" 2 (asExp (dP pIx (osCons (oVar 3) (osCons (oOf (dLit (.int 0))) (osNil)))) (asExp (dP pIx (osCons (oVar 3) (osCons (oOf (dLit (.int 1))) (osNil)))) (asNil)))))) (dYes) (dP pAdd (osCons (oOf (dP pAdd (osCons (oOf (dP pStrI (osCons (oVar 7) (osNil)))) (osCons (oOf (dLit (.str "<"))) (osNil))))) (osCons (oOf (dP pStrI (osCons (oVar 8) (osNil)))) (osNil)))) [7, 8])) (osNil))))) (osNil))))
  (dSeq (dFor (.nm 5) (iSeq (oOf (dLst (fsCons (dVar 4) (fsCons (dCall "_law_bent" 2 (asVar 2 (asVar 4 (asNil)))) (fsCons (dCall "_law_bent" 2 (asVar 2 (asVar 4 (asNil)))) (fsCons (dCall "_law_bent" 2 (asVar 2 (asVar 4 (asNil)))) (fsCons (dLit (.str "")) (fsCons (dP pAdd (osCons (oVar 4) (osCons (oOf (dLit (.str " "))) (osNil)))) (fsNil))))))))))
  (dIfS (dP pNe (osCons (oOf (dP pRepr (osCons (oOf (dCall "_law_said" 1 (asExp (dVar 5) (asNil)))) (osNil)))) (osCons (oOf (dP pRepr (osCons (oOf (dCall "_law_read" 1 (asVar 5 (asNil)))) (osNil)))) (osNil))))
  (dRet (dLit (.bool false)))
  (dSkip)))
  (dSeq (dSet 6 (dCall "_law_odd" 1 (asVar 2 (asNil))))
  (dIfS (dOr (dAnd (dNot (dP (pIs "str") (osCons (oVar 6) (osNil)))) (dP pNe (osCons (oOf (dP pRepr (osCons (oOf (dCall "_law_said" 1 (asExp (dVar 6) (asNil)))) (osNil)))) (osCons (oOf (dLit (.str "0"))) (osNil))))) (dP pNe (osCons (oOf (dP pRepr (osCons (oOf (dCall "_law_said" 1 (asExp (dIce (dLst (fsCons (dVar 4) (fsNil)))) (asNil)))) (osNil)))) (osCons (oOf (dLit (.str "0"))) (osNil)))))
  (dRet (dLit (.bool false)))
  (dSkip))))))))
  (dRet (dLit (.bool true)))
abbrev SXs (Γ : Ctx) (st : List Stmt) (d : DenS) : Prop := SndXs Γ st d
theorem s_is_whole : SndSs c_is_whole (defBody (topS 16)) b_is_whole := @snd_one' _ _ _ (@snd_ret _ _ _ _ _ (@snd_and _ _ _ _ _ _ _ _ _ (@snd_isi _ _ _ _ _ _ _ _ _ (by decide +kernel) boot_int' (@snd_osCons _ _ _ _ _ _ _ _ (@snd_oVar _ _ _ _ rfl (by decide +kernel) (by decide +kernel)) (@snd_osNil _) rfl) rfl (by decide +kernel) (by decide +kernel) (by decide +kernel) (by decide +kernel) (by decide +kernel)) (@snd_one _ _ _ _ _ _ (@snd_not _ _ _ _ _ (@snd_isi _ _ _ _ _ _ _ _ _ (by decide +kernel) boot_bool' (@snd_osCons _ _ _ _ _ _ _ _ (@snd_oVar _ _ _ _ rfl (by decide +kernel) (by decide +kernel)) (@snd_osNil _) rfl) rfl (by decide +kernel) (by decide +kernel) (by decide +kernel) (by decide +kernel) (by decide +kernel))))))
theorem s_is_many : SndSs c_is_many (defBody (topS 17)) b_is_many := @snd_one' _ _ _ (@snd_ret _ _ _ _ _ (@snd_and _ _ _ _ _ _ _ _ _ (@snd_call _ _ _ _ _ _ _ _ (by decide +kernel) (@snd_asVar _ _ _ _ _ _ rfl (by decide +kernel) (by decide +kernel) (@snd_asNil _)) rfl (by decide +kernel) (by decide +kernel)) (@snd_one _ _ _ _ _ _ (@snd_chain _ _ _ _ _ _ _ _ _ _ _ _ _ _ _ _ _ _ ic_le ic_le (@snd_oOf _ _ _ _ (@snd_lit _ _ _ _ _ rfl)) (@snd_oVar _ _ _ _ rfl (by decide +kernel) (by decide +kernel)) (@snd_oOf _ _ _ _ (@snd_gint _ _ _ _ (by decide +kernel) (by decide +kernel) (by decide +kernel))) rfl))))
theorem s_is_pair : SndSs c_is_pair (defBody (topS 18)) b_is_pair := @snd_cons _ _ _ _ _ (@snd_if _ _ _ _ _ _ _ _ _ (@snd_orT _ _ _ _ _ _ _ _ _ (@snd_notT _ _ _ _ _ (@snd_plainT _ _ _ _ (@snd_isi _ _ _ _ _ _ _ _ _ (by decide +kernel) boot_tuple' (@snd_osCons _ _ _ _ _ _ _ _ (@snd_oVar _ _ _ _ rfl (by decide +kernel) (by decide +kernel)) (@snd_osNil _) rfl) rfl (by decide +kernel) (by decide +kernel) (by decide +kernel) (by decide +kernel) (by decide +kernel)) rfl)) (@snd_oneT _ _ _ _ _ _ (@t_ne _ _ _ _ _ _ (@snd_osCons _ _ _ _ _ _ _ _ (@snd_oOf _ _ _ _ (@e_len _ _ _ _ _ _ _ (@snd_osCons _ _ _ _ _ _ _ _ (@snd_oVar _ _ _ _ rfl (by decide +kernel) (by decide +kernel)) (@snd_osNil _) rfl) rfl (by decide +kernel) (by decide +kernel))) (@snd_osCons _ _ _ _ _ _ _ _ (@snd_oOf _ _ _ _ (@snd_lit _ _ _ _ _ rfl)) (@snd_osNil _) rfl) rfl) rfl)))
  (@snd_one' _ _ _ (@snd_ret _ _ _ _ _ (@snd_lit _ _ _ _ _ rfl)))
  (@snd_nil _))
  (@snd_one' _ _ _ (@snd_ret _ _ _ _ _ (@e_all _ _ _ _ _ _ _ (@snd_osCons _ _ _ _ _ _ _ _ (@snd_oOf _ _ _ _ (@snd_lc _ _ _ _ _ _ [("one", 2)] _ _ _ _ _ _ _ _ (@snd_iSeq _ _ _ _ _ _ (@snd_oOf _ _ _ _ (@snd_var _ _ _ _ rfl (by decide +kernel) (by decide +kernel)))) (.nm rfl (by decide +kernel)) rfl (by decide +kernel) (.no) (@snd_and _ _ _ _ _ _ _ _ _ (@snd_call _ _ _ _ _ _ _ _ (by decide +kernel) (@snd_asVar _ _ _ _ _ _ rfl (by decide +kernel) (by decide +kernel) (@snd_asNil _)) rfl (by decide +kernel) (by decide +kernel)) (@snd_one _ _ _ _ _ _ (@snd_chain _ _ _ _ _ _ _ _ _ _ _ _ _ _ _ _ _ _ ic_le ic_lt (@snd_oOf _ _ _ _ (@snd_lit _ _ _ _ _ rfl)) (@snd_oVar _ _ _ _ rfl (by decide +kernel) (by decide +kernel)) (@snd_oVar _ _ _ _ rfl (by decide +kernel) (by decide +kernel)) rfl))) rfl)) (@snd_osNil _) rfl) rfl (by decide +kernel) (by decide +kernel))))
theorem s_follows : SndSs c_follows (defBody (topS 19)) b_follows := @snd_cons _ _ _ _ _ (@snd_for _ _ _ _ _ _ _ _ _ (@snd_iSeq _ _ _ _ _ _ (@snd_oOf _ _ _ _ (@snd_var _ _ _ _ rfl (by decide +kernel) (by decide +kernel)))) (.tp (.cons rfl (by decide +kernel) (.cons rfl (by decide +kernel) (.nil)))) (by decide +kernel)
  (@snd_cons _ _ _ _ _ (@snd_if _ _ _ _ _ _ _ _ _ (@t_eq _ _ _ _ _ _ (@snd_osCons _ _ _ _ _ _ _ _ (@snd_oVar _ _ _ _ rfl (by decide +kernel) (by decide +kernel)) (@snd_osCons _ _ _ _ _ _ _ _ (@snd_oVar _ _ _ _ rfl (by decide +kernel) (by decide +kernel)) (@snd_osNil _) rfl) rfl) rfl)
  (@snd_one' _ _ _ (@snd_ret _ _ _ _ _ (@snd_lit _ _ _ _ _ rfl)))
  (@snd_nil _))
  (@snd_one' _ _ _ (@snd_for _ _ _ _ _ _ _ _ _ (@snd_iSeq _ _ _ _ _ _ (@snd_oOf _ _ _ _ (@snd_var _ _ _ _ rfl (by decide +kernel) (by decide +kernel)))) (.tp (.cons rfl (by decide +kernel) (.cons rfl (by decide +kernel) (.nil)))) (by decide +kernel)
  (@snd_one' _ _ _ (@snd_if _ _ _ _ _ _ _ _ _ (@snd_andT _ _ _ _ _ _ _ _ _ (@t_eq _ _ _ _ _ _ (@snd_osCons _ _ _ _ _ _ _ _ (@snd_oVar _ _ _ _ rfl (by decide +kernel) (by decide +kernel)) (@snd_osCons _ _ _ _ _ _ _ _ (@snd_oVar _ _ _ _ rfl (by decide +kernel) (by decide +kernel)) (@snd_osNil _) rfl) rfl) rfl) (@snd_oneT _ _ _ _ _ _ (@t_nin _ _ _ _ _ _ (@snd_osCons _ _ _ _ _ _ _ _ (@snd_oOf _ _ _ _ (@snd_tup _ _ _ _ _ _ (@snd_fsCons _ _ _ _ _ _ _ (@snd_var _ _ _ _ rfl (by decide +kernel) (by decide +kernel)) (@snd_fsCons _ _ _ _ _ _ _ (@snd_var _ _ _ _ rfl (by decide +kernel) (by decide +kernel)) (@snd_fsNil _))) rfl)) (@snd_osCons _ _ _ _ _ _ _ _ (@snd_oVar _ _ _ _ rfl (by decide +kernel) (by decide +kernel)) (@snd_osNil _) rfl) rfl) rfl)))
  (@snd_one' _ _ _ (@snd_ret _ _ _ _ _ (@snd_lit _ _ _ _ _ rfl)))
  (@snd_nil _))) rfl))) rfl)
  (@snd_one' _ _ _ (@snd_ret _ _ _ _ _ (@snd_lit _ _ _ _ _ rfl)))
theorem s_is_order : SndSs c_is_order (defBody (topS 20)) b_is_order := @snd_cons _ _ _ _ _ (@snd_if _ _ _ _ _ _ _ _ _ (@snd_orT _ _ _ _ _ _ _ _ _ (@snd_notT _ _ _ _ _ (@snd_plainT _ _ _ _ (@snd_isi _ _ _ _ _ _ _ _ _ (by decide +kernel) boot_tuple' (@snd_osCons _ _ _ _ _ _ _ _ (@snd_oVar _ _ _ _ rfl (by decide +kernel) (by decide +kernel)) (@snd_osNil _) rfl) rfl (by decide +kernel) (by decide +kernel) (by decide +kernel) (by decide +kernel) (by decide +kernel)) rfl)) (@snd_orT _ _ _ _ _ _ _ _ _ (@t_ne _ _ _ _ _ _ (@snd_osCons _ _ _ _ _ _ _ _ (@snd_oOf _ _ _ _ (@e_len _ _ _ _ _ _ _ (@snd_osCons _ _ _ _ _ _ _ _ (@snd_oVar _ _ _ _ rfl (by decide +kernel) (by decide +kernel)) (@snd_osNil _) rfl) rfl (by decide +kernel) (by decide +kernel))) (@snd_osCons _ _ _ _ _ _ _ _ (@snd_oOf _ _ _ _ (@snd_lit _ _ _ _ _ rfl)) (@snd_osNil _) rfl) rfl) rfl) (@snd_orT _ _ _ _ _ _ _ _ _ (@snd_notT _ _ _ _ _ (@snd_plainT _ _ _ _ (@snd_call _ _ _ _ _ _ _ _ (by decide +kernel) (@snd_asExp _ _ _ _ _ _ (@e_ix _ _ _ _ _ _ (@snd_osCons _ _ _ _ _ _ _ _ (@snd_oVar _ _ _ _ rfl (by decide +kernel) (by decide +kernel)) (@snd_osCons _ _ _ _ _ _ _ _ (@snd_oOf _ _ _ _ (@snd_lit _ _ _ _ _ rfl)) (@snd_osNil _) rfl) rfl) rfl) (@snd_asNil _)) rfl (by decide +kernel) (by decide +kernel)) rfl)) (@snd_oneT _ _ _ _ _ _ (@snd_notT _ _ _ _ _ (@snd_plainT _ _ _ _ (@snd_isi _ _ _ _ _ _ _ _ _ (by decide +kernel) boot_tuple' (@snd_osCons _ _ _ _ _ _ _ _ (@snd_oOf _ _ _ _ (@e_ix _ _ _ _ _ _ (@snd_osCons _ _ _ _ _ _ _ _ (@snd_oVar _ _ _ _ rfl (by decide +kernel) (by decide +kernel)) (@snd_osCons _ _ _ _ _ _ _ _ (@snd_oOf _ _ _ _ (@snd_lit _ _ _ _ _ rfl)) (@snd_osNil _) rfl) rfl) rfl)) (@snd_osNil _) rfl) rfl (by decide +kernel) (by decide +kernel) (by decide +kernel) (by decide +kernel) (by decide +kernel)) rfl))))))
  (@snd_one' _ _ _ (@snd_ret _ _ _ _ _ (@snd_lit _ _ _ _ _ rfl)))
  (@snd_nil _))
  (@snd_cons _ _ _ _ _ (@snd_unp _ _ _ _ _ _ _ _ _ (.cons rfl (by decide +kernel) (.cons rfl (by decide +kernel) (.nil))) (by decide +kernel) (@snd_var _ _ _ _ rfl (by decide +kernel) (by decide +kernel)) rfl rfl)
  (@snd_cons _ _ _ _ _ (@snd_if _ _ _ _ _ _ _ _ _ (@snd_notT _ _ _ _ _ (@snd_plainT _ _ _ _ (@e_all _ _ _ _ _ _ _ (@snd_osCons _ _ _ _ _ _ _ _ (@snd_oOf _ _ _ _ (@snd_lc _ _ _ _ _ _ [("pair", 3)] _ _ _ _ _ _ _ _ (@snd_iSeq _ _ _ _ _ _ (@snd_oOf _ _ _ _ (@snd_var _ _ _ _ rfl (by decide +kernel) (by decide +kernel)))) (.nm rfl (by decide +kernel)) rfl (by decide +kernel) (.no) (@snd_call _ _ _ _ _ _ _ _ (by decide +kernel) (@snd_asVar _ _ _ _ _ _ rfl (by decide +kernel) (by decide +kernel) (@snd_asVar _ _ _ _ _ _ rfl (by decide +kernel) (by decide +kernel) (@snd_asNil _))) rfl (by decide +kernel) (by decide +kernel)) rfl)) (@snd_osNil _) rfl) rfl (by decide +kernel) (by decide +kernel)) rfl))
  (@snd_one' _ _ _ (@snd_ret _ _ _ _ _ (@snd_lit _ _ _ _ _ rfl)))
  (@snd_nil _))
  (@snd_one' _ _ _ (@snd_ret _ _ _ _ _ (@snd_and _ _ _ _ _ _ _ _ _ (@e_eq _ _ _ _ _ _ (@snd_osCons _ _ _ _ _ _ _ _ (@snd_oOf _ _ _ _ (@e_listOf _ _ _ _ _ _ _ (@snd_osCons _ _ _ _ _ _ _ _ (@snd_oVar _ _ _ _ rfl (by decide +kernel) (by decide +kernel)) (@snd_osNil _) rfl) rfl (by decide +kernel) (by decide +kernel))) (@snd_osCons _ _ _ _ _ _ _ _ (@snd_oOf _ _ _ _ (@snd_sortSet _ _ _ _ _ _ _ _ _ (@snd_oVar _ _ _ _ rfl (by decide +kernel) (by decide +kernel)) rfl (by decide +kernel) (by decide +kernel) (by decide +kernel) (by decide +kernel))) (@snd_osNil _) rfl) rfl) rfl) (@snd_one _ _ _ _ _ _ (@snd_call _ _ _ _ _ _ _ _ (by decide +kernel) (@snd_asVar _ _ _ _ _ _ rfl (by decide +kernel) (by decide +kernel) (@snd_asNil _)) rfl (by decide +kernel) (by decide +kernel))))))))
theorem s_need_order : SndSs c_need_order (defBody (topS 21)) b_need_order := @snd_one' _ _ _ (@snd_if _ _ _ _ _ _ _ _ _ (@snd_notT _ _ _ _ _ (@snd_plainT _ _ _ _ (@snd_call _ _ _ _ _ _ _ _ (by decide +kernel) (@snd_asVar _ _ _ _ _ _ rfl (by decide +kernel) (by decide +kernel) (@snd_asNil _)) rfl (by decide +kernel) (by decide +kernel)) rfl))
  (@snd_one' _ _ _ (@snd_raise _ _ _ _ _ _ _ _ (by decide +kernel) (by decide +kernel) (by decide +kernel)))
  (@snd_nil _))
theorem s_closed : SndSs c_closed (defBody (topS 22)) b_closed := @snd_cons _ _ _ _ _ (@snd_set _ _ _ _ _ _ _ _ rfl (by decide +kernel) (by decide +kernel) (@snd_sortSet _ _ _ _ _ _ _ _ _ (@snd_oVar _ _ _ _ rfl (by decide +kernel) (by decide +kernel)) rfl (by decide +kernel) (by decide +kernel) (by decide +kernel) (by decide +kernel)) rfl)
  (@snd_cons _ _ _ _ _ (@snd_for _ _ _ _ _ _ _ _ _ (@snd_iR1 _ _ _ _ _ _ _ _ (@snd_oVar _ _ _ _ rfl (by decide +kernel) (by decide +kernel)) rfl (by decide +kernel) (by decide +kernel)) (.nm rfl (by decide +kernel)) (by decide +kernel)
  (@snd_cons _ _ _ _ _ (@snd_set _ _ _ _ _ _ _ _ rfl (by decide +kernel) (by decide +kernel) (@snd_lst _ _ _ _ _ (@snd_fsNil _) rfl) rfl)
  (@snd_cons _ _ _ _ _ (@snd_for _ _ _ _ _ _ _ _ _ (@snd_iSeq _ _ _ _ _ _ (@snd_oOf _ _ _ _ (@snd_var _ _ _ _ rfl (by decide +kernel) (by decide +kernel)))) (.tp (.cons rfl (by decide +kernel) (.cons rfl (by decide +kernel) (.nil)))) (by decide +kernel)
  (@snd_one' _ _ _ (@snd_if _ _ _ _ _ _ _ _ _ (@t_eq _ _ _ _ _ _ (@snd_osCons _ _ _ _ _ _ _ _ (@snd_oVar _ _ _ _ rfl (by decide +kernel) (by decide +kernel)) (@snd_osCons _ _ _ _ _ _ _ _ (@snd_oVar _ _ _ _ rfl (by decide +kernel) (by decide +kernel)) (@snd_osNil _) rfl) rfl) rfl)
  (@snd_one' _ _ _ (@snd_do _ _ _ _ _ (@u_extend _ _ _ _ _ _ _ _ _ rfl (by decide +kernel) (by decide +kernel) (@snd_fsCons _ _ _ _ _ _ _ (@snd_lc _ _ _ _ _ _ [("c", 7), ("d", 8)] _ _ _ _ _ _ _ _ (@snd_iSeq _ _ _ _ _ _ (@snd_oOf _ _ _ _ (@snd_var _ _ _ _ rfl (by decide +kernel) (by decide +kernel)))) (.tp (.cons rfl (by decide +kernel) (.cons rfl (by decide +kernel) (.nil)))) rfl (by decide +kernel) (.one (@t_eq _ _ _ _ _ _ (@snd_osCons _ _ _ _ _ _ _ _ (@snd_oVar _ _ _ _ rfl (by decide +kernel) (by decide +kernel)) (@snd_osCons _ _ _ _ _ _ _ _ (@snd_oVar _ _ _ _ rfl (by decide +kernel) (by decide +kernel)) (@snd_osNil _) rfl) rfl) rfl)) (@snd_tup _ _ _ _ _ _ (@snd_fsCons _ _ _ _ _ _ _ (@snd_var _ _ _ _ rfl (by decide +kernel) (by decide +kernel)) (@snd_fsCons _ _ _ _ _ _ _ (@snd_var _ _ _ _ rfl (by decide +kernel) (by decide +kernel)) (@snd_fsNil _))) rfl) rfl) (@snd_fsNil _)) rfl rfl) rfl))
  (@snd_nil _))) rfl)
  (@snd_one' _ _ _ (@snd_set _ _ _ _ _ _ _ _ rfl (by decide +kernel) (by decide +kernel) (@snd_sortSet _ _ _ _ _ _ _ _ _ (@snd_oOf _ _ _ _ (@e_add _ _ _ _ _ _ (@snd_osCons _ _ _ _ _ _ _ _ (@snd_oVar _ _ _ _ rfl (by decide +kernel) (by decide +kernel)) (@snd_osCons _ _ _ _ _ _ _ _ (@snd_oVar _ _ _ _ rfl (by decide +kernel) (by decide +kernel)) (@snd_osNil _) rfl) rfl))) rfl (by decide +kernel) (by decide +kernel) (by decide +kernel) (by decide +kernel)) rfl)))) rfl)
  (@snd_one' _ _ _ (@snd_ret _ _ _ _ _ (@e_tupOf _ _ _ _ _ _ _ (@snd_osCons _ _ _ _ _ _ _ _ (@snd_oVar _ _ _ _ rfl (by decide +kernel) (by decide +kernel)) (@snd_osNil _) rfl) rfl (by decide +kernel) (by decide +kernel)))))
theorem s_is_next : SndSs c_is_next (defBody (topS 23)) b_is_next := @snd_one' _ _ _ (@snd_ret _ _ _ _ _ (@snd_not _ _ _ _ _ (@e_any _ _ _ _ _ _ _ (@snd_osCons _ _ _ _ _ _ _ _ (@snd_oOf _ _ _ _ (@snd_lc _ _ _ _ _ _ [("c", 3)] _ _ _ _ _ _ _ _ (@snd_iR1 _ _ _ _ _ _ _ _ (@snd_oOf _ _ _ _ (@e_ix _ _ _ _ _ _ (@snd_osCons _ _ _ _ _ _ _ _ (@snd_oVar _ _ _ _ rfl (by decide +kernel) (by decide +kernel)) (@snd_osCons _ _ _ _ _ _ _ _ (@snd_oOf _ _ _ _ (@snd_lit _ _ _ _ _ rfl)) (@snd_osNil _) rfl) rfl) rfl)) rfl (by decide +kernel) (by decide +kernel)) (.nm rfl (by decide +kernel)) rfl (by decide +kernel) (.no) (@snd_and _ _ _ _ _ _ _ _ _ (@e_in _ _ _ _ _ _ (@snd_osCons _ _ _ _ _ _ _ _ (@snd_oOf _ _ _ _ (@snd_tup _ _ _ _ _ _ (@snd_fsCons _ _ _ _ _ _ _ (@snd_var _ _ _ _ rfl (by decide +kernel) (by decide +kernel)) (@snd_fsCons _ _ _ _ _ _ _ (@snd_var _ _ _ _ rfl (by decide +kernel) (by decide +kernel)) (@snd_fsNil _))) rfl)) (@snd_osCons _ _ _ _ _ _ _ _ (@snd_oOf _ _ _ _ (@e_ix _ _ _ _ _ _ (@snd_osCons _ _ _ _ _ _ _ _ (@snd_oVar _ _ _ _ rfl (by decide +kernel) (by decide +kernel)) (@snd_osCons _ _ _ _ _ _ _ _ (@snd_oOf _ _ _ _ (@snd_lit _ _ _ _ _ rfl)) (@snd_osNil _) rfl) rfl) rfl)) (@snd_osNil _) rfl) rfl) rfl) (@snd_one _ _ _ _ _ _ (@e_in _ _ _ _ _ _ (@snd_osCons _ _ _ _ _ _ _ _ (@snd_oOf _ _ _ _ (@snd_tup _ _ _ _ _ _ (@snd_fsCons _ _ _ _ _ _ _ (@snd_var _ _ _ _ rfl (by decide +kernel) (by decide +kernel)) (@snd_fsCons _ _ _ _ _ _ _ (@snd_var _ _ _ _ rfl (by decide +kernel) (by decide +kernel)) (@snd_fsNil _))) rfl)) (@snd_osCons _ _ _ _ _ _ _ _ (@snd_oOf _ _ _ _ (@e_ix _ _ _ _ _ _ (@snd_osCons _ _ _ _ _ _ _ _ (@snd_oVar _ _ _ _ rfl (by decide +kernel) (by decide +kernel)) (@snd_osCons _ _ _ _ _ _ _ _ (@snd_oOf _ _ _ _ (@snd_lit _ _ _ _ _ rfl)) (@snd_osNil _) rfl) rfl) rfl)) (@snd_osNil _) rfl) rfl) rfl))) rfl)) (@snd_osNil _) rfl) rfl (by decide +kernel) (by decide +kernel))))
theorem s_next_pairs : SndSs c_next_pairs (defBody (topS 24)) b_next_pairs := @snd_cons _ _ _ _ _ (@snd_do _ _ _ _ _ (@snd_call _ _ _ _ _ _ _ _ (by decide +kernel) (@snd_asVar _ _ _ _ _ _ rfl (by decide +kernel) (by decide +kernel) (@snd_asNil _)) rfl (by decide +kernel) (by decide +kernel)) rfl)
  (@snd_one' _ _ _ (@snd_ret _ _ _ _ _ (@snd_lc _ _ _ _ _ _ [("a", 1), ("b", 2)] _ _ _ _ _ _ _ _ (@snd_iSeq _ _ _ _ _ _ (@snd_oOf _ _ _ _ (@e_ix _ _ _ _ _ _ (@snd_osCons _ _ _ _ _ _ _ _ (@snd_oVar _ _ _ _ rfl (by decide +kernel) (by decide +kernel)) (@snd_osCons _ _ _ _ _ _ _ _ (@snd_oOf _ _ _ _ (@snd_lit _ _ _ _ _ rfl)) (@snd_osNil _) rfl) rfl) rfl))) (.tp (.cons rfl (by decide +kernel) (.cons rfl (by decide +kernel) (.nil)))) rfl (by decide +kernel) (.one (@snd_plainT _ _ _ _ (@snd_call _ _ _ _ _ _ _ _ (by decide +kernel) (@snd_asVar _ _ _ _ _ _ rfl (by decide +kernel) (by decide +kernel) (@snd_asVar _ _ _ _ _ _ rfl (by decide +kernel) (by decide +kernel) (@snd_asVar _ _ _ _ _ _ rfl (by decide +kernel) (by decide +kernel) (@snd_asNil _)))) rfl (by decide +kernel) (by decide +kernel)) rfl)) (@snd_tup _ _ _ _ _ _ (@snd_fsCons _ _ _ _ _ _ _ (@snd_var _ _ _ _ rfl (by decide +kernel) (by decide +kernel)) (@snd_fsCons _ _ _ _ _ _ _ (@snd_var _ _ _ _ rfl (by decide +kernel) (by decide +kernel)) (@snd_fsNil _))) rfl) rfl)))
theorem s_pair_in : SndSs c_pair_in (defBody (topS 27)) b_pair_in := @snd_cons _ _ _ _ _ (@snd_if _ _ _ _ _ _ _ _ _ (@snd_orT _ _ _ _ _ _ _ _ _ (@t_ne _ _ _ _ _ _ (@snd_osCons _ _ _ _ _ _ _ _ (@snd_oOf _ _ _ _ (@e_len _ _ _ _ _ _ _ (@snd_osCons _ _ _ _ _ _ _ _ (@snd_oVar _ _ _ _ rfl (by decide +kernel) (by decide +kernel)) (@snd_osNil _) rfl) rfl (by decide +kernel) (by decide +kernel))) (@snd_osCons _ _ _ _ _ _ _ _ (@snd_oOf _ _ _ _ (@snd_lit _ _ _ _ _ rfl)) (@snd_osNil _) rfl) rfl) rfl) (@snd_orT _ _ _ _ _ _ _ _ _ (@t_ne _ _ _ _ _ _ (@snd_osCons _ _ _ _ _ _ _ _ (@snd_oOf _ _ _ _ (@e_ix _ _ _ _ _ _ (@snd_osCons _ _ _ _ _ _ _ _ (@snd_oVar _ _ _ _ rfl (by decide +kernel) (by decide +kernel)) (@snd_osCons _ _ _ _ _ _ _ _ (@snd_oOf _ _ _ _ (@snd_lit _ _ _ _ _ rfl)) (@snd_osNil _) rfl) rfl) rfl)) (@snd_osCons _ _ _ _ _ _ _ _ (@snd_oOf _ _ _ _ (@snd_lit _ _ _ _ _ rfl)) (@snd_osNil _) rfl) rfl) rfl) (@snd_orT _ _ _ _ _ _ _ _ _ (@t_ninS _ _ _ _ _ _ (@snd_osCons _ _ _ _ _ _ _ _ (@snd_oOf _ _ _ _ (@e_ix _ _ _ _ _ _ (@snd_osCons _ _ _ _ _ _ _ _ (@snd_oVar _ _ _ _ rfl (by decide +kernel) (by decide +kernel)) (@snd_osCons _ _ _ _ _ _ _ _ (@snd_oOf _ _ _ _ (@snd_lit _ _ _ _ _ rfl)) (@snd_osNil _) rfl) rfl) rfl)) (@snd_osCons _ _ _ _ _ _ _ _ (@snd_oOf _ _ _ _ (@snd_gstr _ _ _ _ (by decide +kernel) (by decide +kernel) (by decide +kernel))) (@snd_osNil _) rfl) rfl) rfl) (@snd_oneT _ _ _ _ _ _ (@t_ninS _ _ _ _ _ _ (@snd_osCons _ _ _ _ _ _ _ _ (@snd_oOf _ _ _ _ (@e_ix _ _ _ _ _ _ (@snd_osCons _ _ _ _ _ _ _ _ (@snd_oVar _ _ _ _ rfl (by decide +kernel) (by decide +kernel)) (@snd_osCons _ _ _ _ _ _ _ _ (@snd_oOf _ _ _ _ (@snd_lit _ _ _ _ _ rfl)) (@snd_osNil _) rfl) rfl) rfl)) (@snd_osCons _ _ _ _ _ _ _ _ (@snd_oOf _ _ _ _ (@snd_gstr _ _ _ _ (by decide +kernel) (by decide +kernel) (by decide +kernel))) (@snd_osNil _) rfl) rfl) rfl)))))
  (@snd_one' _ _ _ (@snd_ret _ _ _ _ _ (@snd_lit _ _ _ _ _ rfl)))
  (@snd_nil _))
  (@snd_cons _ _ _ _ _ (@snd_set _ _ _ _ _ _ _ _ rfl (by decide +kernel) (by decide +kernel) (@snd_tup _ _ _ _ _ _ (@snd_fsCons _ _ _ _ _ _ _ (@e_intS _ _ _ _ _ _ _ (@snd_osCons _ _ _ _ _ _ _ _ (@snd_oOf _ _ _ _ (@e_ix _ _ _ _ _ _ (@snd_osCons _ _ _ _ _ _ _ _ (@snd_oVar _ _ _ _ rfl (by decide +kernel) (by decide +kernel)) (@snd_osCons _ _ _ _ _ _ _ _ (@snd_oOf _ _ _ _ (@snd_lit _ _ _ _ _ rfl)) (@snd_osNil _) rfl) rfl) rfl)) (@snd_osNil _) rfl) rfl (by decide +kernel) (by decide +kernel)) (@snd_fsCons _ _ _ _ _ _ _ (@e_intS _ _ _ _ _ _ _ (@snd_osCons _ _ _ _ _ _ _ _ (@snd_oOf _ _ _ _ (@e_ix _ _ _ _ _ _ (@snd_osCons _ _ _ _ _ _ _ _ (@snd_oVar _ _ _ _ rfl (by decide +kernel) (by decide +kernel)) (@snd_osCons _ _ _ _ _ _ _ _ (@snd_oOf _ _ _ _ (@snd_lit _ _ _ _ _ rfl)) (@snd_osNil _) rfl) rfl) rfl)) (@snd_osNil _) rfl) rfl (by decide +kernel) (by decide +kernel)) (@snd_fsNil _))) rfl) rfl)
  (@snd_cons _ _ _ _ _ (@snd_if _ _ _ _ _ _ _ _ _ (@snd_orT _ _ _ _ _ _ _ _ _ (@t_eq _ _ _ _ _ _ (@snd_osCons _ _ _ _ _ _ _ _ (@snd_oOf _ _ _ _ (@e_ix _ _ _ _ _ _ (@snd_osCons _ _ _ _ _ _ _ _ (@snd_oVar _ _ _ _ rfl (by decide +kernel) (by decide +kernel)) (@snd_osCons _ _ _ _ _ _ _ _ (@snd_oOf _ _ _ _ (@snd_lit _ _ _ _ _ rfl)) (@snd_osNil _) rfl) rfl) rfl)) (@snd_osCons _ _ _ _ _ _ _ _ (@snd_oOf _ _ _ _ (@e_ix _ _ _ _ _ _ (@snd_osCons _ _ _ _ _ _ _ _ (@snd_oVar _ _ _ _ rfl (by decide +kernel) (by decide +kernel)) (@snd_osCons _ _ _ _ _ _ _ _ (@snd_oOf _ _ _ _ (@snd_lit _ _ _ _ _ rfl)) (@snd_osNil _) rfl) rfl) rfl)) (@snd_osNil _) rfl) rfl) rfl) (@snd_oneT _ _ _ _ _ _ (@t_ge _ _ _ _ _ _ (@snd_osCons _ _ _ _ _ _ _ _ (@snd_oOf _ _ _ _ (@e_maxT _ _ _ _ _ _ _ (@snd_osCons _ _ _ _ _ _ _ _ (@snd_oVar _ _ _ _ rfl (by decide +kernel) (by decide +kernel)) (@snd_osNil _) rfl) rfl (by decide +kernel) (by decide +kernel))) (@snd_osCons _ _ _ _ _ _ _ _ (@snd_oVar _ _ _ _ rfl (by decide +kernel) (by decide +kernel)) (@snd_osNil _) rfl) rfl) rfl)))
  (@snd_one' _ _ _ (@snd_ret _ _ _ _ _ (@snd_lit _ _ _ _ _ rfl)))
  (@snd_nil _))
  (@snd_one' _ _ _ (@snd_retV _ _ _ _ _ rfl (by decide +kernel) (by decide +kernel) (by decide +kernel)))))
theorem s_read_order : SndSs c_read_order (defBody (topS 28)) b_read_order := @snd_cons _ _ _ _ _ (@snd_if _ _ _ _ _ _ _ _ _ (@snd_notT _ _ _ _ _ (@snd_plainT _ _ _ _ (@snd_isi _ _ _ _ _ _ _ _ _ (by decide +kernel) boot_str' (@snd_osCons _ _ _ _ _ _ _ _ (@snd_oVar _ _ _ _ rfl (by decide +kernel) (by decide +kernel)) (@snd_osNil _) rfl) rfl (by decide +kernel) (by decide +kernel) (by decide +kernel) (by decide +kernel) (by decide +kernel)) rfl))
  (@snd_one' _ _ _ (@snd_raiseV _ _ _ _ _ _ _ _ (by decide +kernel) (by decide +kernel) (by decide +kernel) rfl (@snd_oOf _ _ _ _ (@snd_lit _ _ _ _ _ rfl))))
  (@snd_nil _))
  (@snd_cons _ _ _ _ _ (@snd_set _ _ _ _ _ _ _ _ rfl (by decide +kernel) (by decide +kernel) (@e_split _ _ _ _ _ _ _ _ _ _ _ (@snd_oVar _ _ _ _ rfl (by decide +kernel) (by decide +kernel)) (@snd_osCons _ _ _ _ _ _ _ _ (@snd_oOf _ _ _ _ (@snd_lit _ _ _ _ _ rfl)) (@snd_osNil _) rfl) rfl rfl (by decide +kernel) rfl rfl) rfl)
  (@snd_cons _ _ _ _ _ (@snd_if _ _ _ _ _ _ _ _ _ (@snd_orT _ _ _ _ _ _ _ _ _ (@t_ne _ _ _ _ _ _ (@snd_osCons _ _ _ _ _ _ _ _ (@snd_oOf _ _ _ _ (@e_len _ _ _ _ _ _ _ (@snd_osCons _ _ _ _ _ _ _ _ (@snd_oOf _ _ _ _ (@e_ix _ _ _ _ _ _ (@snd_osCons _ _ _ _ _ _ _ _ (@snd_oVar _ _ _ _ rfl (by decide +kernel) (by decide +kernel)) (@snd_osCons _ _ _ _ _ _ _ _ (@snd_oOf _ _ _ _ (@snd_lit _ _ _ _ _ rfl)) (@snd_osNil _) rfl) rfl) rfl)) (@snd_osNil _) rfl) rfl (by decide +kernel) (by decide +kernel))) (@snd_osCons _ _ _ _ _ _ _ _ (@snd_oOf _ _ _ _ (@snd_lit _ _ _ _ _ rfl)) (@snd_osNil _) rfl) rfl) rfl) (@snd_orT _ _ _ _ _ _ _ _ _ (@t_ninS _ _ _ _ _ _ (@snd_osCons _ _ _ _ _ _ _ _ (@snd_oOf _ _ _ _ (@e_ix _ _ _ _ _ _ (@snd_osCons _ _ _ _ _ _ _ _ (@snd_oVar _ _ _ _ rfl (by decide +kernel) (by decide +kernel)) (@snd_osCons _ _ _ _ _ _ _ _ (@snd_oOf _ _ _ _ (@snd_lit _ _ _ _ _ rfl)) (@snd_osNil _) rfl) rfl) rfl)) (@snd_osCons _ _ _ _ _ _ _ _ (@snd_oOf _ _ _ _ (@snd_gstr _ _ _ _ (by decide +kernel) (by decide +kernel) (by decide +kernel))) (@snd_osNil _) rfl) rfl) rfl) (@snd_oneT _ _ _ _ _ _ (@snd_notT _ _ _ _ _ (@snd_chainT _ _ _ _ _ _ _ _ _ _ _ _ _ _ _ _ _ _ ic_le ic_le (@snd_oOf _ _ _ _ (@snd_lit _ _ _ _ _ rfl)) (@snd_oOf _ _ _ _ (@e_intS _ _ _ _ _ _ _ (@snd_osCons _ _ _ _ _ _ _ _ (@snd_oOf _ _ _ _ (@e_ix _ _ _ _ _ _ (@snd_osCons _ _ _ _ _ _ _ _ (@snd_oVar _ _ _ _ rfl (by decide +kernel) (by decide +kernel)) (@snd_osCons _ _ _ _ _ _ _ _ (@snd_oOf _ _ _ _ (@snd_lit _ _ _ _ _ rfl)) (@snd_osNil _) rfl) rfl) rfl)) (@snd_osNil _) rfl) rfl (by decide +kernel) (by decide +kernel))) (@snd_oOf _ _ _ _ (@snd_gint _ _ _ _ (by decide +kernel) (by decide +kernel) (by decide +kernel))) rfl)))))
  (@snd_one' _ _ _ (@snd_raiseV _ _ _ _ _ _ _ _ (by decide +kernel) (by decide +kernel) (by decide +kernel) rfl (@snd_oOf _ _ _ _ (@snd_lit _ _ _ _ _ rfl))))
  (@snd_nil _))
  (@snd_cons _ _ _ _ _ (@snd_set _ _ _ _ _ _ _ _ rfl (by decide +kernel) (by decide +kernel) (@e_intS _ _ _ _ _ _ _ (@snd_osCons _ _ _ _ _ _ _ _ (@snd_oOf _ _ _ _ (@e_ix _ _ _ _ _ _ (@snd_osCons _ _ _ _ _ _ _ _ (@snd_oVar _ _ _ _ rfl (by decide +kernel) (by decide +kernel)) (@snd_osCons _ _ _ _ _ _ _ _ (@snd_oOf _ _ _ _ (@snd_lit _ _ _ _ _ rfl)) (@snd_osNil _) rfl) rfl) rfl)) (@snd_osNil _) rfl) rfl (by decide +kernel) (by decide +kernel)) rfl)
  (@snd_cons _ _ _ _ _ (@snd_set _ _ _ _ _ _ _ _ rfl (by decide +kernel) (by decide +kernel) (@snd_lst _ _ _ _ _ (@snd_fsNil _) rfl) rfl)
  (@snd_cons _ _ _ _ _ (@snd_for _ _ _ _ _ _ _ _ _ (@snd_iR2 _ _ _ _ _ _ _ _ _ _ _ _ (@snd_oOf _ _ _ _ (@snd_lit _ _ _ _ _ rfl)) (@snd_oOf _ _ _ _ (@e_len _ _ _ _ _ _ _ (@snd_osCons _ _ _ _ _ _ _ _ (@snd_oVar _ _ _ _ rfl (by decide +kernel) (by decide +kernel)) (@snd_osNil _) rfl) rfl (by decide +kernel) (by decide +kernel))) rfl rfl (by decide +kernel) (by decide +kernel)) (.nm rfl (by decide +kernel)) (by decide +kernel)
  (@snd_cons _ _ _ _ _ (@snd_set _ _ _ _ _ _ _ _ rfl (by decide +kernel) (by decide +kernel) (@snd_call _ _ _ _ _ _ _ _ (by decide +kernel) (@snd_asExp _ _ _ _ _ _ (@e_ix _ _ _ _ _ _ (@snd_osCons _ _ _ _ _ _ _ _ (@snd_oVar _ _ _ _ rfl (by decide +kernel) (by decide +kernel)) (@snd_osCons _ _ _ _ _ _ _ _ (@snd_oVar _ _ _ _ rfl (by decide +kernel) (by decide +kernel)) (@snd_osNil _) rfl) rfl) rfl) (@snd_asVar _ _ _ _ _ _ rfl (by decide +kernel) (by decide +kernel) (@snd_asNil _))) rfl (by decide +kernel) (by decide +kernel)) rfl)
  (@snd_cons _ _ _ _ _ (@snd_if _ _ _ _ _ _ _ _ _ (@snd_orT _ _ _ _ _ _ _ _ _ (@t_is _ _ _ _ _ _ (@snd_osCons _ _ _ _ _ _ _ _ (@snd_oVar _ _ _ _ rfl (by decide +kernel) (by decide +kernel)) (@snd_osCons _ _ _ _ _ _ _ _ (@snd_oOf _ _ _ _ (@snd_lit _ _ _ _ _ rfl)) (@snd_osNil _) rfl) rfl) rfl) (@snd_oneT _ _ _ _ _ _ (@snd_andT _ _ _ _ _ _ _ _ _ (@t_ne _ _ _ _ _ _ (@snd_osCons _ _ _ _ _ _ _ _ (@snd_oVar _ _ _ _ rfl (by decide +kernel) (by decide +kernel)) (@snd_osCons _ _ _ _ _ _ _ _ (@snd_oOf _ _ _ _ (@snd_lst _ _ _ _ _ (@snd_fsNil _) rfl)) (@snd_osNil _) rfl) rfl) rfl) (@snd_oneT _ _ _ _ _ _ (@t_leT _ _ _ _ _ _ (@snd_osCons _ _ _ _ _ _ _ _ (@snd_oVar _ _ _ _ rfl (by decide +kernel) (by decide +kernel)) (@snd_osCons _ _ _ _ _ _ _ _ (@snd_oOf _ _ _ _ (@e_ix _ _ _ _ _ _ (@snd_osCons _ _ _ _ _ _ _ _ (@snd_oVar _ _ _ _ rfl (by decide +kernel) (by decide +kernel)) (@snd_osCons _ _ _ _ _ _ _ _ (@snd_oOf _ _ _ _ (@e_neg _ _ _ _ _ (@snd_osCons _ _ _ _ _ _ _ _ (@snd_oOf _ _ _ _ (@snd_lit _ _ _ _ _ rfl)) (@snd_osNil _) rfl))) (@snd_osNil _) rfl) rfl) rfl)) (@snd_osNil _) rfl) rfl) rfl)))))
  (@snd_one' _ _ _ (@snd_raiseV _ _ _ _ _ _ _ _ (by decide +kernel) (by decide +kernel) (by decide +kernel) rfl (@snd_oOf _ _ _ _ (@snd_var _ _ _ _ rfl (by decide +kernel) (by decide +kernel)))))
  (@snd_nil _))
  (@snd_one' _ _ _ (@snd_do _ _ _ _ _ (@u_append _ _ _ _ _ _ _ _ _ rfl (by decide +kernel) (by decide +kernel) (@snd_fsCons _ _ _ _ _ _ _ (@snd_var _ _ _ _ rfl (by decide +kernel) (by decide +kernel)) (@snd_fsNil _)) rfl rfl) rfl)))) rfl)
  (@snd_cons _ _ _ _ _ (@snd_set _ _ _ _ _ _ _ _ rfl (by decide +kernel) (by decide +kernel) (@snd_call _ _ _ _ _ _ _ _ (by decide +kernel) (@snd_asVar _ _ _ _ _ _ rfl (by decide +kernel) (by decide +kernel) (@snd_asVar _ _ _ _ _ _ rfl (by decide +kernel) (by decide +kernel) (@snd_asNil _))) rfl (by decide +kernel) (by decide +kernel)) rfl)
  (@snd_cons _ _ _ _ _ (@snd_if _ _ _ _ _ _ _ _ _ (@snd_orT _ _ _ _ _ _ _ _ _ (@t_ne _ _ _ _ _ _ (@snd_osCons _ _ _ _ _ _ _ _ (@snd_oOf _ _ _ _ (@snd_lc _ _ _ _ _ _ [("a", 7), ("b", 8)] _ _ _ _ _ _ _ _ (@snd_iSeq _ _ _ _ _ _ (@snd_oOf _ _ _ _ (@snd_var _ _ _ _ rfl (by decide +kernel) (by decide +kernel)))) (.tp (.cons rfl (by decide +kernel) (.cons rfl (by decide +kernel) (.nil)))) rfl (by decide +kernel) (.one (@t_eq _ _ _ _ _ _ (@snd_osCons _ _ _ _ _ _ _ _ (@snd_oVar _ _ _ _ rfl (by decide +kernel) (by decide +kernel)) (@snd_osCons _ _ _ _ _ _ _ _ (@snd_oVar _ _ _ _ rfl (by decide +kernel) (by decide +kernel)) (@snd_osNil _) rfl) rfl) rfl)) (@snd_var _ _ _ _ rfl (by decide +kernel) (by decide +kernel)) rfl)) (@snd_osCons _ _ _ _ _ _ _ _ (@snd_oOf _ _ _ _ (@snd_lst _ _ _ _ _ (@snd_fsNil _) rfl)) (@snd_osNil _) rfl) rfl) rfl) (@snd_oneT _ _ _ _ _ _ (@t_ne _ _ _ _ _ _ (@snd_osCons _ _ _ _ _ _ _ _ (@snd_oOf _ _ _ _ (@snd_call _ _ _ _ _ _ _ _ (by decide +kernel) (@snd_asExp _ _ _ _ _ _ (@snd_tup _ _ _ _ _ _ (@snd_fsCons _ _ _ _ _ _ _ (@snd_var _ _ _ _ rfl (by decide +kernel) (by decide +kernel)) (@snd_fsCons _ _ _ _ _ _ _ (@snd_var _ _ _ _ rfl (by decide +kernel) (by decide +kernel)) (@snd_fsNil _))) rfl) (@snd_asNil _)) rfl (by decide +kernel) (by decide +kernel))) (@snd_osCons _ _ _ _ _ _ _ _ (@snd_oVar _ _ _ _ rfl (by decide +kernel) (by decide +kernel)) (@snd_osNil _) rfl) rfl) rfl)))
  (@snd_one' _ _ _ (@snd_raiseV _ _ _ _ _ _ _ _ (by decide +kernel) (by decide +kernel) (by decide +kernel) rfl (@snd_oOf _ _ _ _ (@e_len _ _ _ _ _ _ _ (@snd_osCons _ _ _ _ _ _ _ _ (@snd_oVar _ _ _ _ rfl (by decide +kernel) (by decide +kernel)) (@snd_osNil _) rfl) rfl (by decide +kernel) (by decide +kernel)))))
  (@snd_nil _))
  (@snd_one' _ _ _ (@snd_ret _ _ _ _ _ (@snd_tup _ _ _ _ _ _ (@snd_fsCons _ _ _ _ _ _ _ (@snd_var _ _ _ _ rfl (by decide +kernel) (by decide +kernel)) (@snd_fsCons _ _ _ _ _ _ _ (@snd_var _ _ _ _ rfl (by decide +kernel) (by decide +kernel)) (@snd_fsNil _))) rfl))))))))))
theorem s__law_cell : SndSs c__law_cell (defBody (topS 30)) b__law_cell := @snd_cons _ _ _ _ _ (@snd_if _ _ _ _ _ _ _ _ _ (@t_lt _ _ _ _ _ _ (@snd_osCons _ _ _ _ _ _ _ _ (@snd_oVar _ _ _ _ rfl (by decide +kernel) (by decide +kernel)) (@snd_osCons _ _ _ _ _ _ _ _ (@snd_oOf _ _ _ _ (@snd_scrLen _ _ _ _ _ _ rfl (by decide +kernel) (by decide +kernel) (by decide +kernel) (by decide +kernel))) (@snd_osNil _) rfl) rfl) rfl)
  (@snd_one' _ _ _ (@snd_ret _ _ _ _ _ (@snd_scrAt _ _ _ _ _ _ _ _ _ rfl (by decide +kernel) (by decide +kernel) (@snd_oVar _ _ _ _ rfl (by decide +kernel) (by decide +kernel)) rfl)))
  (@snd_nil _))
  (@snd_one' _ _ _ (@snd_ret _ _ _ _ _ (@snd_lit _ _ _ _ _ rfl)))
theorem s__law_mix : SndSs c__law_mix (defBody (topS 31)) b__law_mix := @snd_cons _ _ _ _ _ (@snd_set _ _ _ _ _ _ _ _ rfl (by decide +kernel) (by decide +kernel) (@snd_const _ 12 _ _ (by decide +kernel)) rfl)
  (@snd_cons _ _ _ _ _ (@snd_set _ _ _ _ _ _ _ _ rfl (by decide +kernel) (by decide +kernel) (@e_add _ _ _ _ _ _ (@snd_osCons _ _ _ _ _ _ _ _ (@snd_oOf _ _ _ _ (@e_add _ _ _ _ _ _ (@snd_osCons _ _ _ _ _ _ _ _ (@snd_oOf _ _ _ _ (@e_mul _ _ _ _ _ _ (@snd_osCons _ _ _ _ _ _ _ _ (@snd_oOf _ _ _ _ (@e_add _ _ _ _ _ _ (@snd_osCons _ _ _ _ _ _ _ _ (@snd_oOf _ _ _ _ (@e_mod _ _ _ _ _ _ (@snd_osCons _ _ _ _ _ _ _ _ (@snd_oVar _ _ _ _ rfl (by decide +kernel) (by decide +kernel)) (@snd_osCons _ _ _ _ _ _ _ _ (@snd_oOf _ _ _ _ (@snd_lit _ _ _ _ _ rfl)) (@snd_osNil _) rfl) rfl))) (@snd_osCons _ _ _ _ _ _ _ _ (@snd_oOf _ _ _ _ (@snd_lit _ _ _ _ _ rfl)) (@snd_osNil _) rfl) rfl))) (@snd_osCons _ _ _ _ _ _ _ _ (@snd_oOf _ _ _ _ (@e_ix _ _ _ _ _ _ (@snd_osCons _ _ _ _ _ _ _ _ (@snd_oVar _ _ _ _ rfl (by decide +kernel) (by decide +kernel)) (@snd_osCons _ _ _ _ _ _ _ _ (@snd_oOf _ _ _ _ (@e_mod _ _ _ _ _ _ (@snd_osCons _ _ _ _ _ _ _ _ (@snd_oVar _ _ _ _ rfl (by decide +kernel) (by decide +kernel)) (@snd_osCons _ _ _ _ _ _ _ _ (@snd_oOf _ _ _ _ (@snd_lit _ _ _ _ _ rfl)) (@snd_osNil _) rfl) rfl))) (@snd_osNil _) rfl) rfl) rfl)) (@snd_osNil _) rfl) rfl))) (@snd_osCons _ _ _ _ _ _ _ _ (@snd_oOf _ _ _ _ (@e_mul _ _ _ _ _ _ (@snd_osCons _ _ _ _ _ _ _ _ (@snd_oOf _ _ _ _ (@snd_lit _ _ _ _ _ rfl)) (@snd_osCons _ _ _ _ _ _ _ _ (@snd_oVar _ _ _ _ rfl (by decide +kernel) (by decide +kernel)) (@snd_osNil _) rfl) rfl))) (@snd_osNil _) rfl) rfl))) (@snd_osCons _ _ _ _ _ _ _ _ (@snd_oOf _ _ _ _ (@e_mul _ _ _ _ _ _ (@snd_osCons _ _ _ _ _ _ _ _ (@snd_oOf _ _ _ _ (@snd_lit _ _ _ _ _ rfl)) (@snd_osCons _ _ _ _ _ _ _ _ (@snd_oOf _ _ _ _ (@e_div _ _ _ _ _ _ (@snd_osCons _ _ _ _ _ _ _ _ (@snd_oVar _ _ _ _ rfl (by decide +kernel) (by decide +kernel)) (@snd_osCons _ _ _ _ _ _ _ _ (@snd_oOf _ _ _ _ (@snd_lit _ _ _ _ _ rfl)) (@snd_osNil _) rfl) rfl))) (@snd_osNil _) rfl) rfl))) (@snd_osNil _) rfl) rfl)) rfl)
  (@snd_cons _ _ _ _ _ (@snd_set _ _ _ _ _ _ _ _ rfl (by decide +kernel) (by decide +kernel) (@e_mod _ _ _ _ _ _ (@snd_osCons _ _ _ _ _ _ _ _ (@snd_oVar _ _ _ _ rfl (by decide +kernel) (by decide +kernel)) (@snd_osCons _ _ _ _ _ _ _ _ (@snd_oOf _ _ _ _ (@snd_lit _ _ _ _ _ rfl)) (@snd_osNil _) rfl) rfl)) rfl)
  (@snd_one' _ _ _ (@snd_ret _ _ _ _ _ (@e_div _ _ _ _ _ _ (@snd_osCons _ _ _ _ _ _ _ _ (@snd_oOf _ _ _ _ (@e_mod _ _ _ _ _ _ (@snd_osCons _ _ _ _ _ _ _ _ (@snd_oOf _ _ _ _ (@e_add _ _ _ _ _ _ (@snd_osCons _ _ _ _ _ _ _ _ (@snd_oOf _ _ _ _ (@e_mul _ _ _ _ _ _ (@snd_osCons _ _ _ _ _ _ _ _ (@snd_oVar _ _ _ _ rfl (by decide +kernel) (by decide +kernel)) (@snd_osCons _ _ _ _ _ _ _ _ (@snd_oVar _ _ _ _ rfl (by decide +kernel) (by decide +kernel)) (@snd_osNil _) rfl) rfl))) (@snd_osCons _ _ _ _ _ _ _ _ (@snd_oOf _ _ _ _ (@e_mul _ _ _ _ _ _ (@snd_osCons _ _ _ _ _ _ _ _ (@snd_oOf _ _ _ _ (@snd_lit _ _ _ _ _ rfl)) (@snd_osCons _ _ _ _ _ _ _ _ (@snd_oVar _ _ _ _ rfl (by decide +kernel) (by decide +kernel)) (@snd_osNil _) rfl) rfl))) (@snd_osNil _) rfl) rfl))) (@snd_osCons _ _ _ _ _ _ _ _ (@snd_oOf _ _ _ _ (@snd_lit _ _ _ _ _ rfl)) (@snd_osNil _) rfl) rfl))) (@snd_osCons _ _ _ _ _ _ _ _ (@snd_oOf _ _ _ _ (@snd_lit _ _ _ _ _ rfl)) (@snd_osNil _) rfl) rfl))))))
theorem s__law_box : SndSs c__law_box (defBody (topS 32)) b__law_box := @snd_cons _ _ _ _ _ (@snd_set _ _ _ _ _ _ _ _ rfl (by decide +kernel) (by decide +kernel) (@snd_call _ _ _ _ _ _ _ _ (by decide +kernel) (@snd_asVar _ _ _ _ _ _ rfl (by decide +kernel) (by decide +kernel) (@snd_asVar _ _ _ _ _ _ rfl (by decide +kernel) (by decide +kernel) (@snd_asNil _))) rfl (by decide +kernel) (by decide +kernel)) rfl)
  (@snd_cons _ _ _ _ _ (@snd_if _ _ _ _ _ _ _ _ _ (@t_eq _ _ _ _ _ _ (@snd_osCons _ _ _ _ _ _ _ _ (@snd_oOf _ _ _ _ (@e_mod _ _ _ _ _ _ (@snd_osCons _ _ _ _ _ _ _ _ (@snd_oVar _ _ _ _ rfl (by decide +kernel) (by decide +kernel)) (@snd_osCons _ _ _ _ _ _ _ _ (@snd_oOf _ _ _ _ (@snd_lit _ _ _ _ _ rfl)) (@snd_osNil _) rfl) rfl))) (@snd_osCons _ _ _ _ _ _ _ _ (@snd_oOf _ _ _ _ (@snd_lit _ _ _ _ _ rfl)) (@snd_osNil _) rfl) rfl) rfl)
  (@snd_one' _ _ _ (@snd_ret _ _ _ _ _ (@snd_lst _ _ _ _ _ (@snd_fsCons _ _ _ _ _ _ _ (@e_div _ _ _ _ _ _ (@snd_osCons _ _ _ _ _ _ _ _ (@snd_oOf _ _ _ _ (@e_abs _ _ _ _ _ _ _ (@snd_osCons _ _ _ _ _ _ _ _ (@snd_oVar _ _ _ _ rfl (by decide +kernel) (by decide +kernel)) (@snd_osNil _) rfl) rfl (by decide +kernel) (by decide +kernel))) (@snd_osCons _ _ _ _ _ _ _ _ (@snd_oOf _ _ _ _ (@snd_lit _ _ _ _ _ rfl)) (@snd_osNil _) rfl) rfl)) (@snd_fsNil _)) rfl)))
  (@snd_nil _))
  (@snd_cons _ _ _ _ _ (@snd_set _ _ _ _ _ _ _ _ rfl (by decide +kernel) (by decide +kernel) (@snd_lit _ _ _ _ _ rfl) rfl)
  (@snd_cons _ _ _ _ _ (@snd_for _ _ _ _ _ _ _ _ _ (@snd_iR1 _ _ _ _ _ _ _ _ (@snd_oOf _ _ _ _ (@snd_lit _ _ _ _ _ rfl)) rfl (by decide +kernel) (by decide +kernel)) (.nm rfl (by decide +kernel)) (by decide +kernel)
  (@snd_one' _ _ _ (@snd_set _ _ _ _ _ _ _ _ rfl (by decide +kernel) (by decide +kernel) (@e_add _ _ _ _ _ _ (@snd_osCons _ _ _ _ _ _ _ _ (@snd_oOf _ _ _ _ (@e_mul _ _ _ _ _ _ (@snd_osCons _ _ _ _ _ _ _ _ (@snd_oVar _ _ _ _ rfl (by decide +kernel) (by decide +kernel)) (@snd_osCons _ _ _ _ _ _ _ _ (@snd_oOf _ _ _ _ (@snd_lit _ _ _ _ _ rfl)) (@snd_osNil _) rfl) rfl))) (@snd_osCons _ _ _ _ _ _ _ _ (@snd_oOf _ _ _ _ (@snd_call _ _ _ _ _ _ _ _ (by decide +kernel) (@snd_asVar _ _ _ _ _ _ rfl (by decide +kernel) (by decide +kernel) (@snd_asVar _ _ _ _ _ _ rfl (by decide +kernel) (by decide +kernel) (@snd_asNil _))) rfl (by decide +kernel) (by decide +kernel))) (@snd_osNil _) rfl) rfl)) rfl)) rfl)
  (@snd_one' _ _ _ (@snd_ret _ _ _ _ _ (@snd_lst _ _ _ _ _ (@snd_fsCons _ _ _ _ _ _ _ (@snd_var _ _ _ _ rfl (by decide +kernel) (by decide +kernel)) (@snd_fsNil _)) rfl))))))
theorem s__law_take : SndSs c__law_take (defBody (topS 33)) b__law_take := @snd_cons _ _ _ _ _ (@snd_unp _ _ _ _ _ _ _ _ _ (.cons rfl (by decide +kernel) (.cons rfl (by decide +kernel) (.nil))) (by decide +kernel) (@e_dvm _ _ _ _ _ _ _ (@snd_osCons _ _ _ _ _ _ _ _ (@snd_oOf _ _ _ _ (@e_ix _ _ _ _ _ _ (@snd_osCons _ _ _ _ _ _ _ _ (@snd_oVar _ _ _ _ rfl (by decide +kernel) (by decide +kernel)) (@snd_osCons _ _ _ _ _ _ _ _ (@snd_oOf _ _ _ _ (@snd_lit _ _ _ _ _ rfl)) (@snd_osNil _) rfl) rfl) rfl)) (@snd_osCons _ _ _ _ _ _ _ _ (@snd_oVar _ _ _ _ rfl (by decide +kernel) (by decide +kernel)) (@snd_osNil _) rfl) rfl) rfl (by decide +kernel) (by decide +kernel)) rfl rfl)
  (@snd_cons _ _ _ _ _ (@snd_setIx _ _ _ _ _ _ _ _ _ _ _ _ _ rfl (by decide +kernel) (by decide +kernel) (@snd_var _ _ _ _ rfl (by decide +kernel) (by decide +kernel)) (@snd_oOf _ _ _ _ (@snd_lit _ _ _ _ _ rfl)) rfl rfl)
  (@snd_one' _ _ _ (@snd_retV _ _ _ _ _ rfl (by decide +kernel) (by decide +kernel) (by decide +kernel))))
theorem s__law_whole : SndSs c__law_whole (defBody (topS 34)) b__law_whole := @snd_one' _ _ _ (@snd_ret _ _ _ _ _ (@snd_and _ _ _ _ _ _ _ _ _ (@snd_isi _ _ _ _ _ _ _ _ _ (by decide +kernel) boot_int' (@snd_osCons _ _ _ _ _ _ _ _ (@snd_oVar _ _ _ _ rfl (by decide +kernel) (by decide +kernel)) (@snd_osNil _) rfl) rfl (by decide +kernel) (by decide +kernel) (by decide +kernel) (by decide +kernel) (by decide +kernel)) (@snd_one _ _ _ _ _ _ (@snd_not _ _ _ _ _ (@snd_isi _ _ _ _ _ _ _ _ _ (by decide +kernel) boot_bool' (@snd_osCons _ _ _ _ _ _ _ _ (@snd_oVar _ _ _ _ rfl (by decide +kernel) (by decide +kernel)) (@snd_osNil _) rfl) rfl (by decide +kernel) (by decide +kernel) (by decide +kernel) (by decide +kernel) (by decide +kernel))))))
theorem s__law_odd : SndSs c__law_odd (defBody (topS 35)) b__law_odd := @snd_cons _ _ _ _ _ (@snd_set _ _ _ _ _ _ _ _ rfl (by decide +kernel) (by decide +kernel) (@snd_const _ 12 _ _ (by decide +kernel)) rfl)
  (@snd_cons _ _ _ _ _ (@snd_set _ _ _ _ _ _ _ _ rfl (by decide +kernel) (by decide +kernel) (@e_add _ _ _ _ _ _ (@snd_osCons _ _ _ _ _ _ _ _ (@snd_oVar _ _ _ _ rfl (by decide +kernel) (by decide +kernel)) (@snd_osCons _ _ _ _ _ _ _ _ (@snd_oOf _ _ _ _ (@snd_const _ 12 _ _ (by decide +kernel))) (@snd_osNil _) rfl) rfl)) rfl)
  (@snd_one' _ _ _ (@snd_ret _ _ _ _ _ (@e_ix _ _ _ _ _ _ (@snd_osCons _ _ _ _ _ _ _ _ (@snd_oOf _ _ _ _ (@snd_var _ _ _ _ rfl (by decide +kernel) (by decide +kernel))) (@snd_osCons _ _ _ _ _ _ _ _ (@snd_oOf _ _ _ _ (@snd_call _ _ _ _ _ _ _ _ (by decide +kernel) (@snd_asVar _ _ _ _ _ _ rfl (by decide +kernel) (by decide +kernel) (@snd_asExp _ _ _ _ _ _ (@snd_lit _ _ _ _ _ rfl) (@snd_asNil _))) rfl (by decide +kernel) (by decide +kernel))) (@snd_osNil _) rfl) rfl) rfl))))
theorem s__law_mixed_up : SndSs c__law_mixed_up (defBody (topS 36)) b__law_mixed_up := @snd_cons _ _ _ _ _ (@snd_set _ _ _ _ _ _ _ _ rfl (by decide +kernel) (by decide +kernel) (@e_listOf _ _ _ _ _ _ _ (@snd_osCons _ _ _ _ _ _ _ _ (@snd_oVar _ _ _ _ rfl (by decide +kernel) (by decide +kernel)) (@snd_osNil _) rfl) rfl (by decide +kernel) (by decide +kernel)) rfl)
  (@snd_cons _ _ _ _ _ (@snd_set _ _ _ _ _ _ _ _ rfl (by decide +kernel) (by decide +kernel) (@snd_lst _ _ _ _ _ (@snd_fsNil _) rfl) rfl)
  (@snd_cons _ _ _ _ _ (@snd_while _ _ _ _ _ _ _ (@t_ne _ _ _ _ _ _ (@snd_osCons _ _ _ _ _ _ _ _ (@snd_oVar _ _ _ _ rfl (by decide +kernel) (by decide +kernel)) (@snd_osCons _ _ _ _ _ _ _ _ (@snd_oOf _ _ _ _ (@snd_lst _ _ _ _ _ (@snd_fsNil _) rfl)) (@snd_osNil _) rfl) rfl) rfl)
  (@snd_one' _ _ _ (@snd_do _ _ _ _ _ (@u_append _ _ _ _ _ _ _ _ _ rfl (by decide +kernel) (by decide +kernel) (@snd_fsCons _ _ _ _ _ _ _ (@u_popAt _ _ _ _ _ _ _ _ _ rfl (by decide +kernel) (by decide +kernel) (@snd_fsCons _ _ _ _ _ _ _ (@snd_call _ _ _ _ _ _ _ _ (by decide +kernel) (@snd_asVar _ _ _ _ _ _ rfl (by decide +kernel) (by decide +kernel) (@snd_asExp _ _ _ _ _ _ (@e_len _ _ _ _ _ _ _ (@snd_osCons _ _ _ _ _ _ _ _ (@snd_oVar _ _ _ _ rfl (by decide +kernel) (by decide +kernel)) (@snd_osNil _) rfl) rfl (by decide +kernel) (by decide +kernel)) (@snd_asNil _))) rfl (by decide +kernel) (by decide +kernel)) (@snd_fsNil _)) rfl rfl) (@snd_fsNil _)) rfl rfl) rfl)))
  (@snd_one' _ _ _ (@snd_retV _ _ _ _ _ rfl (by decide +kernel) (by decide +kernel) (by decide +kernel)))))
theorem s__law_closed : SndSs c__law_closed (defBody (topS 37)) b__law_closed := @snd_cons _ _ _ _ _ (@snd_set _ _ _ _ _ _ _ _ rfl (by decide +kernel) (by decide +kernel) (@snd_sortSet _ _ _ _ _ _ _ _ _ (@snd_oVar _ _ _ _ rfl (by decide +kernel) (by decide +kernel)) rfl (by decide +kernel) (by decide +kernel) (by decide +kernel) (by decide +kernel)) rfl)
  (@snd_cons _ _ _ _ _ (@snd_set _ _ _ _ _ _ _ _ rfl (by decide +kernel) (by decide +kernel) (@e_neg _ _ _ _ _ (@snd_osCons _ _ _ _ _ _ _ _ (@snd_oOf _ _ _ _ (@snd_lit _ _ _ _ _ rfl)) (@snd_osNil _) rfl)) rfl)
  (@snd_cons _ _ _ _ _ (@snd_while _ _ _ _ _ _ _ (@t_ne _ _ _ _ _ _ (@snd_osCons _ _ _ _ _ _ _ _ (@snd_oVar _ _ _ _ rfl (by decide +kernel) (by decide +kernel)) (@snd_osCons _ _ _ _ _ _ _ _ (@snd_oOf _ _ _ _ (@e_len _ _ _ _ _ _ _ (@snd_osCons _ _ _ _ _ _ _ _ (@snd_oVar _ _ _ _ rfl (by decide +kernel) (by decide +kernel)) (@snd_osNil _) rfl) rfl (by decide +kernel) (by decide +kernel))) (@snd_osNil _) rfl) rfl) rfl)
  (@snd_cons _ _ _ _ _ (@snd_set _ _ _ _ _ _ _ _ rfl (by decide +kernel) (by decide +kernel) (@e_len _ _ _ _ _ _ _ (@snd_osCons _ _ _ _ _ _ _ _ (@snd_oVar _ _ _ _ rfl (by decide +kernel) (by decide +kernel)) (@snd_osNil _) rfl) rfl (by decide +kernel) (by decide +kernel)) rfl)
  (@snd_cons _ _ _ _ _ (@snd_set _ _ _ _ _ _ _ _ rfl (by decide +kernel) (by decide +kernel) (@snd_lst _ _ _ _ _ (@snd_fsNil _) rfl) rfl)
  (@snd_cons _ _ _ _ _ (@snd_for _ _ _ _ _ _ _ _ _ (@snd_iSeq _ _ _ _ _ _ (@snd_oOf _ _ _ _ (@snd_var _ _ _ _ rfl (by decide +kernel) (by decide +kernel)))) (.tp (.cons rfl (by decide +kernel) (.cons rfl (by decide +kernel) (.nil)))) (by decide +kernel)
  (@snd_one' _ _ _ (@snd_set _ _ _ _ _ _ _ _ rfl (by decide +kernel) (by decide +kernel) (@e_add _ _ _ _ _ _ (@snd_osCons _ _ _ _ _ _ _ _ (@snd_oVar _ _ _ _ rfl (by decide +kernel) (by decide +kernel)) (@snd_osCons _ _ _ _ _ _ _ _ (@snd_oOf _ _ _ _ (@snd_lc _ _ _ _ _ _ [("c", 6), ("d", 7)] _ _ _ _ _ _ _ _ (@snd_iSeq _ _ _ _ _ _ (@snd_oOf _ _ _ _ (@snd_var _ _ _ _ rfl (by decide +kernel) (by decide +kernel)))) (.tp (.cons rfl (by decide +kernel) (.cons rfl (by decide +kernel) (.nil)))) rfl (by decide +kernel) (.one (@t_eq _ _ _ _ _ _ (@snd_osCons _ _ _ _ _ _ _ _ (@snd_oVar _ _ _ _ rfl (by decide +kernel) (by decide +kernel)) (@snd_osCons _ _ _ _ _ _ _ _ (@snd_oVar _ _ _ _ rfl (by decide +kernel) (by decide +kernel)) (@snd_osNil _) rfl) rfl) rfl)) (@snd_tup _ _ _ _ _ _ (@snd_fsCons _ _ _ _ _ _ _ (@snd_var _ _ _ _ rfl (by decide +kernel) (by decide +kernel)) (@snd_fsCons _ _ _ _ _ _ _ (@snd_var _ _ _ _ rfl (by decide +kernel) (by decide +kernel)) (@snd_fsNil _))) rfl) rfl)) (@snd_osNil _) rfl) rfl)) rfl)) rfl)
  (@snd_one' _ _ _ (@snd_set _ _ _ _ _ _ _ _ rfl (by decide +kernel) (by decide +kernel) (@snd_sortSet _ _ _ _ _ _ _ _ _ (@snd_oOf _ _ _ _ (@e_add _ _ _ _ _ _ (@snd_osCons _ _ _ _ _ _ _ _ (@snd_oVar _ _ _ _ rfl (by decide +kernel) (by decide +kernel)) (@snd_osCons _ _ _ _ _ _ _ _ (@snd_oVar _ _ _ _ rfl (by decide +kernel) (by decide +kernel)) (@snd_osNil _) rfl) rfl))) rfl (by decide +kernel) (by decide +kernel) (by decide +kernel) (by decide +kernel)) rfl))))))
  (@snd_one' _ _ _ (@snd_ret _ _ _ _ _ (@e_tupOf _ _ _ _ _ _ _ (@snd_osCons _ _ _ _ _ _ _ _ (@snd_oVar _ _ _ _ rfl (by decide +kernel) (by decide +kernel)) (@snd_osNil _) rfl) rfl (by decide +kernel) (by decide +kernel))))))
theorem s__law_order : SndSs c__law_order (defBody (topS 38)) b__law_order := @snd_cons _ _ _ _ _ (@snd_set _ _ _ _ _ _ _ _ rfl (by decide +kernel) (by decide +kernel) (@e_add _ _ _ _ _ _ (@snd_osCons _ _ _ _ _ _ _ _ (@snd_oOf _ _ _ _ (@snd_lit _ _ _ _ _ rfl)) (@snd_osCons _ _ _ _ _ _ _ _ (@snd_oOf _ _ _ _ (@snd_call _ _ _ _ _ _ _ _ (by decide +kernel) (@snd_asVar _ _ _ _ _ _ rfl (by decide +kernel) (by decide +kernel) (@snd_asVar _ _ _ _ _ _ rfl (by decide +kernel) (by decide +kernel) (@snd_asNil _))) rfl (by decide +kernel) (by decide +kernel))) (@snd_osNil _) rfl) rfl)) rfl)
  (@snd_cons _ _ _ _ _ (@snd_set _ _ _ _ _ _ _ _ rfl (by decide +kernel) (by decide +kernel) (@snd_call _ _ _ _ _ _ _ _ (by decide +kernel) (@snd_asVar _ _ _ _ _ _ rfl (by decide +kernel) (by decide +kernel) (@snd_asExp _ _ _ _ _ _ (@snd_listR1 _ _ _ _ _ _ _ _ _ (@snd_oVar _ _ _ _ rfl (by decide +kernel) (by decide +kernel)) rfl (by decide +kernel) (by decide +kernel) (by decide +kernel) (by decide +kernel)) (@snd_asNil _))) rfl (by decide +kernel) (by decide +kernel)) rfl)
  (@snd_cons _ _ _ _ _ (@snd_set _ _ _ _ _ _ _ _ rfl (by decide +kernel) (by decide +kernel) (@e_ix _ _ _ _ _ _ (@snd_osCons _ _ _ _ _ _ _ _ (@snd_oOf _ _ _ _ (@snd_lst _ _ _ _ _ (@snd_fsCons _ _ _ _ _ _ _ (@snd_lit _ _ _ _ _ rfl) (@snd_fsCons _ _ _ _ _ _ _ (@snd_lit _ _ _ _ _ rfl) (@snd_fsCons _ _ _ _ _ _ _ (@snd_lit _ _ _ _ _ rfl) (@snd_fsCons _ _ _ _ _ _ _ (@snd_lit _ _ _ _ _ rfl) (@snd_fsNil _))))) rfl)) (@snd_osCons _ _ _ _ _ _ _ _ (@snd_oOf _ _ _ _ (@snd_call _ _ _ _ _ _ _ _ (by decide +kernel) (@snd_asVar _ _ _ _ _ _ rfl (by decide +kernel) (by decide +kernel) (@snd_asExp _ _ _ _ _ _ (@snd_lit _ _ _ _ _ rfl) (@snd_asNil _))) rfl (by decide +kernel) (by decide +kernel))) (@snd_osNil _) rfl) rfl) rfl) rfl)
  (@snd_cons _ _ _ _ _ (@snd_set _ _ _ _ _ _ _ _ rfl (by decide +kernel) (by decide +kernel) (@snd_lst _ _ _ _ _ (@snd_fsNil _) rfl) rfl)
  (@snd_cons _ _ _ _ _ (@snd_for _ _ _ _ _ _ _ _ _ (@snd_iR1 _ _ _ _ _ _ _ _ (@snd_oVar _ _ _ _ rfl (by decide +kernel) (by decide +kernel)) rfl (by decide +kernel) (by decide +kernel)) (.nm rfl (by decide +kernel)) (by decide +kernel)
  (@snd_one' _ _ _ (@snd_for _ _ _ _ _ _ _ _ _ (@snd_iR2 _ _ _ _ _ _ _ _ _ _ _ _ (@snd_oOf _ _ _ _ (@e_add _ _ _ _ _ _ (@snd_osCons _ _ _ _ _ _ _ _ (@snd_oVar _ _ _ _ rfl (by decide +kernel) (by decide +kernel)) (@snd_osCons _ _ _ _ _ _ _ _ (@snd_oOf _ _ _ _ (@snd_lit _ _ _ _ _ rfl)) (@snd_osNil _) rfl) rfl))) (@snd_oVar _ _ _ _ rfl (by decide +kernel) (by decide +kernel)) rfl rfl (by decide +kernel) (by decide +kernel)) (.nm rfl (by decide +kernel)) (by decide +kernel)
  (@snd_one' _ _ _ (@snd_if _ _ _ _ _ _ _ _ _ (@t_eq _ _ _ _ _ _ (@snd_osCons _ _ _ _ _ _ _ _ (@snd_oOf _ _ _ _ (@snd_call _ _ _ _ _ _ _ _ (by decide +kernel) (@snd_asVar _ _ _ _ _ _ rfl (by decide +kernel) (by decide +kernel) (@snd_asVar _ _ _ _ _ _ rfl (by decide +kernel) (by decide +kernel) (@snd_asNil _))) rfl (by decide +kernel) (by decide +kernel))) (@snd_osCons _ _ _ _ _ _ _ _ (@snd_oOf _ _ _ _ (@snd_lit _ _ _ _ _ rfl)) (@snd_osNil _) rfl) rfl) rfl)
  (@snd_one' _ _ _ (@snd_do _ _ _ _ _ (@u_append _ _ _ _ _ _ _ _ _ rfl (by decide +kernel) (by decide +kernel) (@snd_fsCons _ _ _ _ _ _ _ (@snd_tup _ _ _ _ _ _ (@snd_fsCons _ _ _ _ _ _ _ (@e_ix _ _ _ _ _ _ (@snd_osCons _ _ _ _ _ _ _ _ (@snd_oVar _ _ _ _ rfl (by decide +kernel) (by decide +kernel)) (@snd_osCons _ _ _ _ _ _ _ _ (@snd_oVar _ _ _ _ rfl (by decide +kernel) (by decide +kernel)) (@snd_osNil _) rfl) rfl) rfl) (@snd_fsCons _ _ _ _ _ _ _ (@e_ix _ _ _ _ _ _ (@snd_osCons _ _ _ _ _ _ _ _ (@snd_oVar _ _ _ _ rfl (by decide +kernel) (by decide +kernel)) (@snd_osCons _ _ _ _ _ _ _ _ (@snd_oVar _ _ _ _ rfl (by decide +kernel) (by decide +kernel)) (@snd_osNil _) rfl) rfl) rfl) (@snd_fsNil _))) rfl) (@snd_fsNil _)) rfl rfl) rfl))
  (@snd_nil _))) rfl)) rfl)
  (@snd_one' _ _ _ (@snd_ret _ _ _ _ _ (@snd_tup _ _ _ _ _ _ (@snd_fsCons _ _ _ _ _ _ _ (@snd_var _ _ _ _ rfl (by decide +kernel) (by decide +kernel)) (@snd_fsCons _ _ _ _ _ _ _ (@snd_call _ _ _ _ _ _ _ _ (by decide +kernel) (@snd_asVar _ _ _ _ _ _ rfl (by decide +kernel) (by decide +kernel) (@snd_asNil _)) rfl (by decide +kernel) (by decide +kernel)) (@snd_fsNil _))) rfl)))))))
theorem s__law_next : SndSs c__law_next (defBody (topS 40)) b__law_next := @snd_cons _ _ _ _ _ (@snd_set _ _ _ _ _ _ _ _ rfl (by decide +kernel) (by decide +kernel) (@snd_lst _ _ _ _ _ (@snd_fsNil _) rfl) rfl)
  (@snd_cons _ _ _ _ _ (@snd_for _ _ _ _ _ _ _ _ _ (@snd_iSeq _ _ _ _ _ _ (@snd_oOf _ _ _ _ (@snd_var _ _ _ _ rfl (by decide +kernel) (by decide +kernel)))) (.tp (.cons rfl (by decide +kernel) (.cons rfl (by decide +kernel) (.nil)))) (by decide +kernel)
  (@snd_one' _ _ _ (@snd_if _ _ _ _ _ _ _ _ _ (@t_eq _ _ _ _ _ _ (@snd_osCons _ _ _ _ _ _ _ _ (@snd_oOf _ _ _ _ (@snd_lc _ _ _ _ _ _ [("c", 5)] _ _ _ _ _ _ _ _ (@snd_iR1 _ _ _ _ _ _ _ _ (@snd_oVar _ _ _ _ rfl (by decide +kernel) (by decide +kernel)) rfl (by decide +kernel) (by decide +kernel)) (.nm rfl (by decide +kernel)) rfl (by decide +kernel) (.one (@snd_andT _ _ _ _ _ _ _ _ _ (@t_in _ _ _ _ _ _ (@snd_osCons _ _ _ _ _ _ _ _ (@snd_oOf _ _ _ _ (@snd_tup _ _ _ _ _ _ (@snd_fsCons _ _ _ _ _ _ _ (@snd_var _ _ _ _ rfl (by decide +kernel) (by decide +kernel)) (@snd_fsCons _ _ _ _ _ _ _ (@snd_var _ _ _ _ rfl (by decide +kernel) (by decide +kernel)) (@snd_fsNil _))) rfl)) (@snd_osCons _ _ _ _ _ _ _ _ (@snd_oVar _ _ _ _ rfl (by decide +kernel) (by decide +kernel)) (@snd_osNil _) rfl) rfl) rfl) (@snd_oneT _ _ _ _ _ _ (@t_in _ _ _ _ _ _ (@snd_osCons _ _ _ _ _ _ _ _ (@snd_oOf _ _ _ _ (@snd_tup _ _ _ _ _ _ (@snd_fsCons _ _ _ _ _ _ _ (@snd_var _ _ _ _ rfl (by decide +kernel) (by decide +kernel)) (@snd_fsCons _ _ _ _ _ _ _ (@snd_var _ _ _ _ rfl (by decide +kernel) (by decide +kernel)) (@snd_fsNil _))) rfl)) (@snd_osCons _ _ _ _ _ _ _ _ (@snd_oVar _ _ _ _ rfl (by decide +kernel) (by decide +kernel)) (@snd_osNil _) rfl) rfl) rfl)))) (@snd_var _ _ _ _ rfl (by decide +kernel) (by decide +kernel)) rfl)) (@snd_osCons _ _ _ _ _ _ _ _ (@snd_oOf _ _ _ _ (@snd_lst _ _ _ _ _ (@snd_fsNil _) rfl)) (@snd_osNil _) rfl) rfl) rfl)
  (@snd_one' _ _ _ (@snd_do _ _ _ _ _ (@u_append _ _ _ _ _ _ _ _ _ rfl (by decide +kernel) (by decide +kernel) (@snd_fsCons _ _ _ _ _ _ _ (@snd_tup _ _ _ _ _ _ (@snd_fsCons _ _ _ _ _ _ _ (@snd_var _ _ _ _ rfl (by decide +kernel) (by decide +kernel)) (@snd_fsCons _ _ _ _ _ _ _ (@snd_var _ _ _ _ rfl (by decide +kernel) (by decide +kernel)) (@snd_fsNil _))) rfl) (@snd_fsNil _)) rfl rfl) rfl))
  (@snd_nil _))) rfl)
  (@snd_one' _ _ _ (@snd_retV _ _ _ _ _ rfl (by decide +kernel) (by decide +kernel) (by decide +kernel))))
theorem s__law_read : SndSs c__law_read (defBody (topS 41)) b__law_read := @snd_cons _ _ _ _ _ (@snd_set _ _ _ _ _ _ _ _ rfl (by decide +kernel) (by decide +kernel) (@e_split _ _ _ _ _ _ _ _ _ _ _ (@snd_oVar _ _ _ _ rfl (by decide +kernel) (by decide +kernel)) (@snd_osCons _ _ _ _ _ _ _ _ (@snd_oOf _ _ _ _ (@snd_lit _ _ _ _ _ rfl)) (@snd_osNil _) rfl) rfl rfl (by decide +kernel) rfl rfl) rfl)
  (@snd_cons _ _ _ _ _ (@snd_if _ _ _ _ _ _ _ _ _ (@t_nin _ _ _ _ _ _ (@snd_osCons _ _ _ _ _ _ _ _ (@snd_oOf _ _ _ _ (@e_ix _ _ _ _ _ _ (@snd_osCons _ _ _ _ _ _ _ _ (@snd_oVar _ _ _ _ rfl (by decide +kernel) (by decide +kernel)) (@snd_osCons _ _ _ _ _ _ _ _ (@snd_oOf _ _ _ _ (@snd_lit _ _ _ _ _ rfl)) (@snd_osNil _) rfl) rfl) rfl)) (@snd_osCons _ _ _ _ _ _ _ _ (@snd_oOf _ _ _ _ (@snd_const _ 12 _ _ (by decide +kernel))) (@snd_osNil _) rfl) rfl) rfl)
  (@snd_one' _ _ _ (@snd_ret _ _ _ _ _ (@snd_lit _ _ _ _ _ rfl)))
  (@snd_nil _))
  (@snd_cons _ _ _ _ _ (@snd_set _ _ _ _ _ _ _ _ rfl (by decide +kernel) (by decide +kernel) (@e_intS _ _ _ _ _ _ _ (@snd_osCons _ _ _ _ _ _ _ _ (@snd_oOf _ _ _ _ (@e_ix _ _ _ _ _ _ (@snd_osCons _ _ _ _ _ _ _ _ (@snd_oVar _ _ _ _ rfl (by decide +kernel) (by decide +kernel)) (@snd_osCons _ _ _ _ _ _ _ _ (@snd_oOf _ _ _ _ (@snd_lit _ _ _ _ _ rfl)) (@snd_osNil _) rfl) rfl) rfl)) (@snd_osNil _) rfl) rfl (by decide +kernel) (by decide +kernel)) rfl)
  (@snd_cons _ _ _ _ _ (@snd_set _ _ _ _ _ _ _ _ rfl (by decide +kernel) (by decide +kernel) (@snd_lst _ _ _ _ _ (@snd_fsNil _) rfl) rfl)
  (@snd_cons _ _ _ _ _ (@snd_for _ _ _ _ _ _ _ _ _ (@snd_iEnum _ _ _ _ _ _ _ _ _ (@snd_var _ _ _ _ rfl (by decide +kernel) (by decide +kernel)) rfl (by decide +kernel) (by decide +kernel)) (.tp (.cons rfl (by decide +kernel) (.cons rfl (by decide +kernel) (.nil)))) (by decide +kernel)
  (@snd_one' _ _ _ (@snd_if _ _ _ _ _ _ _ _ _ (@t_gt _ _ _ _ _ _ (@snd_osCons _ _ _ _ _ _ _ _ (@snd_oVar _ _ _ _ rfl (by decide +kernel) (by decide +kernel)) (@snd_osCons _ _ _ _ _ _ _ _ (@snd_oOf _ _ _ _ (@snd_lit _ _ _ _ _ rfl)) (@snd_osNil _) rfl) rfl) rfl)
  (@snd_cons _ _ _ _ _ (@snd_if _ _ _ _ _ _ _ _ _ (@snd_orT _ _ _ _ _ _ _ _ _ (@t_ne _ _ _ _ _ _ (@snd_osCons _ _ _ _ _ _ _ _ (@snd_oOf _ _ _ _ (@e_len _ _ _ _ _ _ _ (@snd_osCons _ _ _ _ _ _ _ _ (@snd_oVar _ _ _ _ rfl (by decide +kernel) (by decide +kernel)) (@snd_osNil _) rfl) rfl (by decide +kernel) (by decide +kernel))) (@snd_osCons _ _ _ _ _ _ _ _ (@snd_oOf _ _ _ _ (@snd_lit _ _ _ _ _ rfl)) (@snd_osNil _) rfl) rfl) rfl) (@snd_orT _ _ _ _ _ _ _ _ _ (@t_ne _ _ _ _ _ _ (@snd_osCons _ _ _ _ _ _ _ _ (@snd_oOf _ _ _ _ (@e_ix _ _ _ _ _ _ (@snd_osCons _ _ _ _ _ _ _ _ (@snd_oVar _ _ _ _ rfl (by decide +kernel) (by decide +kernel)) (@snd_osCons _ _ _ _ _ _ _ _ (@snd_oOf _ _ _ _ (@snd_lit _ _ _ _ _ rfl)) (@snd_osNil _) rfl) rfl) rfl)) (@snd_osCons _ _ _ _ _ _ _ _ (@snd_oOf _ _ _ _ (@snd_lit _ _ _ _ _ rfl)) (@snd_osNil _) rfl) rfl) rfl) (@snd_orT _ _ _ _ _ _ _ _ _ (@t_ninS _ _ _ _ _ _ (@snd_osCons _ _ _ _ _ _ _ _ (@snd_oOf _ _ _ _ (@e_ix _ _ _ _ _ _ (@snd_osCons _ _ _ _ _ _ _ _ (@snd_oVar _ _ _ _ rfl (by decide +kernel) (by decide +kernel)) (@snd_osCons _ _ _ _ _ _ _ _ (@snd_oOf _ _ _ _ (@snd_lit _ _ _ _ _ rfl)) (@snd_osNil _) rfl) rfl) rfl)) (@snd_osCons _ _ _ _ _ _ _ _ (@snd_oOf _ _ _ _ (@snd_lit _ _ _ _ _ rfl)) (@snd_osNil _) rfl) rfl) rfl) (@snd_oneT _ _ _ _ _ _ (@t_ninS _ _ _ _ _ _ (@snd_osCons _ _ _ _ _ _ _ _ (@snd_oOf _ _ _ _ (@e_ix _ _ _ _ _ _ (@snd_osCons _ _ _ _ _ _ _ _ (@snd_oVar _ _ _ _ rfl (by decide +kernel) (by decide +kernel)) (@snd_osCons _ _ _ _ _ _ _ _ (@snd_oOf _ _ _ _ (@snd_lit _ _ _ _ _ rfl)) (@snd_osNil _) rfl) rfl) rfl)) (@snd_osCons _ _ _ _ _ _ _ _ (@snd_oOf _ _ _ _ (@snd_lit _ _ _ _ _ rfl)) (@snd_osNil _) rfl) rfl) rfl)))))
  (@snd_one' _ _ _ (@snd_retV _ _ _ _ _ rfl (by decide +kernel) (by decide +kernel) (by decide +kernel)))
  (@snd_nil _))
  (@snd_cons _ _ _ _ _ (@snd_set _ _ _ _ _ _ _ _ rfl (by decide +kernel) (by decide +kernel) (@snd_tup _ _ _ _ _ _ (@snd_fsCons _ _ _ _ _ _ _ (@e_intS _ _ _ _ _ _ _ (@snd_osCons _ _ _ _ _ _ _ _ (@snd_oOf _ _ _ _ (@e_ix _ _ _ _ _ _ (@snd_osCons _ _ _ _ _ _ _ _ (@snd_oVar _ _ _ _ rfl (by decide +kernel) (by decide +kernel)) (@snd_osCons _ _ _ _ _ _ _ _ (@snd_oOf _ _ _ _ (@snd_lit _ _ _ _ _ rfl)) (@snd_osNil _) rfl) rfl) rfl)) (@snd_osNil _) rfl) rfl (by decide +kernel) (by decide +kernel)) (@snd_fsCons _ _ _ _ _ _ _ (@e_intS _ _ _ _ _ _ _ (@snd_osCons _ _ _ _ _ _ _ _ (@snd_oOf _ _ _ _ (@e_ix _ _ _ _ _ _ (@snd_osCons _ _ _ _ _ _ _ _ (@snd_oVar _ _ _ _ rfl (by decide +kernel) (by decide +kernel)) (@snd_osCons _ _ _ _ _ _ _ _ (@snd_oOf _ _ _ _ (@snd_lit _ _ _ _ _ rfl)) (@snd_osNil _) rfl) rfl) rfl)) (@snd_osNil _) rfl) rfl (by decide +kernel) (by decide +kernel)) (@snd_fsNil _))) rfl) rfl)
  (@snd_cons _ _ _ _ _ (@snd_if _ _ _ _ _ _ _ _ _ (@snd_orT _ _ _ _ _ _ _ _ _ (@t_eq _ _ _ _ _ _ (@snd_osCons _ _ _ _ _ _ _ _ (@snd_oOf _ _ _ _ (@e_ix _ _ _ _ _ _ (@snd_osCons _ _ _ _ _ _ _ _ (@snd_oVar _ _ _ _ rfl (by decide +kernel) (by decide +kernel)) (@snd_osCons _ _ _ _ _ _ _ _ (@snd_oOf _ _ _ _ (@snd_lit _ _ _ _ _ rfl)) (@snd_osNil _) rfl) rfl) rfl)) (@snd_osCons _ _ _ _ _ _ _ _ (@snd_oOf _ _ _ _ (@e_ix _ _ _ _ _ _ (@snd_osCons _ _ _ _ _ _ _ _ (@snd_oVar _ _ _ _ rfl (by decide +kernel) (by decide +kernel)) (@snd_osCons _ _ _ _ _ _ _ _ (@snd_oOf _ _ _ _ (@snd_lit _ _ _ _ _ rfl)) (@snd_osNil _) rfl) rfl) rfl)) (@snd_osNil _) rfl) rfl) rfl) (@snd_orT _ _ _ _ _ _ _ _ _ (@t_ge _ _ _ _ _ _ (@snd_osCons _ _ _ _ _ _ _ _ (@snd_oOf _ _ _ _ (@e_maxT _ _ _ _ _ _ _ (@snd_osCons _ _ _ _ _ _ _ _ (@snd_oVar _ _ _ _ rfl (by decide +kernel) (by decide +kernel)) (@snd_osNil _) rfl) rfl (by decide +kernel) (by decide +kernel))) (@snd_osCons _ _ _ _ _ _ _ _ (@snd_oVar _ _ _ _ rfl (by decide +kernel) (by decide +kernel)) (@snd_osNil _) rfl) rfl) rfl) (@snd_oneT _ _ _ _ _ _ (@snd_andT _ _ _ _ _ _ _ _ _ (@t_ne _ _ _ _ _ _ (@snd_osCons _ _ _ _ _ _ _ _ (@snd_oVar _ _ _ _ rfl (by decide +kernel) (by decide +kernel)) (@snd_osCons _ _ _ _ _ _ _ _ (@snd_oOf _ _ _ _ (@snd_lst _ _ _ _ _ (@snd_fsNil _) rfl)) (@snd_osNil _) rfl) rfl) rfl) (@snd_oneT _ _ _ _ _ _ (@t_leT _ _ _ _ _ _ (@snd_osCons _ _ _ _ _ _ _ _ (@snd_oVar _ _ _ _ rfl (by decide +kernel) (by decide +kernel)) (@snd_osCons _ _ _ _ _ _ _ _ (@snd_oOf _ _ _ _ (@e_ix _ _ _ _ _ _ (@snd_osCons _ _ _ _ _ _ _ _ (@snd_oVar _ _ _ _ rfl (by decide +kernel) (by decide +kernel)) (@snd_osCons _ _ _ _ _ _ _ _ (@snd_oOf _ _ _ _ (@e_neg _ _ _ _ _ (@snd_osCons _ _ _ _ _ _ _ _ (@snd_oOf _ _ _ _ (@snd_lit _ _ _ _ _ rfl)) (@snd_osNil _) rfl))) (@snd_osNil _) rfl) rfl) rfl)) (@snd_osNil _) rfl) rfl) rfl))))))
  (@snd_one' _ _ _ (@snd_retV _ _ _ _ _ rfl (by decide +kernel) (by decide +kernel) (by decide +kernel)))
  (@snd_nil _))
  (@snd_one' _ _ _ (@snd_do _ _ _ _ _ (@u_append _ _ _ _ _ _ _ _ _ rfl (by decide +kernel) (by decide +kernel) (@snd_fsCons _ _ _ _ _ _ _ (@snd_var _ _ _ _ rfl (by decide +kernel) (by decide +kernel)) (@snd_fsNil _)) rfl rfl) rfl)))))
  (@snd_nil _))) rfl)
  (@snd_cons _ _ _ _ _ (@snd_set _ _ _ _ _ _ _ _ rfl (by decide +kernel) (by decide +kernel) (@snd_call _ _ _ _ _ _ _ _ (by decide +kernel) (@snd_asVar _ _ _ _ _ _ rfl (by decide +kernel) (by decide +kernel) (@snd_asNil _)) rfl (by decide +kernel) (by decide +kernel)) rfl)
  (@snd_cons _ _ _ _ _ (@snd_if _ _ _ _ _ _ _ _ _ (@snd_orT _ _ _ _ _ _ _ _ _ (@t_ne _ _ _ _ _ _ (@snd_osCons _ _ _ _ _ _ _ _ (@snd_oOf _ _ _ _ (@snd_lc _ _ _ _ _ _ [("a", 8), ("b", 9)] _ _ _ _ _ _ _ _ (@snd_iSeq _ _ _ _ _ _ (@snd_oOf _ _ _ _ (@snd_var _ _ _ _ rfl (by decide +kernel) (by decide +kernel)))) (.tp (.cons rfl (by decide +kernel) (.cons rfl (by decide +kernel) (.nil)))) rfl (by decide +kernel) (.one (@t_eq _ _ _ _ _ _ (@snd_osCons _ _ _ _ _ _ _ _ (@snd_oVar _ _ _ _ rfl (by decide +kernel) (by decide +kernel)) (@snd_osCons _ _ _ _ _ _ _ _ (@snd_oVar _ _ _ _ rfl (by decide +kernel) (by decide +kernel)) (@snd_osNil _) rfl) rfl) rfl)) (@snd_var _ _ _ _ rfl (by decide +kernel) (by decide +kernel)) rfl)) (@snd_osCons _ _ _ _ _ _ _ _ (@snd_oOf _ _ _ _ (@snd_lst _ _ _ _ _ (@snd_fsNil _) rfl)) (@snd_osNil _) rfl) rfl) rfl) (@snd_oneT _ _ _ _ _ _ (@t_ne _ _ _ _ _ _ (@snd_osCons _ _ _ _ _ _ _ _ (@snd_oOf _ _ _ _ (@snd_call _ _ _ _ _ _ _ _ (by decide +kernel) (@snd_asVar _ _ _ _ _ _ rfl (by decide +kernel) (by decide +kernel) (@snd_asVar _ _ _ _ _ _ rfl (by decide +kernel) (by decide +kernel) (@snd_asNil _))) rfl (by decide +kernel) (by decide +kernel))) (@snd_osCons _ _ _ _ _ _ _ _ (@snd_oVar _ _ _ _ rfl (by decide +kernel) (by decide +kernel)) (@snd_osNil _) rfl) rfl) rfl)))
  (@snd_one' _ _ _ (@snd_ret _ _ _ _ _ (@e_len _ _ _ _ _ _ _ (@snd_osCons _ _ _ _ _ _ _ _ (@snd_oVar _ _ _ _ rfl (by decide +kernel) (by decide +kernel)) (@snd_osNil _) rfl) rfl (by decide +kernel) (by decide +kernel))))
  (@snd_nil _))
  (@snd_one' _ _ _ (@snd_ret _ _ _ _ _ (@snd_tup _ _ _ _ _ _ (@snd_fsCons _ _ _ _ _ _ _ (@snd_var _ _ _ _ rfl (by decide +kernel) (by decide +kernel)) (@snd_fsCons _ _ _ _ _ _ _ (@snd_var _ _ _ _ rfl (by decide +kernel) (by decide +kernel)) (@snd_fsNil _))) rfl)))))))))
theorem s__law_said : SndSs c__law_said (defBody (topS 42)) b__law_said := @snd_one' _ _ _ (@snd_tryA _ _ _ _ _ _ _ _ _ _ _ _ _ _ _ _ _ _ _ _ _ _ _ _ _ _ _ (@snd_one' _ _ _ (@snd_ret _ _ _ _ _ (@snd_call _ _ _ _ _ _ _ _ (by decide +kernel) (@snd_asVar _ _ _ _ _ _ rfl (by decide +kernel) (by decide +kernel) (@snd_asNil _)) rfl (by decide +kernel) (by decide +kernel)))) (rfl : c__law_said.N[1]? = some ("e" : Str)) (by decide +kernel) (by decide +kernel) (by decide +kernel) (by decide +kernel) (by decide +kernel))
theorem s__law_bent : SndSs c__law_bent (defBody (topS 43)) b__law_bent := @snd_cons _ _ _ _ _ (@snd_set _ _ _ _ _ _ _ _ rfl (by decide +kernel) (by decide +kernel) (@e_split _ _ _ _ _ _ _ _ _ _ _ (@snd_oVar _ _ _ _ rfl (by decide +kernel) (by decide +kernel)) (@snd_osCons _ _ _ _ _ _ _ _ (@snd_oOf _ _ _ _ (@snd_lit _ _ _ _ _ rfl)) (@snd_osNil _) rfl) rfl rfl (by decide +kernel) rfl rfl) rfl)
  (@snd_cons _ _ _ _ _ (@snd_set _ _ _ _ _ _ _ _ rfl (by decide +kernel) (by decide +kernel) (@snd_call _ _ _ _ _ _ _ _ (by decide +kernel) (@snd_asVar _ _ _ _ _ _ rfl (by decide +kernel) (by decide +kernel) (@snd_asExp _ _ _ _ _ _ (@e_len _ _ _ _ _ _ _ (@snd_osCons _ _ _ _ _ _ _ _ (@snd_oVar _ _ _ _ rfl (by decide +kernel) (by decide +kernel)) (@snd_osNil _) rfl) rfl (by decide +kernel) (by decide +kernel)) (@snd_asNil _))) rfl (by decide +kernel) (by decide +kernel)) rfl)
  (@snd_cons _ _ _ _ _ (@snd_set _ _ _ _ _ _ _ _ rfl (by decide +kernel) (by decide +kernel) (@snd_call _ _ _ _ _ _ _ _ (by decide +kernel) (@snd_asVar _ _ _ _ _ _ rfl (by decide +kernel) (by decide +kernel) (@snd_asExp _ _ _ _ _ _ (@e_add _ _ _ _ _ _ (@snd_osCons _ _ _ _ _ _ _ _ (@snd_oOf _ _ _ _ (@e_len _ _ _ _ _ _ _ (@snd_osCons _ _ _ _ _ _ _ _ (@snd_oVar _ _ _ _ rfl (by decide +kernel) (by decide +kernel)) (@snd_osNil _) rfl) rfl (by decide +kernel) (by decide +kernel))) (@snd_osCons _ _ _ _ _ _ _ _ (@snd_oOf _ _ _ _ (@snd_lit _ _ _ _ _ rfl)) (@snd_osNil _) rfl) rfl)) (@snd_asNil _))) rfl (by decide +kernel) (by decide +kernel)) rfl)
  (@snd_cons _ _ _ _ _ (@snd_set _ _ _ _ _ _ _ _ rfl (by decide +kernel) (by decide +kernel) (@e_ix _ _ _ _ _ _ (@snd_osCons _ _ _ _ _ _ _ _ (@snd_oOf _ _ _ _ (@snd_lit _ _ _ _ _ rfl)) (@snd_osCons _ _ _ _ _ _ _ _ (@snd_oOf _ _ _ _ (@snd_call _ _ _ _ _ _ _ _ (by decide +kernel) (@snd_asVar _ _ _ _ _ _ rfl (by decide +kernel) (by decide +kernel) (@snd_asExp _ _ _ _ _ _ (@snd_lit _ _ _ _ _ rfl) (@snd_asNil _))) rfl (by decide +kernel) (by decide +kernel))) (@snd_osNil _) rfl) rfl) rfl) rfl)
  (@snd_cons _ _ _ _ _ (@snd_par _ _ _ _ _ _ _ _ _ _ _ _ _ _ _ _ rfl rfl (by decide +kernel) (by decide +kernel) (by decide +kernel) (by decide +kernel) (by decide +kernel) (@snd_fsCons _ _ _ _ _ _ _ (@snd_call _ _ _ _ _ _ _ _ (by decide +kernel) (@snd_asVar _ _ _ _ _ _ rfl (by decide +kernel) (by decide +kernel) (@snd_asExp _ _ _ _ _ _ (@snd_lit _ _ _ _ _ rfl) (@snd_asNil _))) rfl (by decide +kernel) (by decide +kernel)) (@snd_fsCons _ _ _ _ _ _ _ (@snd_call _ _ _ _ _ _ _ _ (by decide +kernel) (@snd_asVar _ _ _ _ _ _ rfl (by decide +kernel) (by decide +kernel) (@snd_asExp _ _ _ _ _ _ (@snd_lit _ _ _ _ _ rfl) (@snd_asNil _))) rfl (by decide +kernel) (by decide +kernel)) (@snd_fsNil _))) rfl (by decide +kernel) rfl (by decide +kernel) (by decide +kernel))
  (@snd_cons _ _ _ _ _ (@snd_set _ _ _ _ _ _ _ _ rfl (by decide +kernel) (by decide +kernel) (@snd_call _ _ _ _ _ _ _ _ (by decide +kernel) (@snd_asVar _ _ _ _ _ _ rfl (by decide +kernel) (by decide +kernel) (@snd_asExp _ _ _ _ _ _ (@snd_lit _ _ _ _ _ rfl) (@snd_asNil _))) rfl (by decide +kernel) (by decide +kernel)) rfl)
  (@snd_cons _ _ _ _ _ (@snd_if _ _ _ _ _ _ _ _ _ (@t_lt _ _ _ _ _ _ (@snd_osCons _ _ _ _ _ _ _ _ (@snd_oVar _ _ _ _ rfl (by decide +kernel) (by decide +kernel)) (@snd_osCons _ _ _ _ _ _ _ _ (@snd_oOf _ _ _ _ (@snd_lit _ _ _ _ _ rfl)) (@snd_osNil _) rfl) rfl) rfl)
  (@snd_one' _ _ _ (@snd_ret _ _ _ _ _ (@e_add _ _ _ _ _ _ (@snd_osCons _ _ _ _ _ _ _ _ (@snd_oOf _ _ _ _ (@e_add _ _ _ _ _ _ (@snd_osCons _ _ _ _ _ _ _ _ (@snd_oOf _ _ _ _ (@e_slc _ _ _ _ _ _ _ _ _ _ _ _ _ (@snd_oVar _ _ _ _ rfl (by decide +kernel) (by decide +kernel)) (snd_part0) (@snd_part1 _ _ _ _ _ (@snd_oVar _ _ _ _ rfl (by decide +kernel) (by decide +kernel))) rfl)) (@snd_osCons _ _ _ _ _ _ _ _ (@snd_oOf _ _ _ _ (@e_ix _ _ _ _ _ _ (@snd_osCons _ _ _ _ _ _ _ _ (@snd_oOf _ _ _ _ (@snd_lst _ _ _ _ _ (@snd_fsCons _ _ _ _ _ _ _ (@snd_var _ _ _ _ rfl (by decide +kernel) (by decide +kernel)) (@snd_fsCons _ _ _ _ _ _ _ (@snd_lit _ _ _ _ _ rfl) (@snd_fsCons _ _ _ _ _ _ _ (@snd_var _ _ _ _ rfl (by decide +kernel) (by decide +kernel)) (@snd_fsNil _)))) rfl)) (@snd_osCons _ _ _ _ _ _ _ _ (@snd_oVar _ _ _ _ rfl (by decide +kernel) (by decide +kernel)) (@snd_osNil _) rfl) rfl) rfl)) (@snd_osNil _) rfl) rfl))) (@snd_osCons _ _ _ _ _ _ _ _ (@snd_oOf _ _ _ _ (@e_slc _ _ _ _ _ _ _ _ _ _ _ _ _ (@snd_oVar _ _ _ _ rfl (by decide +kernel) (by decide +kernel)) (@snd_part1 _ _ _ _ _ (@snd_oOf _ _ _ _ (@e_add _ _ _ _ _ _ (@snd_osCons _ _ _ _ _ _ _ _ (@snd_oVar _ _ _ _ rfl (by decide +kernel) (by decide +kernel)) (@snd_osCons _ _ _ _ _ _ _ _ (@snd_oOf _ _ _ _ (e_int (@snd_osCons _ _ _ _ _ _ _ _ (@snd_oOf _ _ _ _ (@e_gt _ _ _ _ _ _ (@snd_osCons _ _ _ _ _ _ _ _ (@snd_oVar _ _ _ _ rfl (by decide +kernel) (by decide +kernel)) (@snd_osCons _ _ _ _ _ _ _ _ (@snd_oOf _ _ _ _ (@snd_lit _ _ _ _ _ rfl)) (@snd_osNil _) rfl) rfl) rfl)) (@snd_osNil _) rfl) rfl (by decide +kernel) (by decide +kernel))) (@snd_osNil _) rfl) rfl)))) (snd_part0) rfl)) (@snd_osNil _) rfl) rfl))))
  (@snd_nil _))
  (@snd_cons _ _ _ _ _ (@snd_set _ _ _ _ _ _ _ _ rfl (by decide +kernel) (by decide +kernel) (@e_add _ _ _ _ _ _ (@snd_osCons _ _ _ _ _ _ _ _ (@snd_oOf _ _ _ _ (@e_add _ _ _ _ _ _ (@snd_osCons _ _ _ _ _ _ _ _ (@snd_oOf _ _ _ _ (e_str (@snd_osCons _ _ _ _ _ _ _ _ (@snd_oVar _ _ _ _ rfl (by decide +kernel) (by decide +kernel)) (@snd_osNil _) rfl) rfl (by decide +kernel) (by decide +kernel))) (@snd_osCons _ _ _ _ _ _ _ _ (@snd_oOf _ _ _ _ (@snd_lit _ _ _ _ _ rfl)) (@snd_osNil _) rfl) rfl))) (@snd_osCons _ _ _ _ _ _ _ _ (@snd_oOf _ _ _ _ (e_str (@snd_osCons _ _ _ _ _ _ _ _ (@snd_oVar _ _ _ _ rfl (by decide +kernel) (by decide +kernel)) (@snd_osNil _) rfl) rfl (by decide +kernel) (by decide +kernel))) (@snd_osNil _) rfl) rfl)) rfl)
  (@snd_cons _ _ _ _ _ (@snd_set _ _ _ _ _ _ _ _ rfl (by decide +kernel) (by decide +kernel) (@snd_lst _ _ _ _ _ (@snd_fsCons _ _ _ _ _ _ _ (@e_add _ _ _ _ _ _ (@snd_osCons _ _ _ _ _ _ _ _ (@snd_oOf _ _ _ _ (@e_slc _ _ _ _ _ _ _ _ _ _ _ _ _ (@snd_oVar _ _ _ _ rfl (by decide +kernel) (by decide +kernel)) (snd_part0) (@snd_part1 _ _ _ _ _ (@snd_oVar _ _ _ _ rfl (by decide +kernel) (by decide +kernel))) rfl)) (@snd_osCons _ _ _ _ _ _ _ _ (@snd_oOf _ _ _ _ (@e_slc _ _ _ _ _ _ _ _ _ _ _ _ _ (@snd_oVar _ _ _ _ rfl (by decide +kernel) (by decide +kernel)) (@snd_part1 _ _ _ _ _ (@snd_oOf _ _ _ _ (@e_add _ _ _ _ _ _ (@snd_osCons _ _ _ _ _ _ _ _ (@snd_oVar _ _ _ _ rfl (by decide +kernel) (by decide +kernel)) (@snd_osCons _ _ _ _ _ _ _ _ (@snd_oOf _ _ _ _ (@snd_lit _ _ _ _ _ rfl)) (@snd_osNil _) rfl) rfl)))) (snd_part0) rfl)) (@snd_osNil _) rfl) rfl)) (@snd_fsCons _ _ _ _ _ _ _ (@e_add _ _ _ _ _ _ (@snd_osCons _ _ _ _ _ _ _ _ (@snd_oOf _ _ _ _ (@e_add _ _ _ _ _ _ (@snd_osCons _ _ _ _ _ _ _ _ (@snd_oOf _ _ _ _ (@e_slc _ _ _ _ _ _ _ _ _ _ _ _ _ (@snd_oVar _ _ _ _ rfl (by decide +kernel) (by decide +kernel)) (snd_part0) (@snd_part1 _ _ _ _ _ (@snd_oVar _ _ _ _ rfl (by decide +kernel) (by decide +kernel))) rfl)) (@snd_osCons _ _ _ _ _ _ _ _ (@snd_oOf _ _ _ _ (@snd_lst _ _ _ _ _ (@snd_fsCons _ _ _ _ _ _ _ (@e_ix _ _ _ _ _ _ (@snd_osCons _ _ _ _ _ _ _ _ (@snd_oVar _ _ _ _ rfl (by decide +kernel) (by decide +kernel)) (@snd_osCons _ _ _ _ _ _ _ _ (@snd_oVar _ _ _ _ rfl (by decide +kernel) (by decide +kernel)) (@snd_osNil _) rfl) rfl) rfl) (@snd_fsNil _)) rfl)) (@snd_osNil _) rfl) rfl))) (@snd_osCons _ _ _ _ _ _ _ _ (@snd_oOf _ _ _ _ (@e_slc _ _ _ _ _ _ _ _ _ _ _ _ _ (@snd_oVar _ _ _ _ rfl (by decide +kernel) (by decide +kernel)) (@snd_part1 _ _ _ _ _ (@snd_oVar _ _ _ _ rfl (by decide +kernel) (by decide +kernel))) (snd_part0) rfl)) (@snd_osNil _) rfl) rfl)) (@snd_fsCons _ _ _ _ _ _ _ (@e_add _ _ _ _ _ _ (@snd_osCons _ _ _ _ _ _ _ _ (@snd_oOf _ _ _ _ (@e_slc _ _ _ _ _ _ _ _ _ _ _ _ _ (@snd_oVar _ _ _ _ rfl (by decide +kernel) (by decide +kernel)) (snd_part0) (@snd_part1 _ _ _ _ _ (@snd_oVar _ _ _ _ rfl (by decide +kernel) (by decide +kernel))) rfl)) (@snd_osCons _ _ _ _ _ _ _ _ (@snd_oOf _ _ _ _ (@snd_revS _ _ _ _ _ _ _ _ _ _ (@snd_oOf _ _ _ _ (@e_slc _ _ _ _ _ _ _ _ _ _ _ _ _ (@snd_oVar _ _ _ _ rfl (by decide +kernel) (by decide +kernel)) (@snd_part1 _ _ _ _ _ (@snd_oVar _ _ _ _ rfl (by decide +kernel) (by decide +kernel))) (snd_part0) rfl)))) (@snd_osNil _) rfl) rfl)) (@snd_fsNil _)))) rfl) rfl)
  (@snd_cons _ _ _ _ _ (@snd_set _ _ _ _ _ _ _ _ rfl (by decide +kernel) (by decide +kernel) (@e_add _ _ _ _ _ _ (@snd_osCons _ _ _ _ _ _ _ _ (@snd_oVar _ _ _ _ rfl (by decide +kernel) (by decide +kernel)) (@snd_osCons _ _ _ _ _ _ _ _ (@snd_oOf _ _ _ _ (@snd_lst _ _ _ _ _ (@snd_fsCons _ _ _ _ _ _ _ (@e_sortS _ _ _ _ _ _ _ (@snd_osCons _ _ _ _ _ _ _ _ (@snd_oOf _ _ _ _ (@e_add _ _ _ _ _ _ (@snd_osCons _ _ _ _ _ _ _ _ (@snd_oVar _ _ _ _ rfl (by decide +kernel) (by decide +kernel)) (@snd_osCons _ _ _ _ _ _ _ _ (@snd_oOf _ _ _ _ (@snd_lst _ _ _ _ _ (@snd_fsCons _ _ _ _ _ _ _ (@snd_var _ _ _ _ rfl (by decide +kernel) (by decide +kernel)) (@snd_fsNil _)) rfl)) (@snd_osNil _) rfl) rfl))) (@snd_osNil _) rfl) rfl (by decide +kernel) (by decide +kernel)) (@snd_fsCons _ _ _ _ _ _ _ (@e_add _ _ _ _ _ _ (@snd_osCons _ _ _ _ _ _ _ _ (@snd_oVar _ _ _ _ rfl (by decide +kernel) (by decide +kernel)) (@snd_osCons _ _ _ _ _ _ _ _ (@snd_oOf _ _ _ _ (@snd_lst _ _ _ _ _ (@snd_fsCons _ _ _ _ _ _ _ (@snd_var _ _ _ _ rfl (by decide +kernel) (by decide +kernel)) (@snd_fsNil _)) rfl)) (@snd_osNil _) rfl) rfl)) (@snd_fsCons _ _ _ _ _ _ _ (@e_add _ _ _ _ _ _ (@snd_osCons _ _ _ _ _ _ _ _ (@snd_oOf _ _ _ _ (@e_slc _ _ _ _ _ _ _ _ _ _ _ _ _ (@snd_oVar _ _ _ _ rfl (by decide +kernel) (by decide +kernel)) (snd_part0) (@snd_part1 _ _ _ _ _ (@snd_oOf _ _ _ _ (@snd_lit _ _ _ _ _ rfl))) rfl)) (@snd_osCons _ _ _ _ _ _ _ _ (@snd_oOf _ _ _ _ (@e_sortS _ _ _ _ _ _ _ (@snd_osCons _ _ _ _ _ _ _ _ (@snd_oOf _ _ _ _ (@e_add _ _ _ _ _ _ (@snd_osCons _ _ _ _ _ _ _ _ (@snd_oOf _ _ _ _ (@e_slc _ _ _ _ _ _ _ _ _ _ _ _ _ (@snd_oVar _ _ _ _ rfl (by decide +kernel) (by decide +kernel)) (@snd_part1 _ _ _ _ _ (@snd_oOf _ _ _ _ (@snd_lit _ _ _ _ _ rfl))) (snd_part0) rfl)) (@snd_osCons _ _ _ _ _ _ _ _ (@snd_oOf _ _ _ _ (@snd_lst _ _ _ _ _ (@snd_fsCons _ _ _ _ _ _ _ (@snd_var _ _ _ _ rfl (by decide +kernel) (by decide +kernel)) (@snd_fsNil _)) rfl)) (@snd_osNil _) rfl) rfl))) (@snd_osNil _) rfl) rfl (by decide +kernel) (by decide +kernel))) (@snd_osNil _) rfl) rfl)) (@snd_fsNil _)))) rfl)) (@snd_osNil _) rfl) rfl)) rfl)
  (@snd_one' _ _ _ (@snd_ret _ _ _ _ _ (@e_join _ _ _ _ _ _ _ _ _ _ _ (@snd_oOf _ _ _ _ (@snd_lit _ _ _ _ _ rfl)) (@snd_osCons _ _ _ _ _ _ _ _ (@snd_oOf _ _ _ _ (@e_ix _ _ _ _ _ _ (@snd_osCons _ _ _ _ _ _ _ _ (@snd_oVar _ _ _ _ rfl (by decide +kernel) (by decide +kernel)) (@snd_osCons _ _ _ _ _ _ _ _ (@snd_oOf _ _ _ _ (@e_sub _ _ _ _ _ _ (@snd_osCons _ _ _ _ _ _ _ _ (@snd_oVar _ _ _ _ rfl (by decide +kernel) (by decide +kernel)) (@snd_osCons _ _ _ _ _ _ _ _ (@snd_oOf _ _ _ _ (@snd_lit _ _ _ _ _ rfl)) (@snd_osNil _) rfl) rfl))) (@snd_osNil _) rfl) rfl) rfl)) (@snd_osNil _) rfl) rfl rfl (by decide +kernel) rfl rfl))))))))))))
theorem s_law : SndSs c_law (defBody (topS 44)) b_law := @snd_cons _ _ _ _ _ (@snd_for _ _ _ _ _ _ _ _ _ (@snd_iR1 _ _ _ _ _ _ _ _ (@snd_oOf _ _ _ _ (@e_max _ _ _ _ _ _ _ (@snd_osCons _ _ _ _ _ _ _ _ (@snd_oOf _ _ _ _ (@snd_lit _ _ _ _ _ rfl)) (@snd_osCons _ _ _ _ _ _ _ _ (@snd_oOf _ _ _ _ (@e_min _ _ _ _ _ _ _ (@snd_osCons _ _ _ _ _ _ _ _ (@snd_oOf _ _ _ _ (@snd_scrLen _ _ _ _ _ _ rfl (by decide +kernel) (by decide +kernel) (by decide +kernel) (by decide +kernel))) (@snd_osCons _ _ _ _ _ _ _ _ (@snd_oOf _ _ _ _ (@snd_lit _ _ _ _ _ rfl)) (@snd_osNil _) rfl) rfl) rfl (by decide +kernel) (by decide +kernel))) (@snd_osNil _) rfl) rfl) rfl (by decide +kernel) (by decide +kernel))) rfl (by decide +kernel) (by decide +kernel)) (.nm rfl (by decide +kernel)) (by decide +kernel)
  (@snd_cons _ _ _ _ _ (@snd_set _ _ _ _ _ _ _ _ rfl (by decide +kernel) (by decide +kernel) (@snd_call _ _ _ _ _ _ _ _ (by decide +kernel) (@snd_asVar _ _ _ _ _ _ rfl (by decide +kernel) (by decide +kernel) (@snd_asVar _ _ _ _ _ _ rfl (by decide +kernel) (by decide +kernel) (@snd_asNil _))) rfl (by decide +kernel) (by decide +kernel)) rfl)
  (@snd_cons _ _ _ _ _ (@snd_set _ _ _ _ _ _ _ _ rfl (by decide +kernel) (by decide +kernel) (@snd_call _ _ _ _ _ _ _ _ (by decide +kernel) (@snd_asVar _ _ _ _ _ _ rfl (by decide +kernel) (by decide +kernel) (@snd_asExp _ _ _ _ _ _ (@snd_lit _ _ _ _ _ rfl) (@snd_asNil _))) rfl (by decide +kernel) (by decide +kernel)) rfl)
  (@snd_cons _ _ _ _ _ (@snd_set _ _ _ _ _ _ _ _ rfl (by decide +kernel) (by decide +kernel) (@e_join _ _ _ _ _ _ _ _ _ _ _ (@snd_oOf _ _ _ _ (@snd_lit _ _ _ _ _ rfl)) (@snd_osCons _ _ _ _ _ _ _ _ (@snd_oOf _ _ _ _ (@e_add _ _ _ _ _ _ (@snd_osCons _ _ _ _ _ _ _ _ (@snd_oOf _ _ _ _ (@snd_lst _ _ _ _ _ (@snd_fsCons _ _ _ _ _ _ _ (e_str (@snd_osCons _ _ _ _ _ _ _ _ (@snd_oOf _ _ _ _ (@e_ix _ _ _ _ _ _ (@snd_osCons _ _ _ _ _ _ _ _ (@snd_oVar _ _ _ _ rfl (by decide +kernel) (by decide +kernel)) (@snd_osCons _ _ _ _ _ _ _ _ (@snd_oOf _ _ _ _ (@snd_lit _ _ _ _ _ rfl)) (@snd_osNil _) rfl) rfl) rfl)) (@snd_osNil _) rfl) rfl (by decide +kernel) (by decide +kernel)) (@snd_fsNil _)) rfl)) (@snd_osCons _ _ _ _ _ _ _ _ (@snd_oOf _ _ _ _ (@snd_lc _ _ _ _ _ _ [("a", 7), ("b", 8)] _ _ _ _ _ _ _ _ (@snd_iSeq _ _ _ _ _ _ (@snd_oOf _ _ _ _ (@snd_call _ _ _ _ _ _ _ _ (by decide +kernel) (@snd_asExp _ _ _ _ _ _ (@e_ix _ _ _ _ _ _ (@snd_osCons _ _ _ _ _ _ _ _ (@snd_oVar _ _ _ _ rfl (by decide +kernel) (by decide +kernel)) (@snd_osCons _ _ _ _ _ _ _ _ (@snd_oOf _ _ _ _ (@snd_lit _ _ _ _ _ rfl)) (@snd_osNil _) rfl) rfl) rfl) (@snd_asExp _ _ _ _ _ _ (@e_ix _ _ _ _ _ _ (@snd_osCons _ _ _ _ _ _ _ _ (@snd_oVar _ _ _ _ rfl (by decide +kernel) (by decide +kernel)) (@snd_osCons _ _ _ _ _ _ _ _ (@snd_oOf _ _ _ _ (@snd_lit _ _ _ _ _ rfl)) (@snd_osNil _) rfl) rfl) rfl) (@snd_asNil _))) rfl (by decide +kernel) (by decide +kernel)))) (.tp (.cons rfl (by decide +kernel) (.cons rfl (by decide +kernel) (.nil)))) rfl (by decide +kernel) (.no) (@e_add _ _ _ _ _ _ (@snd_osCons _ _ _ _ _ _ _ _ (@snd_oOf _ _ _ _ (@e_add _ _ _ _ _ _ (@snd_osCons _ _ _ _ _ _ _ _ (@snd_oOf _ _ _ _ (e_str (@snd_osCons _ _ _ _ _ _ _ _ (@snd_oVar _ _ _ _ rfl (by decide +kernel) (by decide +kernel)) (@snd_osNil _) rfl) rfl (by decide +kernel) (by decide +kernel))) (@snd_osCons _ _ _ _ _ _ _ _ (@snd_oOf _ _ _ _ (@snd_lit _ _ _ _ _ rfl)) (@snd_osNil _) rfl) rfl))) (@snd_osCons _ _ _ _ _ _ _ _ (@snd_oOf _ _ _ _ (e_str (@snd_osCons _ _ _ _ _ _ _ _ (@snd_oVar _ _ _ _ rfl (by decide +kernel) (by decide +kernel)) (@snd_osNil _) rfl) rfl (by decide +kernel) (by decide +kernel))) (@snd_osNil _) rfl) rfl)) rfl)) (@snd_osNil _) rfl) rfl))) (@snd_osNil _) rfl) rfl rfl (by decide +kernel) rfl rfl) rfl)
  (@snd_cons _ _ _ _ _ (@snd_for _ _ _ _ _ _ _ _ _ (@snd_iSeq _ _ _ _ _ _ (@snd_oOf _ _ _ _ (@snd_lst _ _ _ _ _ (@snd_fsCons _ _ _ _ _ _ _ (@snd_var _ _ _ _ rfl (by decide +kernel) (by decide +kernel)) (@snd_fsCons _ _ _ _ _ _ _ (@snd_call _ _ _ _ _ _ _ _ (by decide +kernel) (@snd_asVar _ _ _ _ _ _ rfl (by decide +kernel) (by decide +kernel) (@snd_asVar _ _ _ _ _ _ rfl (by decide +kernel) (by decide +kernel) (@snd_asNil _))) rfl (by decide +kernel) (by decide +kernel)) (@snd_fsCons _ _ _ _ _ _ _ (@snd_call _ _ _ _ _ _ _ _ (by decide +kernel) (@snd_asVar _ _ _ _ _ _ rfl (by decide +kernel) (by decide +kernel) (@snd_asVar _ _ _ _ _ _ rfl (by decide +kernel) (by decide +kernel) (@snd_asNil _))) rfl (by decide +kernel) (by decide +kernel)) (@snd_fsCons _ _ _ _ _ _ _ (@snd_call _ _ _ _ _ _ _ _ (by decide +kernel) (@snd_asVar _ _ _ _ _ _ rfl (by decide +kernel) (by decide +kernel) (@snd_asVar _ _ _ _ _ _ rfl (by decide +kernel) (by decide +kernel) (@snd_asNil _))) rfl (by decide +kernel) (by decide +kernel)) (@snd_fsCons _ _ _ _ _ _ _ (@snd_lit _ _ _ _ _ rfl) (@snd_fsCons _ _ _ _ _ _ _ (@e_add _ _ _ _ _ _ (@snd_osCons _ _ _ _ _ _ _ _ (@snd_oVar _ _ _ _ rfl (by decide +kernel) (by decide +kernel)) (@snd_osCons _ _ _ _ _ _ _ _ (@snd_oOf _ _ _ _ (@snd_lit _ _ _ _ _ rfl)) (@snd_osNil _) rfl) rfl)) (@snd_fsNil _))))))) rfl))) (.nm rfl (by decide +kernel)) (by decide +kernel)
  (@snd_one' _ _ _ (@snd_if _ _ _ _ _ _ _ _ _ (@t_ne _ _ _ _ _ _ (@snd_osCons _ _ _ _ _ _ _ _ (@snd_oOf _ _ _ _ (@e_repr _ _ _ _ _ _ (@snd_osCons _ _ _ _ _ _ _ _ (@snd_oOf _ _ _ _ (@snd_call _ _ _ _ _ _ _ _ (by decide +kernel) (@snd_asExp _ _ _ _ _ _ (@snd_var _ _ _ _ rfl (by decide +kernel) (by decide +kernel)) (@snd_asNil _)) rfl (by decide +kernel) (by decide +kernel))) (@snd_osNil _) rfl) rfl (by decide +kernel) (by decide +kernel))) (@snd_osCons _ _ _ _ _ _ _ _ (@snd_oOf _ _ _ _ (@e_repr _ _ _ _ _ _ (@snd_osCons _ _ _ _ _ _ _ _ (@snd_oOf _ _ _ _ (@snd_call _ _ _ _ _ _ _ _ (by decide +kernel) (@snd_asVar _ _ _ _ _ _ rfl (by decide +kernel) (by decide +kernel) (@snd_asNil _)) rfl (by decide +kernel) (by decide +kernel))) (@snd_osNil _) rfl) rfl (by decide +kernel) (by decide +kernel))) (@snd_osNil _) rfl) rfl) rfl)
  (@snd_one' _ _ _ (@snd_ret _ _ _ _ _ (@snd_lit _ _ _ _ _ rfl)))
  (@snd_nil _))) rfl)
  (@snd_cons _ _ _ _ _ (@snd_set _ _ _ _ _ _ _ _ rfl (by decide +kernel) (by decide +kernel) (@snd_call _ _ _ _ _ _ _ _ (by decide +kernel) (@snd_asVar _ _ _ _ _ _ rfl (by decide +kernel) (by decide +kernel) (@snd_asNil _)) rfl (by decide +kernel) (by decide +kernel)) rfl)
  (@snd_one' _ _ _ (@snd_if _ _ _ _ _ _ _ _ _ (@snd_orT _ _ _ _ _ _ _ _ _ (@snd_andT _ _ _ _ _ _ _ _ _ (@snd_notT _ _ _ _ _ (@snd_plainT _ _ _ _ (@snd_isi _ _ _ _ _ _ _ _ _ (by decide +kernel) boot_str' (@snd_osCons _ _ _ _ _ _ _ _ (@snd_oVar _ _ _ _ rfl (by decide +kernel) (by decide +kernel)) (@snd_osNil _) rfl) rfl (by decide +kernel) (by decide +kernel) (by decide +kernel) (by decide +kernel) (by decide +kernel)) rfl)) (@snd_oneT _ _ _ _ _ _ (@t_ne _ _ _ _ _ _ (@snd_osCons _ _ _ _ _ _ _ _ (@snd_oOf _ _ _ _ (@e_repr _ _ _ _ _ _ (@snd_osCons _ _ _ _ _ _ _ _ (@snd_oOf _ _ _ _ (@snd_call _ _ _ _ _ _ _ _ (by decide +kernel) (@snd_asExp _ _ _ _ _ _ (@snd_var _ _ _ _ rfl (by decide +kernel) (by decide +kernel)) (@snd_asNil _)) rfl (by decide +kernel) (by decide +kernel))) (@snd_osNil _) rfl) rfl (by decide +kernel) (by decide +kernel))) (@snd_osCons _ _ _ _ _ _ _ _ (@snd_oOf _ _ _ _ (@snd_lit _ _ _ _ _ rfl)) (@snd_osNil _) rfl) rfl) rfl))) (@snd_oneT _ _ _ _ _ _ (@t_ne _ _ _ _ _ _ (@snd_osCons _ _ _ _ _ _ _ _ (@snd_oOf _ _ _ _ (@e_repr _ _ _ _ _ _ (@snd_osCons _ _ _ _ _ _ _ _ (@snd_oOf _ _ _ _ (@snd_call _ _ _ _ _ _ _ _ (by decide +kernel) (@snd_asExp _ _ _ _ _ _ (@snd_ice _ _ _ _ (@snd_lst _ _ _ _ _ (@snd_fsCons _ _ _ _ _ _ _ (@snd_var _ _ _ _ rfl (by decide +kernel) (by decide +kernel)) (@snd_fsNil _)) rfl)) (@snd_asNil _)) rfl (by decide +kernel) (by decide +kernel))) (@snd_osNil _) rfl) rfl (by decide +kernel) (by decide +kernel))) (@snd_osCons _ _ _ _ _ _ _ _ (@snd_oOf _ _ _ _ (@snd_lit _ _ _ _ _ rfl)) (@snd_osNil _) rfl) rfl) rfl)))
  (@snd_one' _ _ _ (@snd_ret _ _ _ _ _ (@snd_lit _ _ _ _ _ rfl)))
  (@snd_nil _)))))))) rfl)
  (@snd_one' _ _ _ (@snd_ret _ _ _ _ _ (@snd_lit _ _ _ _ _ rfl)))
def d_is_whole : DefI := ⟨"is_whole", topS 16, ["thing"], ["thing"], b_is_whole⟩
theorem sc_is_whole : FnScope d_is_whole.N d_is_whole.ps (defScope (topS 16)) := ⟨rfl, rfl, rfl, by decide +kernel, rfl, by decide +kernel, by decide +kernel⟩
def d_is_many : DefI := ⟨"is_many", topS 17, ["thing"], ["thing"], b_is_many⟩
theorem sc_is_many : FnScope d_is_many.N d_is_many.ps (defScope (topS 17)) := ⟨rfl, rfl, rfl, by decide +kernel, rfl, by decide +kernel, by decide +kernel⟩
def d_is_pair : DefI := ⟨"is_pair", topS 18, ["many", "thing"], ["many", "thing", "one"], b_is_pair⟩
theorem sc_is_pair : FnScope d_is_pair.N d_is_pair.ps (defScope (topS 18)) := ⟨rfl, rfl, rfl, by decide +kernel, rfl, by decide +kernel, by decide +kernel⟩
def d_follows : DefI := ⟨"follows", topS 19, ["pairs"], ["pairs", "a", "b", "c", "d"], b_follows⟩
theorem sc_follows : FnScope d_follows.N d_follows.ps (defScope (topS 19)) := ⟨rfl, rfl, rfl, by decide +kernel, rfl, by decide +kernel, by decide +kernel⟩
def d_is_order : DefI := ⟨"is_order", topS 20, ["thing"], ["thing", "many", "pairs", "pair"], b_is_order⟩
theorem sc_is_order : FnScope d_is_order.N d_is_order.ps (defScope (topS 20)) := ⟨rfl, rfl, rfl, by decide +kernel, rfl, by decide +kernel, by decide +kernel⟩
def d_need_order : DefI := ⟨"need_order", topS 21, ["order"], ["order"], b_need_order⟩
theorem sc_need_order : FnScope d_need_order.N d_need_order.ps (defScope (topS 21)) := ⟨rfl, rfl, rfl, by decide +kernel, rfl, by decide +kernel, by decide +kernel⟩
def d_closed : DefI := ⟨"closed", topS 22, ["many", "pairs"], ["many", "pairs", "found", "middle", "more", "a", "b", "c", "d"], b_closed⟩
theorem sc_closed : FnScope d_closed.N d_closed.ps (defScope (topS 22)) := ⟨rfl, rfl, rfl, by decide +kernel, rfl, by decide +kernel, by decide +kernel⟩
def d_is_next : DefI := ⟨"is_next", topS 23, ["order", "a", "b"], ["order", "a", "b", "c"], b_is_next⟩
theorem sc_is_next : FnScope d_is_next.N d_is_next.ps (defScope (topS 23)) := ⟨rfl, rfl, rfl, by decide +kernel, rfl, by decide +kernel, by decide +kernel⟩
def d_next_pairs : DefI := ⟨"next_pairs", topS 24, ["order"], ["order", "a", "b"], b_next_pairs⟩
theorem sc_next_pairs : FnScope d_next_pairs.N d_next_pairs.ps (defScope (topS 24)) := ⟨rfl, rfl, rfl, by decide +kernel, rfl, by decide +kernel, by decide +kernel⟩
def d_pair_in : DefI := ⟨"pair_in", topS 27, ["word", "many"], ["word", "many", "pair"], b_pair_in⟩
theorem sc_pair_in : FnScope d_pair_in.N d_pair_in.ps (defScope (topS 27)) := ⟨rfl, rfl, rfl, by decide +kernel, rfl, by decide +kernel, by decide +kernel⟩
def d_read_order : DefI := ⟨"read_order", topS 28, ["text"], ["text", "words", "many", "pairs", "at", "found", "pair", "a", "b"], b_read_order⟩
theorem sc_read_order : FnScope d_read_order.N d_read_order.ps (defScope (topS 28)) := ⟨rfl, rfl, rfl, by decide +kernel, rfl, by decide +kernel, by decide +kernel⟩
def d__law_cell : DefI := ⟨"_law_cell", topS 30, ["script", "k"], ["script", "k"], b__law_cell⟩
theorem sc__law_cell : FnScope d__law_cell.N d__law_cell.ps (defScope (topS 30)) := ⟨rfl, rfl, rfl, by decide +kernel, rfl, by decide +kernel, by decide +kernel⟩
def d__law_mix : DefI := ⟨"_law_mix", topS 31, ["cell", "k"], ["cell", "k", "some", "stir"], b__law_mix⟩
theorem sc__law_mix : FnScope d__law_mix.N d__law_mix.ps (defScope (topS 31)) := ⟨rfl, rfl, rfl, by decide +kernel, rfl, by decide +kernel, by decide +kernel⟩
def d__law_box : DefI := ⟨"_law_box", topS 32, ["script", "k"], ["script", "k", "cell", "number", "j"], b__law_box⟩
theorem sc__law_box : FnScope d__law_box.N d__law_box.ps (defScope (topS 32)) := ⟨rfl, rfl, rfl, by decide +kernel, rfl, by decide +kernel, by decide +kernel⟩
def d__law_take : DefI := ⟨"_law_take", topS 33, ["box", "many"], ["box", "many", "left", "digit"], b__law_take⟩
theorem sc__law_take : FnScope d__law_take.N d__law_take.ps (defScope (topS 33)) := ⟨rfl, rfl, rfl, by decide +kernel, rfl, by decide +kernel, by decide +kernel⟩
def d__law_whole : DefI := ⟨"_law_whole", topS 34, ["thing"], ["thing"], b__law_whole⟩
theorem sc__law_whole : FnScope d__law_whole.N d__law_whole.ps (defScope (topS 34)) := ⟨rfl, rfl, rfl, by decide +kernel, rfl, by decide +kernel, by decide +kernel⟩
def d__law_odd : DefI := ⟨"_law_odd", topS 35, ["box"], ["box", "some"], b__law_odd⟩
theorem sc__law_odd : FnScope d__law_odd.N d__law_odd.ps (defScope (topS 35)) := ⟨rfl, rfl, rfl, by decide +kernel, rfl, by decide +kernel, by decide +kernel⟩
def d__law_mixed_up : DefI := ⟨"_law_mixed_up", topS 36, ["box", "some"], ["box", "some", "left", "found"], b__law_mixed_up⟩
theorem sc__law_mixed_up : FnScope d__law_mixed_up.N d__law_mixed_up.ps (defScope (topS 36)) := ⟨rfl, rfl, rfl, by decide +kernel, rfl, by decide +kernel, by decide +kernel⟩
def d__law_closed : DefI := ⟨"_law_closed", topS 37, ["pairs"], ["pairs", "found", "size", "more", "a", "b", "c", "d"], b__law_closed⟩
theorem sc__law_closed : FnScope d__law_closed.N d__law_closed.ps (defScope (topS 37)) := ⟨rfl, rfl, rfl, by decide +kernel, rfl, by decide +kernel, by decide +kernel⟩
def d__law_order : DefI := ⟨"_law_order", topS 38, ["box", "most"], ["box", "most", "many", "names", "thin", "pairs", "i", "j"], b__law_order⟩
theorem sc__law_order : FnScope d__law_order.N d__law_order.ps (defScope (topS 38)) := ⟨rfl, rfl, rfl, by decide +kernel, rfl, by decide +kernel, by decide +kernel⟩
def d__law_next : DefI := ⟨"_law_next", topS 40, ["many", "pairs"], ["many", "pairs", "found", "a", "b", "c"], b__law_next⟩
theorem sc__law_next : FnScope d__law_next.N d__law_next.ps (defScope (topS 40)) := ⟨rfl, rfl, rfl, by decide +kernel, rfl, by decide +kernel, by decide +kernel⟩
def d__law_read : DefI := ⟨"_law_read", topS 41, ["text"], ["text", "words", "many", "pairs", "at", "word", "every", "pair", "a", "b"], b__law_read⟩
theorem sc__law_read : FnScope d__law_read.N d__law_read.ps (defScope (topS 41)) := ⟨rfl, rfl, rfl, by decide +kernel, rfl, by decide +kernel, by decide +kernel⟩
def d__law_said : DefI := ⟨"_law_said", topS 42, ["text"], ["text", "e"], b__law_said⟩
theorem sc__law_said : FnScope d__law_said.N d__law_said.ps (defScope (topS 42)) := ⟨rfl, rfl, rfl, by decide +kernel, rfl, by decide +kernel, by decide +kernel⟩
def d__law_bent : DefI := ⟨"_law_bent", topS 43, ["box", "text"], ["box", "text", "words", "at", "where", "sign", "a", "b", "kind", "pair", "some"], b__law_bent⟩
theorem sc__law_bent : FnScope d__law_bent.N d__law_bent.ps (defScope (topS 43)) := ⟨rfl, rfl, rfl, by decide +kernel, rfl, by decide +kernel, by decide +kernel⟩
def d_law : DefI := ⟨"law", topS 44, ["script"], ["script", "k", "box", "order", "text", "some", "odd", "a", "b"], b_law⟩
theorem sc_law : FnScope d_law.N d_law.ps (defScope (topS 44)) := ⟨rfl, rfl, rfl, by decide +kernel, rfl, by decide +kernel, by decide +kernel⟩
def tx : Tx := ⟨[d_is_whole, d_is_many, d_is_pair, d_follows, d_is_order, d_need_order, d_closed, d_is_next, d_next_pairs, d_pair_in, d_read_order, d__law_cell, d__law_mix, d__law_box, d__law_take, d__law_whole, d__law_odd, d__law_mixed_up, d__law_closed, d__law_order, d__law_next, d__law_read, d__law_said, d__law_bent, d_law], gis, gss, bls, exs, [], inis⟩
theorem tx_ok : tx.Ok where
  sc := fun d hd => by
    simp only [tx, List.mem_cons, List.not_mem_nil, or_false] at hd
    rcases hd with rfl | rfl | rfl | rfl | rfl | rfl | rfl | rfl | rfl | rfl | rfl | rfl | rfl | rfl | rfl | rfl | rfl | rfl | rfl | rfl | rfl | rfl | rfl | rfl | rfl
    · exact @sc_is_whole
    · exact @sc_is_many
    · exact @sc_is_pair
    · exact @sc_follows
    · exact @sc_is_order
    · exact @sc_need_order
    · exact @sc_closed
    · exact @sc_is_next
    · exact @sc_next_pairs
    · exact @sc_pair_in
    · exact @sc_read_order
    · exact @sc__law_cell
    · exact @sc__law_mix
    · exact @sc__law_box
    · exact @sc__law_take
    · exact @sc__law_whole
    · exact @sc__law_odd
    · exact @sc__law_mixed_up
    · exact @sc__law_closed
    · exact @sc__law_order
    · exact @sc__law_next
    · exact @sc__law_read
    · exact @sc__law_said
    · exact @sc__law_bent
    · exact @sc_law
  snd := fun d hd => by
    simp only [tx, List.mem_cons, List.not_mem_nil, or_false] at hd
    rcases hd with rfl | rfl | rfl | rfl | rfl | rfl | rfl | rfl | rfl | rfl | rfl | rfl | rfl | rfl | rfl | rfl | rfl | rfl | rfl | rfl | rfl | rfl | rfl | rfl | rfl
    · exact @s_is_whole
    · exact @s_is_many
    · exact @s_is_pair
    · exact @s_follows
    · exact @s_is_order
    · exact @s_need_order
    · exact @s_closed
    · exact @s_is_next
    · exact @s_next_pairs
    · exact @s_pair_in
    · exact @s_read_order
    · exact @s__law_cell
    · exact @s__law_mix
    · exact @s__law_box
    · exact @s__law_take
    · exact @s__law_whole
    · exact @s__law_odd
    · exact @s__law_mixed_up
    · exact @s__law_closed
    · exact @s__law_order
    · exact @s__law_next
    · exact @s__law_read
    · exact @s__law_said
    · exact @s__law_bent
    · exact @s_law
  uniq := fun d hd => by
    simp only [tx, List.mem_cons, List.not_mem_nil, or_false] at hd
    rcases hd with rfl | rfl | rfl | rfl | rfl | rfl | rfl | rfl | rfl | rfl | rfl | rfl | rfl | rfl | rfl | rfl | rfl | rfl | rfl | rfl | rfl | rfl | rfl | rfl | rfl
    · rfl
    · rfl
    · rfl
    · rfl
    · rfl
    · rfl
    · rfl
    · rfl
    · rfl
    · rfl
    · rfl
    · rfl
    · rfl
    · rfl
    · rfl
    · rfl
    · rfl
    · rfl
    · rfl
    · rfl
    · rfl
    · rfl
    · rfl
    · rfl
    · rfl
  scX := fun d hd => by
    exact absurd hd (by simp [tx])
  sndX := fun d hd => by
    exact absurd hd (by simp [tx])
  uniqX := fun d hd => by
    exact absurd hd (by simp [tx])
def kLaw (K : PySem.W.Frag) : Sp := fun vs H Q _ => ∃ (a : Addr) (ns : List Int), vs = [.ref a] ∧ SqL K H a (ns.map V.int) ∧ ns.length ≤ 63 ∧ ∀ H', Q (.bl true) H'
theorem same_fd {K : PySem.W.Frag} {x q : Str} {st : Stmt} {f : Addr} {fd fd' : FuncData} (a : Fun K x q st f fd) (b : Fun K x q st f fd') : fd = fd' := by
  obtain ⟨_, _, _, _, _, _, _, _, _, e1, l1, _⟩ := a.ex
  obtain ⟨_, _, _, _, _, _, _, _, _, e2, l2, _⟩ := b.ex
  rw [l1] at l2
  cases l2
  rfl
theorem all_mk {l : PySem.W.OpenLaw} {w : World} {K : PySem.W.Frag} {h : Heap} {mg : Str → Option Value} {fa f0 f1 f2 f3 f4 f5 f6 f7 f8 f9 f10 f11 f12 f13 f14 f15 f16 f17 f18 f19 f20 f21 f22 f23 f24 f25 f26 cx0 cx1 cx2 cx3 cx4 cx5 cx6 cx7 cx8 cx9 cx10 cx11 cx12 : Addr} (X : K.In h) (G : h.Ns mainGlobals mg) (hfa : mg "law" = some (.ref fa))
    {od0 an0 od1 an1 od2 an2 od3 an3 od4 an4 od5 an5 od6 an6 od7 an7 od8 an8 od9 an9 od10 an10 od11 an11 od12 an12 od13 an13 od14 an14 od15 an15 od16 an16 od17 an17 od18 an18 od19 an19 od20 an20 od21 an21 od22 an22 od23 an23 od24 an24 od25 an25 od26 an26 : Option Addr} {sl0 sl1 sl2 sl3 sl4 sl5 sl6 sl7 sl8 sl9 sl10 sl11 sl12 sl13 sl14 sl15 sl16 sl17 sl18 sl19 sl20 sl21 sl22 sl23 sl24 sl25 sl26 : Array (Option Value)}
    {oc0 kV0 dc0 pm0 cd0 ct0 oc1 kV1 dc1 pm1 cd1 ct1 oc2 kV2 dc2 pm2 cd2 ct2 oc3 kV3 dc3 pm3 cd3 ct3 oc4 kV4 dc4 pm4 cd4 ct4 oc5 kV5 dc5 pm5 cd5 ct5 oc6 kV6 dc6 pm6 cd6 ct6 oc7 kV7 dc7 pm7 cd7 ct7 oc8 kV8 dc8 pm8 cd8 ct8 oc9 kV9 dc9 pm9 cd9 ct9 oc10 kV10 dc10 pm10 cd10 ct10 oc11 kV11 dc11 pm11 cd11 ct11 oc12 kV12 dc12 pm12 cd12 ct12 oc13 kV13 dc13 pm13 cd13 ct13 oc14 kV14 dc14 pm14 cd14 ct14 oc15 kV15 dc15 pm15 cd15 ct15 oc16 kV16 dc16 pm16 cd16 ct16 oc17 kV17 dc17 pm17 cd17 ct17 oc18 kV18 dc18 pm18 cd18 ct18 oc19 kV19 dc19 pm19 cd19 ct19 oc20 kV20 dc20 pm20 cd20 ct20 oc21 kV21 dc21 pm21 cd21 ct21 oc22 kV22 dc22 pm22 cd22 ct22 oc23 kV23 dc23 pm23 cd23 ct23 oc24 kV24 dc24 pm24 cd24 ct24 oc25 kV25 dc25 pm25 cd25 ct25 oc26 kV26 dc26 pm26 cd26 ct26 : Value}
    {nmNoText qnNoText : Str} {nsNoText : Addr} {bsNoText bmNoText suNoText : List Value} {snNoText : List Str} {abNoText : Bool} {coNoText : Option Bool} {doNoText : Option Addr} {k0NoText k1NoText k2NoText k3NoText k5NoText : Option Value}
    {t0 u0 : Tok}
    (a0 : PySem.W.nsIn K mainGlobals "is_whole" = some (some (.ref f0))) (l0 : K.lookup f0 = some ⟨oc0, od0, .func (PySem.W.fnOf "is_whole" "is_whole" (defArgs (topS 16)) (defBody (topS 16)) (defScope (topS 16)) .none kV0 dc0 pm0 an0 cd0 ct0), sl0⟩) (c0 : PySem.W.codeIn K cd0 "is_whole" = true) (k0 : PySem.W.keepIn K (.ref f0) = true)
    (a1 : PySem.W.nsIn K mainGlobals "is_many" = some (some (.ref f1))) (l1 : K.lookup f1 = some ⟨oc1, od1, .func (PySem.W.fnOf "is_many" "is_many" (defArgs (topS 17)) (defBody (topS 17)) (defScope (topS 17)) .none kV1 dc1 pm1 an1 cd1 ct1), sl1⟩) (c1 : PySem.W.codeIn K cd1 "is_many" = true) (k1 : PySem.W.keepIn K (.ref f1) = true)
    (a2 : PySem.W.nsIn K mainGlobals "is_pair" = some (some (.ref f2))) (l2 : K.lookup f2 = some ⟨oc2, od2, .func (PySem.W.fnOf "is_pair" "is_pair" (defArgs (topS 18)) (defBody (topS 18)) (defScope (topS 18)) .none kV2 dc2 pm2 an2 cd2 ct2), sl2⟩) (c2 : PySem.W.codeIn K cd2 "is_pair" = true) (k2 : PySem.W.keepIn K (.ref f2) = true)
    (a3 : PySem.W.nsIn K mainGlobals "follows" = some (some (.ref f3))) (l3 : K.lookup f3 = some ⟨oc3, od3, .func (PySem.W.fnOf "follows" "follows" (defArgs (topS 19)) (defBody (topS 19)) (defScope (topS 19)) .none kV3 dc3 pm3 an3 cd3 ct3), sl3⟩) (c3 : PySem.W.codeIn K cd3 "follows" = true) (k3 : PySem.W.keepIn K (.ref f3) = true)
    (a4 : PySem.W.nsIn K mainGlobals "is_order" = some (some (.ref f4))) (l4 : K.lookup f4 = some ⟨oc4, od4, .func (PySem.W.fnOf "is_order" "is_order" (defArgs (topS 20)) (defBody (topS 20)) (defScope (topS 20)) .none kV4 dc4 pm4 an4 cd4 ct4), sl4⟩) (c4 : PySem.W.codeIn K cd4 "is_order" = true) (k4 : PySem.W.keepIn K (.ref f4) = true)
    (a5 : PySem.W.nsIn K mainGlobals "need_order" = some (some (.ref f5))) (l5 : K.lookup f5 = some ⟨oc5, od5, .func (PySem.W.fnOf "need_order" "need_order" (defArgs (topS 21)) (defBody (topS 21)) (defScope (topS 21)) .none kV5 dc5 pm5 an5 cd5 ct5), sl5⟩) (c5 : PySem.W.codeIn K cd5 "need_order" = true) (k5 : PySem.W.keepIn K (.ref f5) = true)
    (a6 : PySem.W.nsIn K mainGlobals "closed" = some (some (.ref f6))) (l6 : K.lookup f6 = some ⟨oc6, od6, .func (PySem.W.fnOf "closed" "closed" (defArgs (topS 22)) (defBody (topS 22)) (defScope (topS 22)) .none kV6 dc6 pm6 an6 cd6 ct6), sl6⟩) (c6 : PySem.W.codeIn K cd6 "closed" = true) (k6 : PySem.W.keepIn K (.ref f6) = true)
    (a7 : PySem.W.nsIn K mainGlobals "is_next" = some (some (.ref f7))) (l7 : K.lookup f7 = some ⟨oc7, od7, .func (PySem.W.fnOf "is_next" "is_next" (defArgs (topS 23)) (defBody (topS 23)) (defScope (topS 23)) .none kV7 dc7 pm7 an7 cd7 ct7), sl7⟩) (c7 : PySem.W.codeIn K cd7 "is_next" = true) (k7 : PySem.W.keepIn K (.ref f7) = true)
    (a8 : PySem.W.nsIn K mainGlobals "next_pairs" = some (some (.ref f8))) (l8 : K.lookup f8 = some ⟨oc8, od8, .func (PySem.W.fnOf "next_pairs" "next_pairs" (defArgs (topS 24)) (defBody (topS 24)) (defScope (topS 24)) .none kV8 dc8 pm8 an8 cd8 ct8), sl8⟩) (c8 : PySem.W.codeIn K cd8 "next_pairs" = true) (k8 : PySem.W.keepIn K (.ref f8) = true)
    (a9 : PySem.W.nsIn K mainGlobals "pair_in" = some (some (.ref f9))) (l9 : K.lookup f9 = some ⟨oc9, od9, .func (PySem.W.fnOf "pair_in" "pair_in" (defArgs (topS 27)) (defBody (topS 27)) (defScope (topS 27)) .none kV9 dc9 pm9 an9 cd9 ct9), sl9⟩) (c9 : PySem.W.codeIn K cd9 "pair_in" = true) (k9 : PySem.W.keepIn K (.ref f9) = true)
    (a10 : PySem.W.nsIn K mainGlobals "read_order" = some (some (.ref f10))) (l10 : K.lookup f10 = some ⟨oc10, od10, .func (PySem.W.fnOf "read_order" "read_order" (defArgs (topS 28)) (defBody (topS 28)) (defScope (topS 28)) .none kV10 dc10 pm10 an10 cd10 ct10), sl10⟩) (c10 : PySem.W.codeIn K cd10 "read_order" = true) (k10 : PySem.W.keepIn K (.ref f10) = true)
    (a11 : PySem.W.nsIn K mainGlobals "_law_cell" = some (some (.ref f11))) (l11 : K.lookup f11 = some ⟨oc11, od11, .func (PySem.W.fnOf "_law_cell" "_law_cell" (defArgs (topS 30)) (defBody (topS 30)) (defScope (topS 30)) .none kV11 dc11 pm11 an11 cd11 ct11), sl11⟩) (c11 : PySem.W.codeIn K cd11 "_law_cell" = true) (k11 : PySem.W.keepIn K (.ref f11) = true)
    (a12 : PySem.W.nsIn K mainGlobals "_law_mix" = some (some (.ref f12))) (l12 : K.lookup f12 = some ⟨oc12, od12, .func (PySem.W.fnOf "_law_mix" "_law_mix" (defArgs (topS 31)) (defBody (topS 31)) (defScope (topS 31)) .none kV12 dc12 pm12 an12 cd12 ct12), sl12⟩) (c12 : PySem.W.codeIn K cd12 "_law_mix" = true) (k12 : PySem.W.keepIn K (.ref f12) = true)
    (a13 : PySem.W.nsIn K mainGlobals "_law_box" = some (some (.ref f13))) (l13 : K.lookup f13 = some ⟨oc13, od13, .func (PySem.W.fnOf "_law_box" "_law_box" (defArgs (topS 32)) (defBody (topS 32)) (defScope (topS 32)) .none kV13 dc13 pm13 an13 cd13 ct13), sl13⟩) (c13 : PySem.W.codeIn K cd13 "_law_box" = true) (k13 : PySem.W.keepIn K (.ref f13) = true)
    (a14 : PySem.W.nsIn K mainGlobals "_law_take" = some (some (.ref f14))) (l14 : K.lookup f14 = some ⟨oc14, od14, .func (PySem.W.fnOf "_law_take" "_law_take" (defArgs (topS 33)) (defBody (topS 33)) (defScope (topS 33)) .none kV14 dc14 pm14 an14 cd14 ct14), sl14⟩) (c14 : PySem.W.codeIn K cd14 "_law_take" = true) (k14 : PySem.W.keepIn K (.ref f14) = true)
    (a15 : PySem.W.nsIn K mainGlobals "_law_whole" = some (some (.ref f15))) (l15 : K.lookup f15 = some ⟨oc15, od15, .func (PySem.W.fnOf "_law_whole" "_law_whole" (defArgs (topS 34)) (defBody (topS 34)) (defScope (topS 34)) .none kV15 dc15 pm15 an15 cd15 ct15), sl15⟩) (c15 : PySem.W.codeIn K cd15 "_law_whole" = true) (k15 : PySem.W.keepIn K (.ref f15) = true)
    (a16 : PySem.W.nsIn K mainGlobals "_law_odd" = some (some (.ref f16))) (l16 : K.lookup f16 = some ⟨oc16, od16, .func (PySem.W.fnOf "_law_odd" "_law_odd" (defArgs (topS 35)) (defBody (topS 35)) (defScope (topS 35)) .none kV16 dc16 pm16 an16 cd16 ct16), sl16⟩) (c16 : PySem.W.codeIn K cd16 "_law_odd" = true) (k16 : PySem.W.keepIn K (.ref f16) = true)
    (a17 : PySem.W.nsIn K mainGlobals "_law_mixed_up" = some (some (.ref f17))) (l17 : K.lookup f17 = some ⟨oc17, od17, .func (PySem.W.fnOf "_law_mixed_up" "_law_mixed_up" (defArgs (topS 36)) (defBody (topS 36)) (defScope (topS 36)) .none kV17 dc17 pm17 an17 cd17 ct17), sl17⟩) (c17 : PySem.W.codeIn K cd17 "_law_mixed_up" = true) (k17 : PySem.W.keepIn K (.ref f17) = true)
    (a18 : PySem.W.nsIn K mainGlobals "_law_closed" = some (some (.ref f18))) (l18 : K.lookup f18 = some ⟨oc18, od18, .func (PySem.W.fnOf "_law_closed" "_law_closed" (defArgs (topS 37)) (defBody (topS 37)) (defScope (topS 37)) .none kV18 dc18 pm18 an18 cd18 ct18), sl18⟩) (c18 : PySem.W.codeIn K cd18 "_law_closed" = true) (k18 : PySem.W.keepIn K (.ref f18) = true)
    (a19 : PySem.W.nsIn K mainGlobals "_law_order" = some (some (.ref f19))) (l19 : K.lookup f19 = some ⟨oc19, od19, .func (PySem.W.fnOf "_law_order" "_law_order" (defArgs (topS 38)) (defBody (topS 38)) (defScope (topS 38)) .none kV19 dc19 pm19 an19 cd19 ct19), sl19⟩) (c19 : PySem.W.codeIn K cd19 "_law_order" = true) (k19 : PySem.W.keepIn K (.ref f19) = true)
    (a20 : PySem.W.nsIn K mainGlobals "_law_next" = some (some (.ref f20))) (l20 : K.lookup f20 = some ⟨oc20, od20, .func (PySem.W.fnOf "_law_next" "_law_next" (defArgs (topS 40)) (defBody (topS 40)) (defScope (topS 40)) .none kV20 dc20 pm20 an20 cd20 ct20), sl20⟩) (c20 : PySem.W.codeIn K cd20 "_law_next" = true) (k20 : PySem.W.keepIn K (.ref f20) = true)
    (a21 : PySem.W.nsIn K mainGlobals "_law_read" = some (some (.ref f21))) (l21 : K.lookup f21 = some ⟨oc21, od21, .func (PySem.W.fnOf "_law_read" "_law_read" (defArgs (topS 41)) (defBody (topS 41)) (defScope (topS 41)) .none kV21 dc21 pm21 an21 cd21 ct21), sl21⟩) (c21 : PySem.W.codeIn K cd21 "_law_read" = true) (k21 : PySem.W.keepIn K (.ref f21) = true)
    (a22 : PySem.W.nsIn K mainGlobals "_law_said" = some (some (.ref f22))) (l22 : K.lookup f22 = some ⟨oc22, od22, .func (PySem.W.fnOf "_law_said" "_law_said" (defArgs (topS 42)) (defBody (topS 42)) (defScope (topS 42)) .none kV22 dc22 pm22 an22 cd22 ct22), sl22⟩) (c22 : PySem.W.codeIn K cd22 "_law_said" = true) (k22 : PySem.W.keepIn K (.ref f22) = true)
    (a23 : PySem.W.nsIn K mainGlobals "_law_bent" = some (some (.ref f23))) (l23 : K.lookup f23 = some ⟨oc23, od23, .func (PySem.W.fnOf "_law_bent" "_law_bent" (defArgs (topS 43)) (defBody (topS 43)) (defScope (topS 43)) .none kV23 dc23 pm23 an23 cd23 ct23), sl23⟩) (c23 : PySem.W.codeIn K cd23 "_law_bent" = true) (k23 : PySem.W.keepIn K (.ref f23) = true)
    (a24 : PySem.W.nsIn K mainGlobals "law" = some (some (.ref f24))) (l24 : K.lookup f24 = some ⟨oc24, od24, .func (PySem.W.fnOf "law" "law" (defArgs (topS 44)) (defBody (topS 44)) (defScope (topS 44)) .none kV24 dc24 pm24 an24 cd24 ct24), sl24⟩) (c24 : PySem.W.codeIn K cd24 "law" = true) (k24 : PySem.W.keepIn K (.ref f24) = true)
    (a25 : PySem.W.nsIn K mainGlobals "_law_marks" = some (some (.ref f25))) (l25 : K.lookup f25 = some ⟨oc25, od25, .func (PySem.W.fnOf "_law_marks" "_law_marks" (defArgs (topS 39)) (defBody (topS 39)) (defScope (topS 39)) .none kV25 dc25 pm25 an25 cd25 ct25), sl25⟩) (c25 : PySem.W.codeIn K cd25 "_law_marks" = true) (k25 : PySem.W.keepIn K (.ref f25) = true)
    (a26 : PySem.W.findIn K (.ref cx12) "__init__" = some (some (.ref f26))) (l26 : K.lookup f26 = some ⟨oc26, od26, .func (PySem.W.fnOf "__init__" "NoText.__init__" (defArgs (inClass (topS 13) 0)) (defBody (inClass (topS 13) 0)) (defScope (inClass (topS 13) 0)) .none kV26 dc26 pm26 an26 cd26 ct26), sl26⟩) (c26 : PySem.W.codeIn K cd26 "NoText.__init__" = true) (k26 : PySem.W.keepIn K (.ref f26) = true) (i26 : PySem.W.typeIn K (.ref f26) = some (.type "function"))
    (g0 : PySem.W.nsIn K mainGlobals "MOST_THINGS" = some (some (.int 8 t0)))
    (h0 : PySem.W.nsIn K mainGlobals "FIGURES" = some (some (.str "0123456789" u0)))
    (z0 : PySem.W.nsIn K mainGlobals "ValueError" = some none)
    (z1 : PySem.W.nsIn K mainGlobals "abs" = some none)
    (z2 : PySem.W.nsIn K mainGlobals "all" = some none)
    (z3 : PySem.W.nsIn K mainGlobals "any" = some none)
    (z4 : PySem.W.nsIn K mainGlobals "bool" = some none)
    (z5 : PySem.W.nsIn K mainGlobals "divmod" = some none)
    (z6 : PySem.W.nsIn K mainGlobals "enumerate" = some none)
    (z7 : PySem.W.nsIn K mainGlobals "int" = some none)
    (z8 : PySem.W.nsIn K mainGlobals "isinstance" = some none)
    (z9 : PySem.W.nsIn K mainGlobals "len" = some none)
    (z10 : PySem.W.nsIn K mainGlobals "list" = some none)
    (z11 : PySem.W.nsIn K mainGlobals "max" = some none)
    (z12 : PySem.W.nsIn K mainGlobals "min" = some none)
    (z13 : PySem.W.nsIn K mainGlobals "range" = some none)
    (z14 : PySem.W.nsIn K mainGlobals "repr" = some none)
    (z15 : PySem.W.nsIn K mainGlobals "set" = some none)
    (z16 : PySem.W.nsIn K mainGlobals "sorted" = some none)
    (z17 : PySem.W.nsIn K mainGlobals "str" = some none)
    (z18 : PySem.W.nsIn K mainGlobals "tuple" = some none)
    (e0 : PySem.W.nsIn K mainGlobals "RankError" = some (some (.ref cx0)))
    (e1 : PySem.W.nsIn K mainGlobals "NoOrder" = some (some (.ref cx1)))
    (e2 : PySem.W.nsIn K mainGlobals "NoMany" = some (some (.ref cx2)))
    (e3 : PySem.W.nsIn K mainGlobals "NoPairs" = some (some (.ref cx3)))
    (e4 : PySem.W.nsIn K mainGlobals "Ring" = some (some (.ref cx4)))
    (e5 : PySem.W.nsIn K mainGlobals "NoThing" = some (some (.ref cx5)))
    (e6 : PySem.W.nsIn K mainGlobals "NoRow" = some (some (.ref cx6)))
    (e7 : PySem.W.nsIn K mainGlobals "NoRows" = some (some (.ref cx7)))
    (e8 : PySem.W.nsIn K mainGlobals "NoNumber" = some (some (.ref cx8)))
    (e9 : PySem.W.nsIn K mainGlobals "NoChain" = some (some (.ref cx9)))
    (e10 : PySem.W.nsIn K mainGlobals "NoTurns" = some (some (.ref cx10)))
    (e11 : PySem.W.nsIn K mainGlobals "NoPoints" = some (some (.ref cx11)))
    (e12 : PySem.W.nsIn K mainGlobals "NoText" = some (some (.ref cx12)))
    (hn : PySem.W.specialIn K (.builtin "object.__class__") "__get__" = some (some (.builtin "getset_descriptor.__get__")))
    (ht : PySem.W.takesIn K (.builtin "object.__class__") = some true)
    (bs0 : PySem.W.subIn K (.ref cx0) (.type "BaseException") = some true)
    (dd0 : PySem.W.hasDictIn K cx0 = true)
    (icRankError : PySem.W.isClsIn K cx0 = true)
    (tyRankError : PySem.W.typeIn K (.ref cx0) = some (.type "type"))
    (icNoOrder : PySem.W.isClsIn K cx1 = true)
    (tyNoOrder : PySem.W.typeIn K (.ref cx1) = some (.type "type"))
    (icNoMany : PySem.W.isClsIn K cx2 = true)
    (tyNoMany : PySem.W.typeIn K (.ref cx2) = some (.type "type"))
    (icNoPairs : PySem.W.isClsIn K cx3 = true)
    (tyNoPairs : PySem.W.typeIn K (.ref cx3) = some (.type "type"))
    (icRing : PySem.W.isClsIn K cx4 = true)
    (tyRing : PySem.W.typeIn K (.ref cx4) = some (.type "type"))
    (icNoThing : PySem.W.isClsIn K cx5 = true)
    (tyNoThing : PySem.W.typeIn K (.ref cx5) = some (.type "type"))
    (icNoRow : PySem.W.isClsIn K cx6 = true)
    (tyNoRow : PySem.W.typeIn K (.ref cx6) = some (.type "type"))
    (icNoRows : PySem.W.isClsIn K cx7 = true)
    (tyNoRows : PySem.W.typeIn K (.ref cx7) = some (.type "type"))
    (icNoNumber : PySem.W.isClsIn K cx8 = true)
    (tyNoNumber : PySem.W.typeIn K (.ref cx8) = some (.type "type"))
    (icNoChain : PySem.W.isClsIn K cx9 = true)
    (tyNoChain : PySem.W.typeIn K (.ref cx9) = some (.type "type"))
    (icNoTurns : PySem.W.isClsIn K cx10 = true)
    (tyNoTurns : PySem.W.typeIn K (.ref cx10) = some (.type "type"))
    (icNoPoints : PySem.W.isClsIn K cx11 = true)
    (tyNoPoints : PySem.W.typeIn K (.ref cx11) = some (.type "type"))
    (icNoText : PySem.W.isClsIn K cx12 = true)
    (tyNoText : PySem.W.typeIn K (.ref cx12) = some (.type "type"))
    (okNoOrder : PySem.W.excIn K cx1 [.type "ValueError", .type "Exception", .type "BaseException", .type "object"] "ValueError.__new__" = true)
    (kpNoOrder : PySem.W.keepIn K (.ref cx1) = true)
    (tpNoOrder : PySem.W.typeIn K (.ref cx1) = some (.type "type"))
    (hgNoOrder : PySem.W.findIn K (.ref cx1) "__getattribute__" = some (some (.builtin "BaseException.__getattribute__")))
    (hkNoOrder : PySem.W.findIn K (.ref cx1) "__getattr__" = some none)
    (hsNoOrder : PySem.W.subIn K (.ref cx1) (.type "BaseException") = some true)
    (hdNoOrder : PySem.W.hasDictIn K cx1 = true)
    (haNoOrder : PySem.W.findIn K (.ref cx1) "__class__" = some (some (.builtin "object.__class__")))
    (hmNoOrder : PySem.W.mroIn K cx1 (.type "object") = some true)
    (qNoOrderRankError : PySem.W.subIn K (.ref cx1) (.ref cx0) = some true)
    (qNoOrderNoOrder : PySem.W.subIn K (.ref cx1) (.ref cx1) = some true)
    (qNoOrderNoMany : PySem.W.subIn K (.ref cx1) (.ref cx2) = some false)
    (qNoOrderNoPairs : PySem.W.subIn K (.ref cx1) (.ref cx3) = some false)
    (qNoOrderRing : PySem.W.subIn K (.ref cx1) (.ref cx4) = some false)
    (qNoOrderNoThing : PySem.W.subIn K (.ref cx1) (.ref cx5) = some false)
    (qNoOrderNoRow : PySem.W.subIn K (.ref cx1) (.ref cx6) = some false)
    (qNoOrderNoRows : PySem.W.subIn K (.ref cx1) (.ref cx7) = some false)
    (qNoOrderNoNumber : PySem.W.subIn K (.ref cx1) (.ref cx8) = some false)
    (qNoOrderNoChain : PySem.W.subIn K (.ref cx1) (.ref cx9) = some false)
    (qNoOrderNoTurns : PySem.W.subIn K (.ref cx1) (.ref cx10) = some false)
    (qNoOrderNoPoints : PySem.W.subIn K (.ref cx1) (.ref cx11) = some false)
    (qNoOrderNoText : PySem.W.subIn K (.ref cx1) (.ref cx12) = some false)
    (qNoOrderself : PySem.W.subIn K (.ref cx1) (.ref cx1) = some true)
    (qNoOrderVE : PySem.W.subIn K (.ref cx1) (.type "ValueError") = some true)
    (lkNoText : K.lookup cx12 = some (excClassObj nmNoText qnNoText cx12 nsNoText bsNoText bmNoText true snNoText suNoText abNoText coNoText doNoText k0NoText k1NoText k2NoText k3NoText k5NoText "ValueError.__new__"))
    (rfNoText : PySem.HandSPX.refsVE bmNoText = true)
    (saNoText : PySem.W.findIn K (.ref cx12) "__setattr__" = some (some (.builtin "object.__setattr__")))
    (noNoText : PySem.W.findIn K (.ref cx12) "at" = some none)
    (kpNoText : PySem.W.keepIn K (.ref cx12) = true)
    (tpNoText : PySem.W.typeIn K (.ref cx12) = some (.type "type"))
    (hgNoText : PySem.W.findIn K (.ref cx12) "__getattribute__" = some (some (.builtin "BaseException.__getattribute__")))
    (hkNoText : PySem.W.findIn K (.ref cx12) "__getattr__" = some none)
    (hsNoText : PySem.W.subIn K (.ref cx12) (.type "BaseException") = some true)
    (hdNoText : PySem.W.hasDictIn K cx12 = true)
    (haNoText : PySem.W.findIn K (.ref cx12) "__class__" = some (some (.builtin "object.__class__")))
    (hmNoText : PySem.W.mroIn K cx12 (.type "object") = some true)
    (qNoTextRankError : PySem.W.subIn K (.ref cx12) (.ref cx0) = some true)
    (qNoTextNoOrder : PySem.W.subIn K (.ref cx12) (.ref cx1) = some false)
    (qNoTextNoMany : PySem.W.subIn K (.ref cx12) (.ref cx2) = some false)
    (qNoTextNoPairs : PySem.W.subIn K (.ref cx12) (.ref cx3) = some false)
    (qNoTextRing : PySem.W.subIn K (.ref cx12) (.ref cx4) = some false)
    (qNoTextNoThing : PySem.W.subIn K (.ref cx12) (.ref cx5) = some false)
    (qNoTextNoRow : PySem.W.subIn K (.ref cx12) (.ref cx6) = some false)
    (qNoTextNoRows : PySem.W.subIn K (.ref cx12) (.ref cx7) = some false)
    (qNoTextNoNumber : PySem.W.subIn K (.ref cx12) (.ref cx8) = some false)
    (qNoTextNoChain : PySem.W.subIn K (.ref cx12) (.ref cx9) = some false)
    (qNoTextNoTurns : PySem.W.subIn K (.ref cx12) (.ref cx10) = some false)
    (qNoTextNoPoints : PySem.W.subIn K (.ref cx12) (.ref cx11) = some false)
    (qNoTextNoText : PySem.W.subIn K (.ref cx12) (.ref cx12) = some true)
    (qNoTextself : PySem.W.subIn K (.ref cx12) (.ref cx12) = some true)
    (qNoTextVE : PySem.W.subIn K (.ref cx12) (.type "ValueError") = some true)
    (rg : PySem.W.specialIn K (.ref cx0) "__getattribute__" = some (some (.builtin "type.__getattribute__")))
    (rr : PySem.W.readsIn K cx0 (.type "type") = true)
    (rc : PySem.W.findCls K (.ref cx0) (.type "type") "__init__" = some (.val (.builtin "ValueError.__init__")))
    (main : ∀ ns : List Int, ns.length ≤ 63 → (tx.run 40 "law" [.scr ns]).wp (fun r => r.1 = .val (.bool true)) fun _ => False) :
    ∃ fd : FuncData, (∀ (s : Shared) (v : Value), BindsTo s fd ⟨[v], []⟩ [("script", v)]) ∧ ∀ base : Heap, K.In base → base.Ns mainGlobals mg → FnG l.prog w K mg base (L2N.CX l.prog w) 42 fa fd ["script"] (kLaw K) := by
  have e := hfa.symm.trans (PySem.W.mg_of X G a24)
  cases e
  have F0 := fun_mk (st := topS 16) l0 c0 k0
  have b0 := F0.binds (ps := d_is_whole.ps) fun _ _ _ _ _ _ us hl => match us, hl with | [_], _ => rfl
  have F1 := fun_mk (st := topS 17) l1 c1 k1
  have b1 := F1.binds (ps := d_is_many.ps) fun _ _ _ _ _ _ us hl => match us, hl with | [_], _ => rfl
  have F2 := fun_mk (st := topS 18) l2 c2 k2
  have b2 := F2.binds (ps := d_is_pair.ps) fun _ _ _ _ _ _ us hl => match us, hl with | [_, _], _ => rfl
  have F3 := fun_mk (st := topS 19) l3 c3 k3
  have b3 := F3.binds (ps := d_follows.ps) fun _ _ _ _ _ _ us hl => match us, hl with | [_], _ => rfl
  have F4 := fun_mk (st := topS 20) l4 c4 k4
  have b4 := F4.binds (ps := d_is_order.ps) fun _ _ _ _ _ _ us hl => match us, hl with | [_], _ => rfl
  have F5 := fun_mk (st := topS 21) l5 c5 k5
  have b5 := F5.binds (ps := d_need_order.ps) fun _ _ _ _ _ _ us hl => match us, hl with | [_], _ => rfl
  have F6 := fun_mk (st := topS 22) l6 c6 k6
  have b6 := F6.binds (ps := d_closed.ps) fun _ _ _ _ _ _ us hl => match us, hl with | [_, _], _ => rfl
  have F7 := fun_mk (st := topS 23) l7 c7 k7
  have b7 := F7.binds (ps := d_is_next.ps) fun _ _ _ _ _ _ us hl => match us, hl with | [_, _, _], _ => rfl
  have F8 := fun_mk (st := topS 24) l8 c8 k8
  have b8 := F8.binds (ps := d_next_pairs.ps) fun _ _ _ _ _ _ us hl => match us, hl with | [_], _ => rfl
  have F9 := fun_mk (st := topS 27) l9 c9 k9
  have b9 := F9.binds (ps := d_pair_in.ps) fun _ _ _ _ _ _ us hl => match us, hl with | [_, _], _ => rfl
  have F10 := fun_mk (st := topS 28) l10 c10 k10
  have b10 := F10.binds (ps := d_read_order.ps) fun _ _ _ _ _ _ us hl => match us, hl with | [_], _ => rfl
  have F11 := fun_mk (st := topS 30) l11 c11 k11
  have b11 := F11.binds (ps := d__law_cell.ps) fun _ _ _ _ _ _ us hl => match us, hl with | [_, _], _ => rfl
  have F12 := fun_mk (st := topS 31) l12 c12 k12
  have b12 := F12.binds (ps := d__law_mix.ps) fun _ _ _ _ _ _ us hl => match us, hl with | [_, _], _ => rfl
  have F13 := fun_mk (st := topS 32) l13 c13 k13
  have b13 := F13.binds (ps := d__law_box.ps) fun _ _ _ _ _ _ us hl => match us, hl with | [_, _], _ => rfl
  have F14 := fun_mk (st := topS 33) l14 c14 k14
  have b14 := F14.binds (ps := d__law_take.ps) fun _ _ _ _ _ _ us hl => match us, hl with | [_, _], _ => rfl
  have F15 := fun_mk (st := topS 34) l15 c15 k15
  have b15 := F15.binds (ps := d__law_whole.ps) fun _ _ _ _ _ _ us hl => match us, hl with | [_], _ => rfl
  have F16 := fun_mk (st := topS 35) l16 c16 k16
  have b16 := F16.binds (ps := d__law_odd.ps) fun _ _ _ _ _ _ us hl => match us, hl with | [_], _ => rfl
  have F17 := fun_mk (st := topS 36) l17 c17 k17
  have b17 := F17.binds (ps := d__law_mixed_up.ps) fun _ _ _ _ _ _ us hl => match us, hl with | [_, _], _ => rfl
  have F18 := fun_mk (st := topS 37) l18 c18 k18
  have b18 := F18.binds (ps := d__law_closed.ps) fun _ _ _ _ _ _ us hl => match us, hl with | [_], _ => rfl
  have F19 := fun_mk (st := topS 38) l19 c19 k19
  have b19 := F19.binds (ps := d__law_order.ps) fun _ _ _ _ _ _ us hl => match us, hl with | [_, _], _ => rfl
  have F20 := fun_mk (st := topS 40) l20 c20 k20
  have b20 := F20.binds (ps := d__law_next.ps) fun _ _ _ _ _ _ us hl => match us, hl with | [_, _], _ => rfl
  have F21 := fun_mk (st := topS 41) l21 c21 k21
  have b21 := F21.binds (ps := d__law_read.ps) fun _ _ _ _ _ _ us hl => match us, hl with | [_], _ => rfl
  have F22 := fun_mk (st := topS 42) l22 c22 k22
  have b22 := F22.binds (ps := d__law_said.ps) fun _ _ _ _ _ _ us hl => match us, hl with | [_], _ => rfl
  have F23 := fun_mk (st := topS 43) l23 c23 k23
  have b23 := F23.binds (ps := d__law_bent.ps) fun _ _ _ _ _ _ us hl => match us, hl with | [_, _], _ => rfl
  have F24 := fun_mk (st := topS 44) l24 c24 k24
  have b24 := F24.binds (ps := d_law.ps) fun _ _ _ _ _ _ us hl => match us, hl with | [_], _ => rfl
  have F25 := fun_mk (st := topS 39) l25 c25 k25
  have b25 := F25.binds (ps := ["e"]) fun _ _ _ _ _ _ us hl => match us, hl with | [_], _ => rfl
  have F26 := fun_mk (st := inClass (topS 13) 0) l26 c26 k26
  have b26 := F26.binds (ps := ["self", "at"]) fun _ _ _ _ _ _ us hl => match us, hl with | [_, _], _ => rfl
  have S : tx.Stand K mg := by
    refine ⟨fun d hd => ?_, fun p hp => ?_, fun p hp => ?_, fun x hx => ?_, fun p hp => ?_, fun nd => ?_⟩
    · simp only [tx, List.mem_cons, List.not_mem_nil, or_false] at hd
      rcases hd with rfl | rfl | rfl | rfl | rfl | rfl | rfl | rfl | rfl | rfl | rfl | rfl | rfl | rfl | rfl | rfl | rfl | rfl | rfl | rfl | rfl | rfl | rfl | rfl | rfl
      · exact ⟨_, _, F0, b0, PySem.W.mg_of X G a0⟩
      · exact ⟨_, _, F1, b1, PySem.W.mg_of X G a1⟩
      · exact ⟨_, _, F2, b2, PySem.W.mg_of X G a2⟩
      · exact ⟨_, _, F3, b3, PySem.W.mg_of X G a3⟩
      · exact ⟨_, _, F4, b4, PySem.W.mg_of X G a4⟩
      · exact ⟨_, _, F5, b5, PySem.W.mg_of X G a5⟩
      · exact ⟨_, _, F6, b6, PySem.W.mg_of X G a6⟩
      · exact ⟨_, _, F7, b7, PySem.W.mg_of X G a7⟩
      · exact ⟨_, _, F8, b8, PySem.W.mg_of X G a8⟩
      · exact ⟨_, _, F9, b9, PySem.W.mg_of X G a9⟩
      · exact ⟨_, _, F10, b10, PySem.W.mg_of X G a10⟩
      · exact ⟨_, _, F11, b11, PySem.W.mg_of X G a11⟩
      · exact ⟨_, _, F12, b12, PySem.W.mg_of X G a12⟩
      · exact ⟨_, _, F13, b13, PySem.W.mg_of X G a13⟩
      · exact ⟨_, _, F14, b14, PySem.W.mg_of X G a14⟩
      · exact ⟨_, _, F15, b15, PySem.W.mg_of X G a15⟩
      · exact ⟨_, _, F16, b16, PySem.W.mg_of X G a16⟩
      · exact ⟨_, _, F17, b17, PySem.W.mg_of X G a17⟩
      · exact ⟨_, _, F18, b18, PySem.W.mg_of X G a18⟩
      · exact ⟨_, _, F19, b19, PySem.W.mg_of X G a19⟩
      · exact ⟨_, _, F20, b20, PySem.W.mg_of X G a20⟩
      · exact ⟨_, _, F21, b21, PySem.W.mg_of X G a21⟩
      · exact ⟨_, _, F22, b22, PySem.W.mg_of X G a22⟩
      · exact ⟨_, _, F23, b23, PySem.W.mg_of X G a23⟩
      · exact ⟨_, _, F24, b24, PySem.W.mg_of X G a24⟩
    · simp only [tx, gis, List.mem_cons, List.not_mem_nil, or_false] at hp
      rcases hp with rfl
      · exact ⟨_, PySem.W.mg_of X G g0⟩
    · simp only [tx, gss, List.mem_cons, List.not_mem_nil, or_false] at hp
      rcases hp with rfl
      · exact ⟨_, PySem.W.mg_of X G h0⟩
    · simp only [tx, bls, List.mem_cons, List.not_mem_nil, or_false] at hx
      rcases hx with rfl | rfl | rfl | rfl | rfl | rfl | rfl | rfl | rfl | rfl | rfl | rfl | rfl | rfl | rfl | rfl | rfl | rfl | rfl
      · exact PySem.W.mg_none_of X G z0
      · exact PySem.W.mg_none_of X G z1
      · exact PySem.W.mg_none_of X G z2
      · exact PySem.W.mg_none_of X G z3
      · exact PySem.W.mg_none_of X G z4
      · exact PySem.W.mg_none_of X G z5
      · exact PySem.W.mg_none_of X G z6
      · exact PySem.W.mg_none_of X G z7
      · exact PySem.W.mg_none_of X G z8
      · exact PySem.W.mg_none_of X G z9
      · exact PySem.W.mg_none_of X G z10
      · exact PySem.W.mg_none_of X G z11
      · exact PySem.W.mg_none_of X G z12
      · exact PySem.W.mg_none_of X G z13
      · exact PySem.W.mg_none_of X G z14
      · exact PySem.W.mg_none_of X G z15
      · exact PySem.W.mg_none_of X G z16
      · exact PySem.W.mg_none_of X G z17
      · exact PySem.W.mg_none_of X G z18
    · simp only [tx, exs, List.mem_cons, List.not_mem_nil, or_false] at hp
      rcases hp with rfl
      · exact ⟨_, PySem.W.mg_of X G e1, okNoOrder, kpNoOrder, hsNoOrder, tpNoOrder, ⟨hgNoOrder, hkNoOrder, hsNoOrder, hdNoOrder, haNoOrder, hn, ht, hmNoOrder⟩⟩
    · exact absurd rfl nd
  have ho : ∀ base : Heap, tx.exs ≠ [] → HotOk l.prog w K mg base tx.exs := fun base _ => by
    rw [HotOk.m (by decide +kernel)]
    refine ⟨_, _, _, PySem.W.mg_of X G a25, k25, b25, PySem.W.mg_of X G e0, fun p hp C hC => ?_, fnM_of F25 sc_marks mk_body (PySem.W.mg_none_of X G z8) exs_say fun p hp D hD => ?_⟩
    · simp only [tx, exs, List.mem_cons, List.not_mem_nil, or_false] at hp
      rcases hp with rfl
      · have ee := hC.symm.trans (PySem.W.mg_of X G e1)
        cases ee
        exact PySem.W.exm_ref bs0 dd0 tyRankError qNoOrderRankError
    · simp only [tx, exs, List.mem_cons, List.not_mem_nil, or_false] at hp
      rcases hp with rfl
      · have ee := hD.symm.trans (PySem.W.mg_of X G e1)
        cases ee
        refine ⟨⟨fun x hx => ?_, ⟨_, PySem.W.mg_of X G e0, kit_of qNoOrderself icRankError tyRankError qNoOrderRankError⟩, PySem.W.mg_none_of X G z0, kit_val qNoOrderVE⟩, ⟨hgNoOrder, hkNoOrder, hsNoOrder, hdNoOrder, haNoOrder, hn, ht, hmNoOrder⟩⟩
        simp only [asks, List.mem_cons, List.not_mem_nil, or_false] at hx
        rcases hx with rfl | rfl | rfl | rfl | rfl | rfl | rfl | rfl | rfl | rfl | rfl | rfl
        · exact ⟨_, PySem.W.mg_of X G e1, (kit_of qNoOrderself icNoOrder tyNoOrder qNoOrderNoOrder).trans (by decide +kernel)⟩
        · exact ⟨_, PySem.W.mg_of X G e2, (kit_of qNoOrderself icNoMany tyNoMany qNoOrderNoMany).trans (by decide +kernel)⟩
        · exact ⟨_, PySem.W.mg_of X G e3, (kit_of qNoOrderself icNoPairs tyNoPairs qNoOrderNoPairs).trans (by decide +kernel)⟩
        · exact ⟨_, PySem.W.mg_of X G e4, (kit_of qNoOrderself icRing tyRing qNoOrderRing).trans (by decide +kernel)⟩
        · exact ⟨_, PySem.W.mg_of X G e5, (kit_of qNoOrderself icNoThing tyNoThing qNoOrderNoThing).trans (by decide +kernel)⟩
        · exact ⟨_, PySem.W.mg_of X G e6, (kit_of qNoOrderself icNoRow tyNoRow qNoOrderNoRow).trans (by decide +kernel)⟩
        · exact ⟨_, PySem.W.mg_of X G e7, (kit_of qNoOrderself icNoRows tyNoRows qNoOrderNoRows).trans (by decide +kernel)⟩
        · exact ⟨_, PySem.W.mg_of X G e8, (kit_of qNoOrderself icNoNumber tyNoNumber qNoOrderNoNumber).trans (by decide +kernel)⟩
        · exact ⟨_, PySem.W.mg_of X G e9, (kit_of qNoOrderself icNoChain tyNoChain qNoOrderNoChain).trans (by decide +kernel)⟩
        · exact ⟨_, PySem.W.mg_of X G e10, (kit_of qNoOrderself icNoTurns tyNoTurns qNoOrderNoTurns).trans (by decide +kernel)⟩
        · exact ⟨_, PySem.W.mg_of X G e11, (kit_of qNoOrderself icNoPoints tyNoPoints qNoOrderNoPoints).trans (by decide +kernel)⟩
        · exact ⟨_, PySem.W.mg_of X G e12, (kit_of qNoOrderself icNoText tyNoText qNoOrderNoText).trans (by decide +kernel)⟩
  have hi : ∀ base : Heap, ∀ x ∈ tx.ini, IniOk l.prog w K mg base x := fun base x hx => by
    simp only [tx, inis, List.mem_cons, List.not_mem_nil, or_false] at hx
    subst hx
    have oc : OexC K cx12 := ⟨⟨_, _, _, _, _, _, _, _, _, _, _, _, _, _, _, lkNoText, rfNoText⟩, saNoText, hsNoText, tpNoText, kpNoText⟩
    have kn : Kn K mg cx12 "NoText" := by
      refine ⟨fun x hx => ?_, ⟨_, PySem.W.mg_of X G e0, kit_of qNoTextself icRankError tyRankError qNoTextRankError⟩, PySem.W.mg_none_of X G z0, kit_val qNoTextVE⟩
      simp only [asks, List.mem_cons, List.not_mem_nil, or_false] at hx
      rcases hx with rfl | rfl | rfl | rfl | rfl | rfl | rfl | rfl | rfl | rfl | rfl | rfl
      · exact ⟨_, PySem.W.mg_of X G e1, (kit_of qNoTextself icNoOrder tyNoOrder qNoTextNoOrder).trans (by decide +kernel)⟩
      · exact ⟨_, PySem.W.mg_of X G e2, (kit_of qNoTextself icNoMany tyNoMany qNoTextNoMany).trans (by decide +kernel)⟩
      · exact ⟨_, PySem.W.mg_of X G e3, (kit_of qNoTextself icNoPairs tyNoPairs qNoTextNoPairs).trans (by decide +kernel)⟩
      · exact ⟨_, PySem.W.mg_of X G e4, (kit_of qNoTextself icRing tyRing qNoTextRing).trans (by decide +kernel)⟩
      · exact ⟨_, PySem.W.mg_of X G e5, (kit_of qNoTextself icNoThing tyNoThing qNoTextNoThing).trans (by decide +kernel)⟩
      · exact ⟨_, PySem.W.mg_of X G e6, (kit_of qNoTextself icNoRow tyNoRow qNoTextNoRow).trans (by decide +kernel)⟩
      · exact ⟨_, PySem.W.mg_of X G e7, (kit_of qNoTextself icNoRows tyNoRows qNoTextNoRows).trans (by decide +kernel)⟩
      · exact ⟨_, PySem.W.mg_of X G e8, (kit_of qNoTextself icNoNumber tyNoNumber qNoTextNoNumber).trans (by decide +kernel)⟩
      · exact ⟨_, PySem.W.mg_of X G e9, (kit_of qNoTextself icNoChain tyNoChain qNoTextNoChain).trans (by decide +kernel)⟩
      · exact ⟨_, PySem.W.mg_of X G e10, (kit_of qNoTextself icNoTurns tyNoTurns qNoTextNoTurns).trans (by decide +kernel)⟩
      · exact ⟨_, PySem.W.mg_of X G e11, (kit_of qNoTextself icNoPoints tyNoPoints qNoTextNoPoints).trans (by decide +kernel)⟩
      · exact ⟨_, PySem.W.mg_of X G e12, (kit_of qNoTextself icNoText tyNoText qNoTextNoText).trans (by decide +kernel)⟩
    exact ⟨cx12, f26, _, PySem.W.mg_of X G e12, oc, a26, i26, ini_fn F26 ⟨rfl, rfl, rfl, by decide +kernel, rfl, by decide +kernel, by decide +kernel⟩ rfl (by decide +kernel) (by decide +kernel) (by decide +kernel) (PySem.W.mg_of X G e0) ⟨rg, rr, rc⟩ oc noNoText, b26, ⟨hgNoText, hkNoText, hsNoText, hdNoText⟩, noNoText, f25, f15, cx0, _, _, PySem.W.mg_of X G a25, k25, b25, fnMD_of F25 sc_marks mk_body (PySem.W.mg_none_of X G z8) (by decide +kernel) kn ⟨hgNoText, hkNoText, hsNoText, hdNoText, haNoText, hn, ht, hmNoText⟩, PySem.W.mg_of X G a15, k15, b15, fnWH_of F15 sc__law_whole rfl (by decide +kernel) (PySem.W.mg_none_of X G z8) (PySem.W.mg_none_of X G z7) (PySem.W.mg_none_of X G z4), PySem.W.mg_of X G e0, PySem.W.exm_ref bs0 dd0 tyRankError qNoTextRankError⟩
  refine ⟨PySem.W.fnOf "law" "law" (defArgs (topS 44)) (defBody (topS 44)) (defScope (topS 44)) .none kV24 dc24 pm24 an24 cd24 ct24, fun s v => .of_eq rfl, fun base _ _ => ?_⟩
  · obtain ⟨f, fd, F, m1, _, _, ok⟩ := Tx.fn_ok (P := l.prog) (w := w) (base := base) S tx_ok (ho base) (hi base) 40 d_law (by simp [tx])
    have m2 : mg "law" = some (.ref fa) := PySem.W.mg_of X G a24
    have m1 : mg "law" = some (.ref f) := m1
    rw [m2] at m1
    cases m1
    cases same_fd F F24
    exact ok.imp fun vs H Q E ⟨a, ns, e1, hS, hl, hq⟩ => by
      subst e1
      exact law_of (main ns hl) hS hq
end Dn.M06

namespace Dn.M06
open PySem PySem.Spec L2
open PyProof.Rows hiding St
theorem r_take (n : Nat) (b m : Int) (h : 0 < m) (h2 : m < 1073741824) : tx.go (n+1) "_law_take" [.own [.int b], .val (.int m)] = .ok (.val (.int (b % m)), [.own [.int (b / m)], .val (.int m)]) := by
  rw [go_at tx (d := d__law_take) rfl]
  simp [d__law_take, b__law_take, pDvm, h, h2, ixN]
theorem r_is_whole (n : Nat) (x : PyData) : tx.go (n+1) "is_whole" [.val x] = .ok (.val (.bool (isW x)), [.val x]) := by
  rw [go_at tx (d := d_is_whole) rfl]
  cases x <;> simp [d_is_whole, b_is_whole, isT, isW]
theorem r_is_many (n : Nat) (m : Int) (h : 1 ≤ m) (h2 : m ≤ 8) : tx.go (n+2) "is_many" [.val (.int m)] = .ok (.val (.bool true), [.val (.int m)]) := by
  rw [go_at tx (d := d_is_many) rfl]
  simp [d_is_many, b_is_many, r_is_whole, isW, h, h2]
theorem r_is_pair (n : Nat) (m : Int) (p : Int × Int) (h : 0 ≤ p.1 ∧ p.1 < m ∧ 0 ≤ p.2 ∧ p.2 < m) : tx.go (n+2) "is_pair" [.val (.int m), .val (prD p)] = .ok (.val (.bool true), [.val (.int m), .val (prD p)]) := by
  obtain ⟨h, h2, h3, h4⟩ := h
  rw [go_at tx (d := d_is_pair) rfl]
  simp [d_is_pair, b_is_pair, r_is_whole, isW, h, h2, h3, h4, prD, isT, lcL, pAll, boolsOf]
theorem r_follows (n : Nat) (ps : List (Int × Int)) (irr : ∀ p ∈ ps, p.1 ≠ p.2) (tr : ∀ p ∈ ps, ∀ q ∈ ps, p.2 = q.1 → (p.1, q.2) ∈ ps) : tx.go (n+1) "follows" [.val (.tuple (psD ps))] = .ok (.val (.bool true), [.val (.tuple (psD ps))]) := by
  rw [go_at tx (d := d_follows) rfl]
  refine ok_of_wp ?_
  simp [d_follows, b_follows]
  refine wp_bind' (wp_bind' (forI_wp (fun i ρ => ∃ s1 s2 s3 s4, ρ = [.val (.tuple (psD ps)), s1, s2, s3, s4]) ⟨_, _, _, _, rfl⟩ (fun ρ ⟨_, _, _, _, e⟩ => by subst e; simp) (fun i d ρ hd ⟨s1, s2, s3, s4, e⟩ => ?_)))
  obtain ⟨p, _, hp, rfl⟩ := psD_get hd
  subst e
  have := irr p hp
  simp [prD, this]
  refine forI_wp (fun i ρ => ∃ s3 s4, ρ = [.val (.tuple (psD ps)), .val (.int p.1), .val (.int p.2), s3, s4]) ⟨_, _, rfl⟩ (fun ρ ⟨_, _, e⟩ => by subst e; simp) (fun j d ρ hd ⟨s3, s4, e⟩ => ?_)
  obtain ⟨q, _, hq, rfl⟩ := psD_get hd
  subst e
  by_cases c : p.2 = q.1
  · simp [prD, c, x_ninT, tr p hp q hq c]
  · simp [prD, c]
theorem r_is_order (n : Nat) (m : Int) (ps : List (Int × Int)) (o : IsOrd m ps) : tx.go (n+3) "is_order" [.val (ordD m ps)] = .ok (.val (.bool true), [.val (ordD m ps)]) := by
  rw [go_at tx (d := d_is_order) rfl]
  have len := o.len
  have l2 : ps.length ≤ 1000000 := by omega
  simp [d_is_order, b_is_order, ordD, isT, r_is_many, o.lo, o.hi, l2]
  rw [lcL_enc prD (fun _ => .bool true) ps fun p hp => ?_]
  · have := x_all ps fun _ => true
    rw [show (ps.all fun _ => true) = true by simp] at this
    simp [this, x_eqPL, x_ssT ps (inN_small o.bd (by have := o.hi; omega)) (by rw [dedP_of o.nd]; omega), setSort_self o.nd o.st, r_follows n.succ ps o.irr o.tr]
  · simp [r_is_pair n m p (o.bd p hp)]
theorem r_need_order (n : Nat) (m : Int) (ps : List (Int × Int)) (o : IsOrd m ps) : tx.go (n+4) "need_order" [.val (ordD m ps)] = .ok (.val .none, [.val (ordD m ps)]) := by
  rw [go_at tx (d := d_need_order) rfl]
  simp [d_need_order, b_need_order, r_is_order n m ps o]
theorem r_cell (n : Nat) (ns : List Int) (k : Nat) : ∃ v, tx.go (n+1) "_law_cell" [.scr ns, .val (.int k)] = .ok (.val (.int v), [.scr ns, .val (.int k)]) := by
  rw [go_at tx (d := d__law_cell) rfl]
  by_cases c : k < ns.length
  · have hv : atI ns (k : Int) = some ns[k] := x_ixn (List.getElem?_eq_getElem c)
    exact ⟨ns[k], by simp [d__law_cell, b__law_cell, c, hv]⟩
  · exact ⟨0, by simp [d__law_cell, b__law_cell, c]⟩
theorem r_mix (n : Nat) (c : Int) (k : Nat) (hk : k < 40) : ∃ v, tx.go (n+1) "_law_mix" [.val (.int c), .val (.int k)] = .ok (.val (.int v), [.val (.int c), .val (.int k)]) ∧ 0 ≤ v ∧ v < 142857145 := by
  rw [go_at tx (d := d__law_mix) rfl]
  obtain ⟨v, hv, e⟩ := pick_n [48271, 69621, 16807, 39373, 30269, 40014, 40692, 50021, 61687, 71993, 83869, 95561, 30307] ((k : Int) % 13) (emod_in _ _ (by decide)).1 (emod_in _ _ (by decide)).2
  have vb : 0 ≤ v ∧ v < 100000 := by
    simp only [List.mem_cons, List.not_mem_nil, or_false] at hv
    omega
  clear hv
  have i1 := emod_in c 2147483647 (by decide)
  have d1 := x_div (k := (k : Int)) (m := 13) (by decide) (by decide)
  have d2 : 0 ≤ (k : Int) / 13 ∧ (k : Int) / 13 < 40 := by omega
  generalize (k : Int) / 13 = z at d1 d2
  have e : pIx [.list [.int 48271, .int 69621, .int 16807, .int 39373, .int 30269, .int 40014, .int 40692, .int 50021, .int 61687, .int 71993, .int 83869, .int 95561, .int 30307], .int ((k : Int) % 13)] = some (.val (.int v)) := e
  have x1 := x_mod (k := c) (m := 2147483647) (by decide)
  have x2 := x_mod (k := (k : Int)) (m := 13) (by decide)
  generalize c % 2147483647 = y at x1 i1
  generalize (k : Int) % 13 = w at x2 e
  have m1 : big2 (y + 12345) v = true := big2_of (a := 40) (b := 20) (by omega) (by omega) (by omega) (by omega) (by omega)
  have m2 : big2 977 (k : Int) = true := big2_of (a := 10) (b := 10) (by omega) (by omega) (by omega) (by omega) (by omega)
  have m3 : big2 7919 z = true := big2_of (a := 13) (b := 10) (by omega) (by omega) (by omega) (by omega) (by omega)
  generalize hS : (y + 12345) * v + 977 * (k : Int) + 7919 * z = S
  have i2 := emod_in S 1000000007 (by decide)
  have x3 := x_mod (k := S) (m := 1000000007) (by decide)
  generalize S % 1000000007 = T at i2 x3
  have m4 : big2 T T = true := big2_of (a := 31) (b := 31) (by omega) (by omega) (by omega) (by omega) (by omega)
  have m5 : big2 48271 (k : Int) = true := big2_of (a := 16) (b := 10) (by omega) (by omega) (by omega) (by omega) (by omega)
  have i3 := emod_in (T * T + 48271 * (k : Int)) 1000000007 (by decide)
  have x4 := x_mod (k := T * T + 48271 * (k : Int)) (m := 1000000007) (by decide)
  generalize (T * T + 48271 * (k : Int)) % 1000000007 = U at i3 x4
  have x5 := x_div (k := U) (m := 7) (by decide) (by decide)
  refine ⟨U / 7, ?_, by omega, by omega⟩
  generalize U / 7 = R at x5
  have x3 : pMod [.int ((y + 12345) * v + 977 * (k : Int) + 7919 * z), .int 1000000007] = some (.val (.int T)) := by rw [hS]; exact x3
  simp [d__law_mix, b__law_mix, x1, x2, e, x_mul m1, x_mul m2, d1, x_mul m3, x3, x_mul m4, x_mul m5, x4, x5]
theorem r_box (n : Nat) (ns : List Int) (k : Nat) : ∃ r, tx.go (n+2) "_law_box" [.scr ns, .val (.int k)] = .ok r ∧ (∃ b, r.1 = .own [.int b] ∧ r.2 = [.scr ns, .val (.int k)]) := by
  refine of_wp ?_
  rw [go_at tx (d := d__law_box) rfl]
  obtain ⟨v, e⟩ := r_cell n ns k
  have s40 : small62 40 = true := small_in (by omega) (by omega)
  have ab : pAbs [.int v] = some (.val (.int v.natAbs)) := by
    show some (Slot.val (PyData.int (if v < 0 then -v else v))) = _
    congr 3
    split <;> omega
  have md := x_mod (k := v) (m := 2) (by decide)
  have dv := x_div (k := (v.natAbs : Int)) (m := 2) (by decide) (by decide)
  by_cases c : v % 2 = 0
  · simp [d__law_box, b__law_box, e, md, c, ab, dv]
  · simp [d__law_box, b__law_box, e, md, c, s40]
    refine wp_bind' (wp_bind' (forR_wp (fun i ρ => ∃ b s4, ρ = [.scr ns, .val (.int k), .val (.int v), .val (.int b), s4] ∧ b.natAbs < 2 ^ (28 * i + 1)) ⟨_, _, rfl, by decide⟩ (fun ρ ⟨b, s4, e, _⟩ => by subst e; simp) fun i ρ hi ⟨b, s4, e, hb⟩ => ?_))
    subst e
    have i40 : i < 40 := by omega
    obtain ⟨u, eu, u1, u2⟩ := r_mix n v i i40
    have q : big2 b 142857143 = true := big2_of (a := 28 * i + 1) (b := 28) hb (by decide) (by omega) (by omega) (by omega)
    have e1 : (2 : Nat) ^ (28 * (i + 1) + 1) = 2 ^ (28 * i + 1) * 268435456 := by
      rw [show 28 * (i + 1) + 1 = (28 * i + 1) + 28 by omega, Nat.pow_add]
    simp [x_mul q, eu]
    rw [e1]
    generalize 2 ^ (28 * i + 1) = P at hb ⊢
    omega
theorem r_mixed_up (n : Nat) (b : Int) (xs : List Int) (hx : xs.length ≤ 1000) : ∃ r, tx.go (n+2) "_law_mixed_up" [.own [.int b], .own (nsD xs)] = .ok r ∧ (∃ ys b', r = (.own (nsD ys), [.own [.int b'], .own (nsD xs)]) ∧ ys.Perm xs) := by
  refine of_wp ?_
  rw [go_at tx (d := d__law_mixed_up) rfl]
  simp [d__law_mixed_up, b__law_mixed_up]
  refine wp_bind' (wp_bind' (whileN_wp (fun k ρ => ∃ b l f, ρ = [.own [.int b], .own (nsD xs), .own (nsD l), .own (nsD f)] ∧ (f ++ l).Perm xs ∧ l.length = k) (fun k ρ ⟨b, l, f, e, pm, hk⟩ => ?_) turnsMost xs.length _ (by unfold turnsMost; omega) ⟨b, xs, [], rfl, .refl _, rfl⟩))
  subst e
  have ll : f.length + l.length = xs.length := by rw [← pm.length_eq, List.length_append]
  simp [x_neL0]
  by_cases c : l = []
  · subst c
    simp
    rw [List.append_nil] at pm
    exact ⟨f, rfl, pm⟩
  · have pos : 0 < l.length := List.length_pos_iff.mpr c
    have q1 := Int.emod_nonneg b (show (l.length : Int) ≠ 0 by omega)
    have q2 := Int.emod_lt_of_pos b (show (0 : Int) < l.length by omega)
    obtain ⟨v, g1, g2⟩ := popAt_ns l (b % l.length) q1 q2 (by omega)
    simp [c, r_take n b l.length (by omega) (by omega), g1]
    rw [x_app _ _ (by rw [List.length_map]; omega)]
    simp
    refine ⟨l.length - 1, by omega, b / l.length, l.eraseIdx (b % l.length).toNat, f ++ [v], by simp, ?_, ?_⟩
    · refine List.Perm.trans ?_ pm
      rw [List.append_assoc]
      exact List.Perm.append_left f g2
    · have := g2.length_eq
      rw [List.length_cons] at this
      omega
theorem r_law_closedF (n : Nat) {m : Nat} (ps : List (Int × Int)) (hm : m ≤ 8) (bd : inN m ps) (few : ∀ F : List (Int × Int), (∀ p ∈ F, Ch ps p.1 p.2) → (dedP F).length ≤ 64) : ∃ r, tx.go (n+1) "_law_closed" [.own (psD ps)] = .ok r ∧ r = (.val (.tuple (psD (clo m ps))), [.own (psD ps)]) := by
  refine of_wp ?_
  rw [go_at tx (d := d__law_closed) rfl]
  have ss0 := x_ssL64 ps (inN_small bd (by omega)) (few ps fun p hp => .one hp)
  simp [d__law_closed, b__law_closed, ss0]
  generalize hR : Slot.val (PyData.int (-1)) = R0
  refine wp_bind' (wp_bind' (whileN_wp (fun k ρ => ∃ F z s3 s4 s5, ρ = [.own (psD ps), .own (psD F), .val (.int z), s3, s4, s5, .un, .un] ∧ Mid ps F ∧ (z = -1 ∨ ∃ G, Mid ps G ∧ z = (G.length : Nat) ∧ F = setSort (G ++ compP G)) ∧ k = 2 * (65 - F.length) + (if z = F.length then 0 else 1)) (fun k ρ ⟨F, z, s3, s4, s5, e, mid, hz, hk⟩ => ?_) turnsMost (2 * (65 - (setSort ps).length) + (if (-1 : Int) = (setSort ps).length then 0 else 1)) _ (by unfold turnsMost; split <;> omega) ⟨setSort ps, -1, .un, .un, .un, by rw [hR], .start ps, .inl rfl, rfl⟩))
  subst e
  have fl : F.length ≤ 64 := by
    have := few _ mid.ch
    rw [dedP_of mid.srt.1] at this
    exact this
  by_cases c : z = F.length
  · have : F = clo m ps := by
      rcases hz with rfl | ⟨G, mG, e1, e2⟩
      · omega
      · have e3 : setSort (G ++ compP G) = G := mG.same (by rw [← e2]; omega)
        have e4 : F = G := e2.trans e3
        rw [e4]
        exact mG.fin bd e3
    simp [c, this]
  · have cn : ¬ z = (F.length : Int) := c
    simp [cn]
    have g1 : ∀ p : Int × Int, ((F.filter fun q => decide (q.1 = p.2)).map fun q : Int × Int => (p.1, q.2)).length ≤ 64 := fun p => by
      rw [List.length_map]
      exact Nat.le_trans (List.length_filter_le _ _) fl
    refine wp_bind' (forI_wp (fun i ρ => ∃ s4 s5, ρ = [.own (psD ps), .val (.list (psD F)), .val (.int F.length), .own (psD ((F.take i).flatMap fun p => (F.filter fun q => decide (q.1 = p.2)).map fun q => (p.1, q.2))), s4, s5, .un, .un]) ⟨s4, s5, by simp⟩ (fun ρ ⟨s4, s5, e⟩ => ?_) fun i d ρ hd ⟨s4, s5, e⟩ => ?_)
    · subst e
      rw [List.length_map, List.take_length]
      have cl := flat_len2 (fun p : Int × Int => (F.filter fun q => decide (q.1 = p.2)).map fun q : Int × Int => (p.1, q.2)) 64 g1 F
      have fe : (F.flatMap fun p => (F.filter fun q => decide (q.1 = p.2)).map fun q => (p.1, q.2)) = compP F := rfl
      rw [fe] at cl ⊢
      have mc : ∀ p ∈ F ++ compP F, Ch ps p.1 p.2 := fun p hp => (List.mem_append.mp hp).elim (mid.ch p) mid.comp_ch
      have ad := x_addPL F (compP F) (by omega)
      have ss := x_ssL64 (F ++ compP F) (inN_small (fun p hp => (mc p hp).inN bd) (by omega)) (few _ mc)
      simp [ad, ss, -List.map_append]
      have key : ∀ (x y : Nat), y ≤ x → x ≤ 64 → 2 * (65 - x) + (if (y : Int) = x then 0 else 1) < 2 * (65 - y) + 1 := fun x y h1 h2 => by split <;> omega
      have up : F.length ≤ (setSort (F ++ compP F)).length := nodup_len _ _ mid.srt.1 fun x hx => setSort_mem.mpr (List.mem_append.mpr (.inl hx))
      have nl : (setSort (F ++ compP F)).length ≤ 64 := by
        have := few _ mid.step.ch
        rw [dedP_of mid.step.srt.1] at this
        exact this
      refine ⟨_, ?_, setSort (F ++ compP F), F.length, ⟨rfl, rfl⟩, mid.step, .inr ⟨F, mid, rfl, rfl⟩, rfl⟩
      rw [hk, if_neg c]
      exact key _ _ up nl
    · subst e
      obtain ⟨p, q1, hp, rfl⟩ := psD_get hd
      have tk : F.take (i + 1) = F.take i ++ [p] := by rw [List.take_succ, q1]; rfl
      have cl := flat_len2 (fun p : Int × Int => (F.filter fun q => decide (q.1 = p.2)).map fun q : Int × Int => (p.1, q.2)) 64 g1 (F.take i)
      have tl : (F.take i).length ≤ 64 := by rw [List.length_take]; omega
      have gp := g1 p
      rw [tk, List.flatMap_append]
      have one : ([p].flatMap fun p => (F.filter fun q => decide (q.1 = p.2)).map fun q : Int × Int => (p.1, q.2)) = (F.filter fun q => decide (q.1 = p.2)).map fun q => (p.1, q.2) := by simp
      rw [one]
      generalize ((F.take i).flatMap fun p => (F.filter fun q => decide (q.1 = p.2)).map fun q : Int × Int => (p.1, q.2)) = A at cl ⊢
      have c56 : 64 * (F.take i).length ≤ 64 * 64 := Nat.mul_le_mul_left 64 tl
      have f6 : F.length ≤ 1000000 := by omega
      simp [prD, f6]
      rw [lcL_enc2 prD (fun q => decide (q.1 = p.2)) (fun q => prD (p.1, q.2)) F fun q hq => ?_]
      · have me : (F.filter fun q => decide (q.1 = p.2)).map (fun q => prD (p.1, q.2)) = psD ((F.filter fun q => decide (q.1 = p.2)).map fun q => (p.1, q.2)) := by unfold psD; rw [List.map_map]; rfl
        rw [me]
        generalize hC : ((F.filter fun q => decide (q.1 = p.2)).map fun q : Int × Int => (p.1, q.2)) = C at gp ⊢
        have ad := x_addPL A C (by omega)
        simp [ad, -List.map_append]
        rw [← hC]
        simp [psD]
      · by_cases cc : q.1 = p.2
        · simp [prD, cc]
        · simp [prD, cc]
theorem r_law_closed (n : Nat) {m : Nat} (ps : List (Int × Int)) (h1 : 1 ≤ m) (hm : m ≤ 8) (bd : inN m ps) (ac : Acyc ps) (hl : ps.length ≤ 1000) : ∃ r, tx.go (n+1) "_law_closed" [.own (psD ps)] = .ok r ∧ r = (.val (.tuple (psD (clo m ps))), [.own (psD ps)]) :=
  r_law_closedF n ps hm bd fun F hF => Nat.le_trans (sub_clo h1 hm bd ac hF) (by decide)
theorem r_closedB (n : Nat) {m : Nat} (ps : List (Int × Int)) (hm : m ≤ 8) (bd : inN m ps) (few : ∀ F : List (Int × Int), (∀ p ∈ F, Ch ps p.1 p.2) → (dedP F).length ≤ 64) (s : Slot) (hs : s = .own (psD ps) ∨ s = .val (.list (psD ps))) : tx.go (n+1) "closed" [.val (.int m), s] = .ok (.val (.tuple (psD (clo m ps))), [.val (.int m), s]) := by
  refine ok_of_wp ?_
  rw [go_at tx (d := d_closed) rfl]
  have sm : small62 m = true := small_in (by omega) (by omega)
  have ss0 := x_ssL64 ps (inN_small bd (by omega)) (few ps fun p hp => .one hp)
  rw [← cloK_zero bd] at ss0
  have start : ∀ x : Out (Slot × List Slot), x = dBody 2 9 b_closed (tx.go n) [.val (.int m), s] → x.wp (fun r => r = (.val (.tuple (psD (clo m ps))), [.val (.int m), s])) fun _ => False := fun x hx => by
    have e1 : dBody 2 9 b_closed (tx.go n) [.val (.int m), s] = ((forL (fB (.nm 3) (dSeq (dSet 4 (dLst (fsNil)))
  (dSeq (dFor (.tp [5, 6]) (iSeq (oOf (dVar 2)))
  (dIfS (dP pEq (osCons (oVar 6) (osCons (oVar 3) (osNil))))
  (dDo (dMut 4 mExtend (fsCons (dLc (.tp [7, 8]) (iSeq (oOf (dVar 2))) (dP pEq (osCons (oVar 7) (osCons (oVar 3) (osNil)))) (dTup (fsCons (dVar 5) (fsCons (dVar 8) (fsNil)))) [7, 8]) (fsNil))))
  (dSkip)))
  (dSet 2 (dSS (oOf (dP pAdd (osCons (oVar 2) (osCons (oVar 4) (osNil)))))))))
  (tx.go n)) (rngD 0 m) [.val (.int m), s, .own (psD (cloK m ps 0)), .un, .un, .un, .un, .un, .un]).bind (kSeq (dRet (dP pTupOf (osCons (oVar 2) (osNil)))) (tx.go n))).bind (kBody [.val (.int m), s] 2) := by
      rcases hs with rfl | rfl <;> simp [b_closed, ss0, sm]
    rw [hx, e1]
    refine wp_bind' (wp_bind' (forR_wp (fun i ρ => ∃ s3 s4 s5 s6, ρ = [.val (.int m), s, .own (psD (cloK m ps i)), s3, s4, s5, s6, .un, .un]) ⟨.un, .un, .un, .un, rfl⟩ (fun ρ ⟨s3, s4, s5, s6, e⟩ => ?_) fun i ρ hi ⟨s3, s4, s5, s6, e⟩ => ?_))
    · subst e
      rw [cloK_all bd]
      rcases hs with rfl | rfl <;> simp
    · subst e
      have mem := fun p => mem_cloK bd (k := (i : Int)) (p := p)
      have fsrt := cloK_srt m ps i
      have up := cloK_succ bd (i : Int)
      rw [show (i : Int) + 1 = ((i + 1 : Nat) : Int) by omega] at up
      rw [← up]
      have fc : ∀ p ∈ cloK m ps i, Ch ps p.1 p.2 := fun p hp => ((mem p).mp hp).ch
      have fl : (cloK m ps i).length ≤ 64 := by
        have := few _ fc
        rw [dedP_of fsrt.1] at this
        exact this
      generalize cloK m ps i = F at fc fl ⊢
      have g1 : ∀ p : Int × Int, (if p.2 = (i : Int) then (F.filter fun q => decide (q.1 = (i : Int))).map fun q : Int × Int => (p.1, q.2) else []).length ≤ 64 := fun p => by
        split
        · rw [List.length_map]
          exact Nat.le_trans (List.length_filter_le _ _) fl
        · simp
      simp
      refine wp_bind' (forI_wp (fun j ρ => ∃ s5 s6, ρ = [.val (.int m), s, .val (.list (psD F)), .val (.int (i : Int)), .own (psD ((F.take j).flatMap fun p => if p.2 = (i : Int) then (F.filter fun q => decide (q.1 = (i : Int))).map fun q => (p.1, q.2) else [])), s5, s6, .un, .un]) ⟨s5, s6, by simp⟩ (fun ρ ⟨s5, s6, e⟩ => ?_) fun j d ρ hd ⟨s5, s6, e⟩ => ?_)
      · subst e
        rw [List.length_map, List.take_length]
        have cl := flat_len2 (fun p : Int × Int => if p.2 = (i : Int) then (F.filter fun q => decide (q.1 = (i : Int))).map fun q : Int × Int => (p.1, q.2) else []) 64 g1 F
        have fe : (F.flatMap fun p => if p.2 = (i : Int) then (F.filter fun q => decide (q.1 = (i : Int))).map fun q => (p.1, q.2) else []) = moreK F i := rfl
        rw [fe] at cl ⊢
        have mc : ∀ p ∈ F ++ moreK F i, Ch ps p.1 p.2 := fun p hp => (List.mem_append.mp hp).elim (fc p) fun z => by
          obtain ⟨a, b⟩ := mem_moreK.mp z
          exact (fc _ a).trans (fc _ b)
        have ad := x_addPL F (moreK F i) (by omega)
        have ss := x_ssL64 (F ++ moreK F i) (inN_small (fun p hp => (mc p hp).inN bd) (by omega)) (few _ mc)
        simp [ad, ss, -List.map_append]
      · subst e
        obtain ⟨p, q1, hp, rfl⟩ := psD_get hd
        have tk : F.take (j + 1) = F.take j ++ [p] := by rw [List.take_succ, q1]; rfl
        have cl := flat_len2 (fun p : Int × Int => if p.2 = (i : Int) then (F.filter fun q => decide (q.1 = (i : Int))).map fun q : Int × Int => (p.1, q.2) else []) 64 g1 (F.take j)
        have tl : (F.take j).length ≤ 64 := by rw [List.length_take]; omega
        have gp := g1 p
        rw [tk, List.flatMap_append]
        have one : ([p].flatMap fun p => if p.2 = (i : Int) then (F.filter fun q => decide (q.1 = (i : Int))).map fun q : Int × Int => (p.1, q.2) else []) = if p.2 = (i : Int) then (F.filter fun q => decide (q.1 = (i : Int))).map fun q : Int × Int => (p.1, q.2) else [] := by simp
        rw [one]
        generalize ((F.take j).flatMap fun p => if p.2 = (i : Int) then (F.filter fun q => decide (q.1 = (i : Int))).map fun q : Int × Int => (p.1, q.2) else []) = A at cl ⊢
        have c60 : 64 * (F.take j).length ≤ 64 * 64 := Nat.mul_le_mul_left 64 tl
        have f6 : F.length ≤ 1000000 := by omega
        by_cases cp : p.2 = (i : Int)
        · rw [if_pos cp] at gp ⊢
          simp [prD, f6, cp]
          rw [lcL_enc2 prD (fun q => decide (q.1 = (i : Int))) (fun q => prD (p.1, q.2)) F fun q hq => ?_]
          · have me : (F.filter fun q => decide (q.1 = (i : Int))).map (fun q => prD (p.1, q.2)) = psD ((F.filter fun q => decide (q.1 = (i : Int))).map fun q => (p.1, q.2)) := by unfold psD; rw [List.map_map]; rfl
            rw [me]
            generalize hC : ((F.filter fun q => decide (q.1 = (i : Int))).map fun q : Int × Int => (p.1, q.2)) = C at gp ⊢
            have ex := x_ext (psD A) (psD C) (by rw [List.length_map, List.length_map]; omega)
            simp [ex, -List.map_append]
            rw [← hC]
            simp [psD]
          · by_cases cc : q.1 = (i : Int)
            · simp [prD, cc]
            · simp [prD, cc]
        · rw [if_neg cp]
          simp [prD, cp]
  exact start _ rfl
theorem few_of {m : Nat} {ps : List (Int × Int)} (h7 : m ≤ 8) (bd : inN m ps) : ∀ F : List (Int × Int), (∀ p ∈ F, Ch ps p.1 p.2) → (dedP F).length ≤ 64 := fun F hF => by
  have h := nodup_sub_len (dedP F) (gridP m) (dedP_nodup F) fun p hp => by
    have b := (hF p ((dedP_mem F).mp hp)).inN bd
    exact mem_grid.mpr b
  have g : (gridP m).length = m * m := by
    have key : ∀ (l : List Nat) (k : Nat), (l.map fun _ : Nat => k).sum = l.length * k := fun l k => by
      induction l with
      | nil => simp
      | cons a l ih => rw [List.map_cons, List.sum_cons, ih, List.length_cons, Nat.succ_mul, Nat.add_comm]
    unfold gridP
    rw [List.length_flatMap]
    simp only [List.length_map, List.length_range]
    rw [key, List.length_range]
  have : m * m ≤ 64 := Nat.mul_le_mul h7 h7
  omega
theorem idx_lt {xs : List Int} (nd : xs.Nodup) {i j : Nat} (hi : i < xs.length) (hj : j < xs.length) (h : i < j) : xs.idxOf xs[i] < xs.idxOf xs[j] := by
  rw [nd.idxOf_getElem i hi, nd.idxOf_getElem j hj]
  exact h
theorem r_law_order (n : Nat) (b : Int) (mo : Nat) (h1 : 1 ≤ mo) (h8 : mo ≤ 8) : ∃ r, tx.go (n+3) "_law_order" [.own [.int b], .val (.int mo)] = .ok r ∧ (∃ (b' : Int) (m : Nat) (ps : List (Int × Int)), r = (.val (ordD m ps), [.own [.int b'], .val (.int mo)]) ∧ IsOrd m ps ∧ m ≤ mo) := by
  refine of_wp ?_
  rw [go_at tx (d := d__law_order) rfl]
  have q1 := emod_in b mo (by omega)
  obtain ⟨m, hm⟩ : ∃ m : Nat, (1 + b % mo : Int) = m := ⟨(1 + b % mo).toNat, by omega⟩
  have m1 : 1 ≤ m := by omega
  have m8 : m ≤ mo := by omega
  have sm : small62 m = true := small_in (by omega) (by omega)
  have ml : m ≤ 1000000 := by omega
  obtain ⟨r, e, ys, b1, rfl, pm⟩ := r_mixed_up n (b / mo) (upTo m) (by rw [upTo_len]; omega)
  have yl : ys.length = m := by rw [pm.length_eq, upTo_len]
  have nd : ys.Nodup := pm.nodup_iff.mpr (upTo_nd m)
  have yb : ∀ x ∈ ys, 0 ≤ x ∧ x < m := fun x hx => mem_upTo.mp (pm.mem_iff.mp hx)
  have q2 := emod_in b1 4 (by decide)
  obtain ⟨th, hth, eth⟩ := pick_n [2, 3, 4, 7] (b1 % 4) q2.1 q2.2
  have thb : 0 < th ∧ th < 8 := by
    simp only [List.mem_cons, List.not_mem_nil, or_false] at hth
    omega
  clear hth
  have eth : pIx [.list [.int 2, .int 3, .int 4, .int 7], .int (b1 % 4)] = some (.val (.int th)) := eth
  have tk := r_take (n + 1) b1 4 (by decide) (by decide)
  have ru := rng_upTo m
  have rl : (rngD 0 m).length = m := rngD_length 0 m
  simp [d__law_order, b__law_order, r_take (n + 1) b mo (by omega) (by omega), hm, sm, ru, upTo_len, ml, e, tk, eth]
  generalize b1 / 4 = b2
  let Good := fun (Q : List (Int × Int)) => ∀ p ∈ Q, ∃ (i j : Nat) (hi : i < ys.length) (hj : j < ys.length), i < j ∧ p = (ys[i], ys[j])
  rw [← ru]
  refine wp_bind' (wp_bind' (forR_wp (fun i ρ => ∃ (b : Int) (Q : List (Int × Int)) (s6 s7 : Slot), ρ = [.own [.int b], .val (.int mo), .val (.int m), .own (nsD ys), .val (.int th), .own (psD Q), s6, s7] ∧ Good Q ∧ Q.length ≤ i * 8) ⟨b2, [], .un, .un, rfl, fun p hp => absurd hp List.not_mem_nil, by simp⟩ (fun ρ ⟨b, Q, s6, s7, e, good, hl⟩ => ?_) fun i ρ hi ⟨b, Q, s6, s7, e, good, hl⟩ => ?_))
  · subst e
    have bdQ : inN m Q := fun p hp => by
      obtain ⟨i, j, hi, hj, _, rfl⟩ := good p hp
      have a := yb _ (List.getElem_mem hi)
      have b := yb _ (List.getElem_mem hj)
      exact ⟨a.1, a.2, b.1, b.2⟩
    have acQ : Acyc Q := acyc_of (fun x => ys.idxOf x) fun p hp => by
      obtain ⟨i, j, hi, hj, lt, rfl⟩ := good p hp
      exact idx_lt nd hi hj lt
    obtain ⟨r, ec, hr⟩ := r_law_closed (n + 1) Q m1 (by omega) bdQ acQ (by omega)
    subst hr
    simp [ec]
    exact ⟨b, m, clo m Q, ⟨rfl, rfl⟩, clo_ord m1 (by omega) bdQ acQ, m8⟩
  · subst e
    have si : small62 ((i : Int) + 1) = true := small_in (by omega) (by omega)
    simp [si, sm]
    have e2 : ((m : Int) - ((i : Int) + 1)).toNat = m - (i + 1) := by omega
    rw [e2]
    refine forR_wp (fun j ρ => ∃ (b : Int) (Q : List (Int × Int)) (s7 : Slot), ρ = [.own [.int b], .val (.int mo), .val (.int m), .own (nsD ys), .val (.int th), .own (psD Q), .val (.int (i : Int)), s7] ∧ Good Q ∧ Q.length ≤ i * 8 + j) ⟨b, Q, s7, rfl, good, hl⟩ (fun ρ ⟨b, Q, s7, e, good, hl⟩ => ?_) fun j ρ hj ⟨b, Q, s7, e, good, hl⟩ => ?_
    · subst e
      exact ⟨b, Q, ⟨_, _, rfl⟩, good, by omega⟩
    · subst e
      have tk := r_take (n + 1) b th thb.1 (by omega)
      by_cases c : b % th = 0
      · have i1 := x_atN ys i (by omega)
        have i2 : atI (nsD ys) ((i : Int) + 1 + (j : Int)) = some (.int (ys[i + 1 + j]'(by omega))) := by
          rw [show (i : Int) + 1 + (j : Int) = ((i + 1 + j : Nat) : Int) by omega]
          exact x_atN ys (i + 1 + j) (by omega)
        have ap := x_app (psD Q) (prD (ys[i], ys[i + 1 + j])) (by rw [List.length_map]; omega)
        have pe : psD Q ++ [prD (ys[i], ys[i + 1 + j])] = psD (Q ++ [(ys[i], ys[i + 1 + j])]) := by simp
        rw [pe] at ap
        unfold prD at ap
        simp [tk, c, i1, i2, ap, -List.map_append]
        refine ⟨b / th, Q ++ [(ys[i], ys[i + 1 + j])], ⟨rfl, rfl⟩, fun p hp => ?_, by rw [List.length_append, List.length_singleton]; omega⟩
        rcases List.mem_append.mp hp with z | z
        · exact good p z
        · exact ⟨i, i + 1 + j, by omega, by omega, by omega, List.mem_singleton.mp z⟩
      · simp [tk, c]
        exact ⟨b / th, Q, ⟨rfl, rfl⟩, good, by omega⟩
theorem r_is_next (n : Nat) (m : Nat) (ps : List (Int × Int)) (hm : m ≤ 8) (a b : Int) : tx.go (n+1) "is_next" [.val (ordD m ps), .val (.int a), .val (.int b)] = .ok (.val (.bool (nextB m ps (a, b))), [.val (ordD m ps), .val (.int a), .val (.int b)]) := by
  rw [go_at tx (d := d_is_next) rfl]
  have sm : small62 m = true := small_in (by omega) (by omega)
  have m6 : m ≤ 1000000 := by omega
  have an : pAny [.list ((List.range m).map fun c : Nat => .bool (decide ((a, (c : Int)) ∈ ps) && decide (((c : Int), b) ∈ ps)))] = some (.val (.bool ((List.range m).any fun c : Nat => decide ((a, (c : Int)) ∈ ps) && decide (((c : Int), b) ∈ ps)))) := by
    have : ((List.range m).map fun c : Nat => PyData.bool (decide ((a, (c : Int)) ∈ ps) && decide (((c : Int), b) ∈ ps))) = ((List.range m).map fun c : Nat => decide ((a, (c : Int)) ∈ ps) && decide (((c : Int), b) ∈ ps)).map .bool := by rw [List.map_map]; rfl
    rw [this]
    show Option.map (fun bs : List Bool => Slot.val (PyData.bool (bs.any id))) (boolsOf _) = _
    rw [boolsOf_map]
    simp
  simp [d_is_next, b_is_next, x_ord0, sm, rngD_length, m6]
  unfold rngD
  rw [lcL_enc (fun j : Nat => PyData.int (0 + (j : Nat))) (fun c : Nat => .bool (decide ((a, (c : Int)) ∈ ps) && decide (((c : Int), b) ∈ ps))) (List.range m) fun j hj => ?_]
  · generalize ((List.range m).map fun c : Nat => PyData.bool (decide ((a, (c : Int)) ∈ ps) && decide (((c : Int), b) ∈ ps))) = W at an ⊢
    simp [an]
    unfold nextB
    rw [List.any_eq_not_all_not]
  · by_cases c1 : (a, (j : Int)) ∈ ps
    · simp [x_ord1, x_inT, c1]
    · simp [x_ord1, x_inT, c1]
theorem r_next_pairs (n : Nat) (m : Nat) (ps : List (Int × Int)) (o : IsOrd m ps) : tx.go (n+5) "next_pairs" [.val (ordD m ps)] = .ok (.own (psD (ps.filter (nextB m ps))), [.val (ordD m ps)]) := by
  rw [go_at tx (d := d_next_pairs) rfl]
  have hm : m ≤ 8 := by have := o.hi; omega
  have l := o.len
  have l6 : ps.length ≤ 1000000 := by omega
  simp [d_next_pairs, b_next_pairs, r_need_order n m ps o, x_ord1, l6]
  rw [lcL_enc2 prD (nextB m ps) prD ps fun q hq => ?_]
  · simp
  · have nx := r_is_next (n + 3) m ps hm q.1 q.2
    cases c : nextB m ps q with
    | true => simp [prD, nx, c]
    | false => simp [prD, nx, c]
def oddA : List PyData := [.none, .bool true, .bool false, .int (-1), .int 0, .int 1, .str "", .str "1", .tuple [], .list [], .tuple [.int 0], .tuple [.int 1, .tuple []], .list [.int 0], .dict [(.str "a", .int 1)], .tuple [.int 0, .int 1], .int 1000000000000000000000000000000000000000, .tuple [.tuple [.int 0, .int 1]], .str "a"]
def shortB : PyData → Bool
  | .list ds => decide (ds.length ≤ 2)
  | _ => true
theorem r_oddA (n : Nat) (b : Int) : ∃ r, tx.go (n+2) "_law_odd" [.own [.int b]] = .ok r ∧ ∃ b' d, r = (.val d, [.own [.int b']]) ∧ d ∈ oddA := by
  refine of_wp ?_
  rw [go_at tx (d := d__law_odd) rfl]
  have q := mod_in b (show (0 : Int) < 18 by decide)
  obtain ⟨d, e, hd⟩ := atI_mem (ds := oddA) q.1 (by show _ < (18 : Int); exact q.2)
  have tk := r_take n b 18 (by decide) (by decide)
  unfold oddA at e
  simp [d__law_odd, b__law_odd, pAdd, tk, e]
  exact ⟨_, _, ⟨rfl, rfl⟩, hd⟩
end Dn.M06

namespace Dn.M06
open PySem PySem.Spec L2
open PyProof.Rows hiding St
/-- one sign -/
def sg (d : Nat) : Str := ⟨#[48 + d]⟩
def wordP (p : Int × Int) : Str := ⟨#[48 + p.1.toNat, 60, 48 + p.2.toNat]⟩
def wordsO (m : Nat) (D : List (Int × Int)) : List Str := sg m :: D.map wordP
def textO (m : Nat) (ps : List (Int × Int)) : Str := Txt.join " " (wordsO m (ps.filter (nextB m ps)))
theorem tyS (z : Str) : (tyD (PyData.str z) == "str") = true := rfl
theorem strI_sg {a : Nat} (h : a < 10) : pStrI [.int (a : Int)] = some (.val (.str (sg a))) := by
  have e1 : ∀ a : Nat, a < 10 → ((a : Int)).natAbs.log2 < 1920 := by decide +kernel
  have e2 : ∀ a : Nat, a < 10 → (Str.ofString (toString ((a : Nat) : Int))) = sg a := by decide +kernel
  show (if ((a : Int)).natAbs.log2 < 1920 then some (Slot.val (.str (Str.ofString (toString ((a : Nat) : Int))))) else none) = _
  rw [if_pos (e1 a h), e2 a h]
theorem addS {i j : Str} (h : i.length + j.length ≤ 1000000) : pAdd [.str i, .str j] = some (.val (.str (i ++ j))) := by
  show (if i.length + j.length ≤ 1000000 then some (Slot.val (.str (i ++ j))) else none) = _
  rw [if_pos h]
theorem addW1 {a : Nat} (h : a < 10) : pAdd [.str (sg a), .str "<"] = some (.val (.str ⟨#[48 + a, 60]⟩)) := by
  have e : ∀ a : Nat, a < 10 → sg a ++ ("<" : Str) = ⟨#[48 + a, 60]⟩ := by decide +kernel
  rw [addS (by show 1 + 1 ≤ 1000000; decide), e a h]
theorem addW2 {a b : Nat} (h : a < 10) (h2 : b < 10) : pAdd [.str ⟨#[48 + a, 60]⟩, .str (sg b)] = some (.val (.str ⟨#[48 + a, 60, 48 + b]⟩)) := by
  have e : ∀ a : Nat, a < 10 → ∀ b : Nat, b < 10 → (⟨#[48 + a, 60]⟩ : Str) ++ sg b = ⟨#[48 + a, 60, 48 + b]⟩ := by decide +kernel
  rw [addS (by show 2 + 1 ≤ 1000000; decide), e a h b h2]
theorem pr_nat {m : Nat} (hm : m ≤ 8) {p : Int × Int} (h : 0 ≤ p.1 ∧ p.1 < (m : Int) ∧ 0 ≤ p.2 ∧ p.2 < (m : Int)) : ∃ a b : Nat, p = ((a : Int), (b : Int)) ∧ a < m ∧ b < m ∧ a < 10 ∧ b < 10 := by
  obtain ⟨x, y⟩ := p
  obtain ⟨h1, h2, h3, h4⟩ := h
  simp only at h1 h2 h3 h4
  obtain ⟨a, rfl⟩ := Int.eq_ofNat_of_zero_le h1
  obtain ⟨b, rfl⟩ := Int.eq_ofNat_of_zero_le h3
  exact ⟨a, b, rfl, by omega, by omega, by omega, by omega⟩
theorem len_wordsO (m : Nat) (D : List (Int × Int)) : ((wordsO m D).map (·.length)).sum + (wordsO m D).length * (" " : Str).length = 2 + 4 * D.length := by
  have e : ((D.map wordP).map (·.length)).sum = 3 * D.length := by
    induction D with
    | nil => rfl
    | cons p D ih =>
      rw [List.map_cons, List.map_cons, List.sum_cons, ih, List.length_cons]
      show 3 + _ = _
      omega
  unfold wordsO
  rw [List.map_cons, List.sum_cons, e, List.length_cons, List.length_map]
  show 1 + 3 * D.length + (D.length + 1) * 1 = _
  omega
theorem words_data (m : Nat) (D : List (Int × Int)) : PyData.str (sg m) :: D.map (fun p => PyData.str (wordP p)) = (wordsO m D).map PyData.str := by
  unfold wordsO
  rw [List.map_cons, List.map_map]
  rfl
theorem lenS3 (a b c : Nat) : pLen [.str ⟨#[a, b, c]⟩] = some (.val (.int 3)) := rfl
theorem ixS3 (a b c : Nat) : pIx [.str ⟨#[a, b, c]⟩, .int 0] = some (.val (.str ⟨#[a]⟩)) ∧ pIx [.str ⟨#[a, b, c]⟩, .int 1] = some (.val (.str ⟨#[b]⟩)) ∧ pIx [.str ⟨#[a, b, c]⟩, .int 2] = some (.val (.str ⟨#[c]⟩)) := ⟨rfl, rfl, rfl⟩
theorem intS_sg {a : Nat} (h : a < 10) : pIntS [.str (sg a)] = some (.val (.int (a : Int))) := by
  have e : ∀ a : Nat, a < 10 → PySem.intText? (sg a) = some ((a : Nat) : Int) := by decide +kernel
  show (if (sg a).length ≤ 640 then (PySem.intText? (sg a)).map fun n => Slot.val (.int n) else none) = _
  rw [if_pos (by show 1 ≤ 640; decide), e a h]
  rfl
theorem joinL_len (S : List Nat) : ∀ parts : List (List Nat), (TL.joinL S parts).length ≤ (parts.map List.length).sum + parts.length * S.length
  | [] => Nat.zero_le _
  | [p] => by
    show p.length ≤ p.length + 0 + 1 * S.length
    omega
  | p :: q :: r => by
    have ih := joinL_len S (q :: r)
    show (p ++ (S ++ TL.joinL S (q :: r))).length ≤ _
    rw [List.length_append, List.length_append, List.map_cons, List.sum_cons, List.length_cons (a := p), Nat.add_mul, Nat.one_mul]
    omega
/-! ### refusals with a number -/
def kRaiseV (x : Str) : PyData × Env → Out (Fl × Env) := fun r => .exc ⟨x, some r.1⟩
@[simp] theorem x_dRaiseV {x : Str} {d : DenO} {Φ : Calls} {ρ : Env} : dRaiseV x d Φ ρ = (d Φ ρ).bind (kRaiseV x) := id rfl
@[simp] theorem x_dRaiseV1 {x : Str} {d : PyData} {ρ : Env} : kRaiseV x (d, ρ) = .exc ⟨x, some d⟩ := id rfl
/-! ### one word -/
def figX (x : Nat) : Bool := inStr ⟨#[x]⟩ "0123456789"
theorem figs_at : ∀ i : Nat, i < 10 → ("0123456789" : Str).cps.extract i (i + 1) = #[48 + i] := by decide +kernel
theorem fig_sgS {w : Str} (h1 : w.length = 1) (h2 : inStr w "0123456789" = true) : ∃ d, d < 10 ∧ w = sg d := by
  unfold inStr at h2
  cases hO : Builtin.Str.occurrences "0123456789" w 0 ("0123456789" : Str).length 1 with
  | nil => rw [hO] at h2; cases h2
  | cons i T =>
    have sp := StrLaws.occ_spec "0123456789" w 0 ("0123456789" : Str).length 1 i (by rw [hO]; exact List.mem_cons_self)
    have l10 : ("0123456789" : Str).length = 10 := by decide +kernel
    rw [l10, h1] at sp
    have e := figs_at i (by omega)
    have s2 := sp.2
    unfold Builtin.Str.subAt at s2
    rw [h1, e] at s2
    have s2 : #[48 + i] = w.cps := by simpa using s2
    exact ⟨i, by omega, by cases w; subst s2; rfl⟩
theorem figX_iff {x : Nat} : figX x = true ↔ 48 ≤ x ∧ x < 58 := by
  constructor
  · intro h
    obtain ⟨d, hd, e⟩ := fig_sgS (w := ⟨#[x]⟩) rfl h
    have : x = 48 + d := by injection e with e; injection e with e; injection e
    omega
  · rintro ⟨h1, h2⟩
    obtain ⟨d, rfl⟩ : ∃ d, x = 48 + d := ⟨x - 48, by omega⟩
    exact fig_in d (by omega)
def rawW (w : Str) : Option (Nat × Nat) := match w.cps.toList with
  | [x, y, z] => if 48 ≤ x ∧ x < 58 ∧ y = 60 ∧ 48 ≤ z ∧ z < 58 then some (x - 48, z - 48) else none
  | _ => none
theorem str_of {w : Str} {l : List Nat} (h : w.cps.toList = l) : w = ⟨l.toArray⟩ := by
  subst h
  cases w
  simp
theorem raw_some {w : Str} {a b : Nat} (h : rawW w = some (a, b)) : a < 10 ∧ b < 10 ∧ w = ⟨#[48 + a, 60, 48 + b]⟩ := by
  unfold rawW at h
  split at h
  · rename_i x y z e
    split at h
    · rename_i c
      injection h with h
      injection h with h1 h2
      subst h1
      subst h2
      refine ⟨by omega, by omega, ?_⟩
      rw [str_of e, c.2.2.1, show 48 + (x - 48) = x by omega, show 48 + (z - 48) = z by omega]
    · cases h
  · cases h
theorem raw_none {w : Str} (h : rawW w = none) : w.length ≠ 3 ∨ ∃ x y z, w = ⟨#[x, y, z]⟩ ∧ (y ≠ 60 ∨ (y = 60 ∧ figX x = false) ∨ (y = 60 ∧ figX x = true ∧ figX z = false)) := by
  unfold rawW at h
  split at h
  · rename_i x y z e
    split at h
    · cases h
    · rename_i c
      refine .inr ⟨x, y, z, str_of e, ?_⟩
      by_cases cy : y = 60
      · cases cx : figX x with
        | false => exact .inr (.inl ⟨cy, rfl⟩)
        | true =>
          cases cz : figX z with
          | false => exact .inr (.inr ⟨cy, rfl, rfl⟩)
          | true =>
            have := figX_iff.mp cx
            have := figX_iff.mp cz
            exact absurd ⟨by omega, by omega, cy, by omega, by omega⟩ c
      · exact .inl cy
  · rename_i ne
    refine .inl fun z => ?_
    have z : w.cps.toList.length = 3 := by rw [Array.length_toList]; exact z
    match hl : w.cps.toList, z with
    | [x, y, z], _ => exact ne _ _ _ hl
def okW (m : Nat) (w : Str) : Option (Int × Int) := match rawW w with
  | none => none
  | some (a, b) => if a = b ∨ m ≤ max a b then none else some ((a : Int), (b : Int))
def pwD : Option (Int × Int) → PyData
  | none => .none
  | some p => prD p
theorem neY (y : Nat) : pNe [.str ⟨#[y]⟩, .str "<"] = some (.val (.bool (!decide (y = 60)))) := by
  rw [x_neStr]
  have : ((⟨#[y]⟩ : Str) = "<") ↔ y = 60 := by
    have e : ("<" : Str) = ⟨#[60]⟩ := by decide +kernel
    rw [e]
    constructor
    · intro h; injection h with h; injection h with h; injection h
    · intro h; rw [h]
  rw [decide_eq_decide.mpr this]
theorem lenW (w : Str) (h : w.length ≤ 1000000) : pLen [.str w] = some (.val (.int (w.length : Int))) := if_pos h
theorem r_pin (n m : Nat) (w : Str) (hl : w.length ≤ 1000000) : tx.go (n+1) "pair_in" [.val (.str w), .val (.int m)] = .ok (.val (pwD (okW m w)), [.val (.str w), .val (.int m)]) := by
  rw [go_at tx (d := d_pair_in) rfl]
  unfold okW
  cases hr : rawW w with
  | none =>
    show _ = Out.ok (Slot.val PyData.none, _)
    rcases raw_none hr with c | ⟨x, y, z, rfl, c⟩
    · have c' : ¬ (w.length : Int) = 3 := by omega
      have ln := lenW w hl
      simp [d_pair_in, b_pair_in, ln, c']
    · obtain ⟨i0, i1, i2⟩ := ixS3 x y z
      have l3 := lenS3 x y z
      have ny := neY y
      rcases c with c | ⟨rfl, c⟩ | ⟨rfl, c, c2⟩
      · simp [d_pair_in, b_pair_in, l3, i1, ny, c]
      · have c : inStr ⟨#[x]⟩ "0123456789" = false := c
        simp [d_pair_in, b_pair_in, l3, i0, i1, ny, c]
      · have c : inStr ⟨#[x]⟩ "0123456789" = true := c
        have c2 : inStr ⟨#[z]⟩ "0123456789" = false := c2
        simp [d_pair_in, b_pair_in, l3, i0, i1, i2, ny, c, c2]
  | some ab =>
    obtain ⟨a, b⟩ := ab
    obtain ⟨ha, hb, rfl⟩ := raw_some hr
    obtain ⟨i0, i1, i2⟩ := ixS3 (48 + a) 60 (48 + b)
    have l3 := lenS3 (48 + a) 60 (48 + b)
    have ny := neY 60
    have fa := fig_in a ha
    have fb := fig_in b hb
    have na : pIntS [.str ⟨#[48 + a]⟩] = some (.val (.int (a : Int))) := intS_sg ha
    have nb : pIntS [.str ⟨#[48 + b]⟩] = some (.val (.int (b : Int))) := intS_sg hb
    have mx := x_maxT (a : Int) (b : Int)
    show _ = Out.ok (Slot.val (pwD (if a = b ∨ m ≤ max a b then none else some ((a : Int), (b : Int)))), _)
    by_cases c1 : a = b
    · have c1' : (a : Int) = (b : Int) := by omega
      rw [if_pos (.inl c1)]
      simp [d_pair_in, b_pair_in, l3, i0, i1, i2, ny, fa, fb, na, nb, c1', pwD]
    · have c1' : ¬ (a : Int) = (b : Int) := by omega
      by_cases c2 : m ≤ max a b
      · have c2' : (m : Int) ≤ max (a : Int) (b : Int) := by omega
        rw [if_pos (.inr c2)]
        simp [d_pair_in, b_pair_in, l3, i0, i1, i2, ny, fa, fb, na, nb, c1', c2', mx, pwD]
      · have c2' : ¬ (m : Int) ≤ max (a : Int) (b : Int) := by omega
        rw [if_neg (by rintro (z | z); exact c1 z; exact c2 z)]
        simp [d_pair_in, b_pair_in, l3, i0, i1, i2, ny, fa, fb, na, nb, c1', c2', mx, pwD, prD]
end Dn.M06

namespace Dn.M06
open PySem PySem.Spec L2
open PyProof.Rows hiding St
def leP (p q : Int × Int) : Bool := if p.1 = q.1 then (if p.2 = q.2 then true else decide (p.2 ≤ q.2)) else decide (p.1 ≤ q.1)
def lateB (ps : List (Int × Int)) (p : Int × Int) : Bool := match ps.getLast? with
  | none => false
  | some q => leP p q
def stepP (m : Nat) (ps : List (Int × Int)) (w : Str) : Option (List (Int × Int)) := match okW m w with
  | none => none
  | some p => if lateB ps p = true then none else some (ps ++ [p])
def scan (m : Nat) : Nat → List (Int × Int) → List Str → Nat ⊕ List (Int × Int)
  | _, ps, [] => .inr ps
  | k, ps, w :: ws => match stepP m ps w with
    | none => .inl k
    | some ps' => scan m (k + 1) ps' ws
noncomputable def badB (m : Nat) (ps : List (Int × Int)) : Bool := (clo m ps).any (fun p => decide (p.1 = p.2)) || !decide ((clo m ps).filter (nextB m (clo m ps)) = ps)
noncomputable def fin (m len : Nat) : Nat ⊕ List (Int × Int) → Nat ⊕ List (Int × Int)
  | .inl a => .inl a
  | .inr ps => if badB m ps = true then .inl len else .inr (clo m ps)
theorem okW_in {m : Nat} {w : Str} {p : Int × Int} (h : okW m w = some p) : ∃ a b : Nat, p = ((a : Int), (b : Int)) ∧ a < m ∧ b < m := by
  unfold okW at h
  split at h
  · cases h
  · rename_i a b _
    split at h
    · cases h
    · rename_i c
      injection h with h
      subst h
      have : ¬ m ≤ max a b := fun z => c (.inr z)
      exact ⟨a, b, rfl, by omega, by omega⟩
theorem late_of (ps : List (Int × Int)) (p : Int × Int) : (ps = [] ∧ lateB ps p = false) ∨ ∃ q, ps ≠ [] ∧ atI (psD ps) (-1) = some (prD q) ∧ pLeT [prD p, prD q] = some (.val (.bool (lateB ps p))) := by
  unfold lateB
  rcases List.eq_nil_or_concat ps with rfl | ⟨L, q, rfl⟩
  · exact .inl ⟨rfl, rfl⟩
  · rw [List.concat_eq_append]
    refine .inr ⟨q, by simp, ?_, ?_⟩
    · have : psD (L ++ [q]) = psD L ++ [prD q] := by simp
      rw [this]
      exact x_last _ _
    · rw [List.getLast?_concat]
      exact x_leT2 _ _ _ _
theorem clo_len {m : Nat} {ps : List (Int × Int)} (hm : m ≤ 8) (bd : inN m ps) : (clo m ps).length ≤ 64 := by
  have := few_of hm bd (clo m ps) fun p hp => (mem_clo bd).mp hp
  rwa [dedP_of (clo_srt m ps).1] at this
theorem clo_isord {m : Nat} {ps : List (Int × Int)} (h1 : 1 ≤ m) (hm : m ≤ 8) (bd : inN m ps) (h : (clo m ps).any (fun p => decide (p.1 = p.2)) = false) : IsOrd m (clo m ps) := by
  refine clo_ord h1 hm bd fun a c => ?_
  have := (mem_clo (n := m) bd (p := (a, a))).mpr c
  have h2 := List.any_eq_false.mp h _ this
  simp at h2
/-- the loops -/
theorem ne_loops (Q : List (Int × Int)) : pNe [.list ((Q.filter fun p => decide (p.1 = p.2)).map fun p => PyData.int p.1), .list []] = some (.val (.bool (Q.any fun p => decide (p.1 = p.2)))) := by
  have h := x_neL0 ((Q.filter fun p => decide (p.1 = p.2)).map fun p => p.1)
  have e : nsD ((Q.filter fun p => decide (p.1 = p.2)).map fun p => p.1) = (Q.filter fun p => decide (p.1 = p.2)).map fun p => PyData.int p.1 := by
    show List.map _ (List.map _ _) = _
    rw [List.map_map]
    rfl
  rw [e] at h
  rw [h]
  congr 3
  rw [Bool.eq_iff_iff, List.any_eq_true]
  simp only [Bool.not_eq_true', decide_eq_false_iff_not, List.map_eq_nil_iff, List.filter_eq_nil_iff]
  constructor
  · intro z
    refine Decidable.byContradiction fun c => z fun a ha b => c ⟨a, ha, b⟩
  · rintro ⟨a, ha, b⟩ z
    exact z a ha b
theorem r_law_next (n m : Nat) (qs : List (Int × Int)) (hm : m ≤ 8) (hl : qs.length ≤ 1000) : tx.go (n+1) "_law_next" [.val (.int m), .val (.tuple (psD qs))] = .ok (.own (psD (qs.filter (nextB m qs))), [.val (.int m), .val (.tuple (psD qs))]) := by
  rw [go_at tx (d := d__law_next) rfl]
  refine ok_of_wp ?_
  have sm : small62 m = true := small_in (by omega) (by omega)
  have m6 : m ≤ 1000000 := by omega
  simp [d__law_next, b__law_next]
  refine wp_bind' (wp_bind' (forI_wp (fun j ρ => ∃ s3 s4, ρ = [.val (.int m), .val (.tuple (psD qs)), .own (psD ((qs.take j).filter (nextB m qs))), s3, s4, .un]) ⟨_, _, rfl⟩ (fun ρ ⟨s3, s4, e⟩ => ?_) fun j d ρ hd ⟨s3, s4, e⟩ => ?_))
  · subst e
    rw [List.length_map, List.take_length]
    simp
  · subst e
    obtain ⟨p, q1, hp, rfl⟩ := psD_get hd
    obtain ⟨a, b⟩ := p
    have tk : qs.take (j + 1) = qs.take j ++ [(a, b)] := by rw [List.take_succ, q1]; rfl
    have fl := List.length_filter_le (nextB m qs) (qs.take j)
    have tl : (qs.take j).length ≤ qs.length := by rw [List.length_take]; omega
    rw [tk, List.filter_append]
    have hb : ([(a, b)].filter (nextB m qs)) = if nextB m qs (a, b) then [(a, b)] else [] := by rw [List.filter_cons]; rfl
    rw [hb]
    generalize (qs.take j).filter (nextB m qs) = A at fl ⊢
    have ap := x_app (psD A) (prD (a, b)) (by rw [List.length_map]; omega)
    have e0 := x_eqNl0 ((List.range m).filter fun c : Nat => decide ((a, (c : Int)) ∈ qs) && decide (((c : Int), b) ∈ qs))
    have nb : nextB m qs (a, b) = decide (((List.range m).filter fun c : Nat => decide ((a, (c : Int)) ∈ qs) && decide (((c : Int), b) ∈ qs)) = []) := by
      rw [Bool.eq_iff_iff, decide_eq_true_eq, List.filter_eq_nil_iff]
      unfold nextB
      rw [List.all_eq_true]
      exact forall_congr' fun c => imp_congr_right fun _ => by
        generalize (decide ((a, (c : Int)) ∈ qs) && decide (((c : Int), b) ∈ qs)) = b
        cases b <;> simp
    rw [← nb] at e0
    simp [prD, sm, rngD_length, m6, -List.map_append]
    unfold rngD
    rw [lcL_enc2 (fun j : Nat => PyData.int (0 + (j : Nat))) (fun c : Nat => decide ((a, (c : Int)) ∈ qs) && decide (((c : Int), b) ∈ qs)) (fun c : Nat => .int (c : Int)) (List.range m) fun c hc => ?_]
    · generalize ((List.range m).filter fun c : Nat => decide ((a, (c : Int)) ∈ qs) && decide (((c : Int), b) ∈ qs)) = W at e0 ⊢
      have e0 : pEq [.list (W.map fun c : Nat => PyData.int (c : Int)), .list []] = some (.val (.bool (nextB m qs (a, b)))) := e0
      generalize (W.map fun c : Nat => PyData.int (c : Int)) = V at e0 ⊢
      cases cn : nextB m qs (a, b) with
      | true =>
        rw [cn] at e0
        rw [if_pos rfl]
        have pa : psD (A ++ [(a, b)]) = psD A ++ [.tuple [.int a, .int b]] := by simp [prD]
        rw [pa]
        generalize psD A = WA at *
        have ap : mAppend WA [.tuple [.int a, .int b]] = some (.none, WA ++ [.tuple [.int a, .int b]]) := ap
        simp [e0, ap, prD]
      | false =>
        rw [cn] at e0
        rw [if_neg Bool.false_ne_true, List.append_nil]
        generalize psD A = WA at *
        simp [e0]
    · by_cases c1 : (a, (c : Int)) ∈ qs
      · by_cases c2 : ((c : Int), b) ∈ qs
        · simp [x_inT, c1, c2]
        · simp [x_inT, c1, c2]
      · simp [x_inT, c1]
end Dn.M06

namespace Dn.M06
open PySem PySem.Spec L2
open PyProof.Rows hiding St
def wsL (L : Str) : List Str := Txt.split L " "
theorem part_ne (x : Str) (cuts : List Nat) (k : Nat) : Builtin.Str.partsBetween x cuts k ≠ [] := fun z => by
  have := congrArg List.length z
  unfold Builtin.Str.partsBetween at this
  cases cuts <;> simp at this
theorem part_len (x : Str) (cuts : List Nat) (k : Nat) : (∀ w ∈ Builtin.Str.partsBetween x cuts k, w.length ≤ x.length ∧ ∀ c ∈ TL.tl w, c ∈ TL.tl x) ∧ (Builtin.Str.partsBetween x cuts k).length ≤ cuts.length + 1 := by
  unfold Builtin.Str.partsBetween
  refine ⟨fun w hw => ?_, ?_⟩
  · obtain ⟨⟨i, j⟩, _, rfl⟩ := List.mem_map.mp hw
    refine ⟨?_, fun c hc => ?_⟩
    · show (x.cps.extract i j).size ≤ x.cps.size
      rw [Array.size_extract]
      omega
    · have hc : c ∈ (x.cps.extract i j).toList := hc
      rw [Array.toList_extract] at hc
      exact List.mem_of_mem_drop (List.mem_of_mem_take hc)
  · rw [List.length_map, List.length_zip]
    simp
theorem ws_ne (L : Str) : wsL L ≠ [] := by
  unfold wsL Txt.split
  repeat' split
  all_goals first | exact part_ne _ _ _ | simp
theorem ws_len (L : Str) : (∀ w ∈ wsL L, w.length ≤ L.length ∧ ∀ c ∈ TL.tl w, c ∈ TL.tl L) ∧ (wsL L).length ≤ L.length + 2 := by
  have pl := fun c k => part_len L c k
  unfold wsL Txt.split
  repeat' split
  all_goals first
    | exact ⟨fun w hw => by rw [List.mem_singleton.mp hw]; exact ⟨Nat.le_refl _, fun _ z => z⟩, by simp⟩
    | (refine ⟨(pl _ _).1, Nat.le_trans (pl _ _).2 ?_⟩
       exact Nat.succ_le_succ (StrLaws.occ_length_le _ _ _ _ _))
theorem x_ws (T : Str) (hl : T.length ≤ 1000) : pSplit [.str T, .str " "] = some (.own ((wsL T).map PyData.str)) := by
  have : sizeLine ≥ 2000 := by decide
  exact x_split T " " ⟨by decide +kernel, by omega⟩
/-- what a text with a right first word says -/
structure Res (m len : Nat) (RS R : Nat ⊕ List (Int × Int)) : Prop where
  a : ∀ a, RS = .inl a → R = .inl a
  b : ∀ ps, RS = .inr ps → badB m ps = true → R = .inl len
  c : ∀ ps, RS = .inr ps → badB m ps = false → R = .inr (clo m ps)
theorem res_fin (m len : Nat) (RS : Nat ⊕ List (Int × Int)) : Res m len RS (fin m len RS) := by
  refine ⟨fun a e => by subst e; rfl, fun ps e h => ?_, fun ps e h => ?_⟩
  · subst e
    show (if badB m ps = true then _ else _) = _
    rw [if_pos h]
  · subst e
    show (if badB m ps = true then _ else _) = _
    rw [if_neg (by rw [h]; exact Bool.false_ne_true)]
theorem scan_cons {m k : Nat} {ps : List (Int × Int)} {w : Str} {ws : List Str} : scan m k ps (w :: ws) = match stepP m ps w with
    | none => .inl k
    | some ps' => scan m (k + 1) ps' ws := rfl
theorem read_walk (n m : Nat) (T : Str) (ws : List Str) (m1 : 1 ≤ m) (hm : m ≤ 8) (hw : wsL T = sg m :: ws) (hl : T.length ≤ 1000) (RS R : Nat ⊕ List (Int × Int)) (hS : scan m 1 [] ws = RS) (hR : Res m (ws.length + 1) RS R) :
    (tx.go (n+6) "read_order" [.val (.str T)]).wp (fun r => ∃ qs, R = .inr qs ∧ IsOrd m qs ∧ r = (.val (ordD m qs), [.val (.str T)])) (fun x => ∃ a : Nat, R = .inl a ∧ x = ⟨"NoText", some (.int (a : Int))⟩) := by
  rw [go_at tx (d := d_read_order) rfl]
  have sp := x_ws T hl
  obtain ⟨wl0, wc⟩ := ws_len T
  rw [hw] at sp wl0 wc
  rw [List.length_cons] at wc
  have wl : ∀ w ∈ ws, w.length ≤ 1000000 := fun w hw => by have := (wl0 w (List.mem_cons_of_mem _ hw)).1; omega
  have sp : pSplit [.str T, .str " "] = some (.own (PyData.str (sg m) :: ws.map PyData.str)) := sp
  have w0 : atI (PyData.str (sg m) :: ws.map PyData.str) 0 = some (.str (sg m)) := x_at0
  have wlen : (PyData.str (sg m) :: ws.map PyData.str).length = ws.length + 1 := by rw [List.length_cons, List.length_map]
  have wi : ∀ (j : Nat) (w : Str), ws[j]? = some w → atI (PyData.str (sg m) :: ws.map PyData.str) (1 + (j : Int)) = some (.str w) := fun j p h => by
    have : (1 : Int) + (j : Int) = ((j + 1 : Nat) : Int) := by omega
    rw [this]
    refine x_ixn ?_
    rw [List.getElem?_cons_succ, List.getElem?_map, h]
    rfl
  generalize (PyData.str (sg m) :: ws.map PyData.str) = W at *
  have l1 : pLen [.str (sg m)] = some (.val (.int 1)) := rfl
  have fm : inStr (sg m) "0123456789" = true := fig_in m (by omega)
  have im := intS_sg (a := m) (by omega)
  have tS : isT "str" (.str T) = true := rfl
  have mm1 : (1 : Int) ≤ (m : Int) := by omega
  have mm8 : (m : Int) ≤ 8 := by omega
  have sl : small62 ((ws.length : Int) + 1) = true := small_in (by omega) (by omega)
  have s1 : small62 1 = true := small_in (by omega) (by omega)
  have wl' : (W.length : Int) = ((ws.length + 1 : Nat) : Int) := by rw [wlen]
  have l7 : ws.length ≤ 1000000 := by omega
  have e0 : ∀ L : List (Int × Int), pNe [.list (psD L), .list []] = some (.val (.bool (!decide (L = [])))) := fun L => x_nePL L []
  simp [d_read_order, b_read_order, tS, tyS, sp, w0, l1, fm, im, mm1, mm8, wl', s1, sl, rngD_length, l7]
  refine wp_bind' (wp_bind' (forR_wp (fun j ρ => ∃ ps s4 s6, scan m (j + 1) ps (ws.drop j) = RS ∧ inN m ps ∧ ps.length ≤ j ∧ ρ = [.val (.str T), .own W, .val (.int m), .own (psD ps), s4, .un, s6, .un, .un]) ⟨[], _, _, hS, (fun p h => nomatch h), Nat.le_refl _, rfl⟩ (fun ρ ⟨ps, s4, s6, es, bd, pl, e⟩ => ?_) fun j ρ hj ⟨ps, s4, s6, es, bd, pl, e⟩ => ?_))
  · subst e
    rw [List.drop_length] at es
    have es : RS = .inr ps := es.symm
    have cl := r_closedB (n + 4) (m := m) ps hm bd (few_of hm bd) (.own (psD ps)) (.inl rfl)
    have cll := clo_len hm bd
    have nl := ne_loops (clo m ps)
    have hb := hR.b ps es
    have hc := hR.c ps es
    unfold badB at hb hc
    have ord := clo_isord m1 hm bd
    generalize clo m ps = Q at *
    have l8 : Q.length ≤ 1000000 := by omega
    have lc2 : lcL (lcT (.tp [7, 8]) (dP pEq (osCons (oVar 7) (osCons (oVar 8) (osNil)))) (dVar 7) [7, 8] (tx.go (n + 5))) (psD Q) [.val (.str T), .own W, .val (.int m), .own (psD ps), s4, .val (.tuple (psD Q)), s6, .un, .un] = .ok ((Q.filter fun p => decide (p.1 = p.2)).map fun p => PyData.int p.1, [.val (.str T), .own W, .val (.int m), .own (psD ps), s4, .val (.tuple (psD Q)), s6, .un, .un]) := by
      refine lcL_enc2 (f := lcT (.tp [7, 8]) (dP pEq (osCons (oVar 7) (osCons (oVar 8) (osNil)))) (dVar 7) [7, 8] (tx.go (n + 5))) (ρ := [.val (.str T), .own W, .val (.int m), .own (psD ps), s4, .val (.tuple (psD Q)), s6, .un, .un]) prD (fun q => decide (q.1 = q.2)) (fun q => .int q.1) Q fun q hq => ?_
      by_cases c : q.1 = q.2 <;> simp [prD, c]
    cases ca : Q.any (fun p => decide (p.1 = p.2)) with
    | true =>
      rw [ca, Bool.true_or] at hb
      have hb := hb rfl
      rw [ca] at nl
      generalize ((Q.filter fun p => decide (p.1 = p.2)).map fun p => PyData.int p.1) = V at *
      simp [cl, l8, -x_lcT]
      rw [lc2]
      simp [nl, wl']
      exact ⟨_, hb, rfl⟩
    | false =>
      rw [ca, Bool.false_or] at hb hc
      rw [ca] at nl
      have o := ord ca
      have nx : tx.go (n + 5) "next_pairs" [.val (.tuple [.int m, .tuple (psD Q)])] = .ok (.own (psD (Q.filter (nextB m Q))), [.val (.tuple [.int m, .tuple (psD Q)])]) := r_next_pairs n m Q o
      have ne := x_nePL (Q.filter (nextB m Q)) ps
      generalize ((Q.filter fun p => decide (p.1 = p.2)).map fun p => PyData.int p.1) = V at *
      by_cases c : Q.filter (nextB m Q) = ps
      · rw [decide_eq_true c] at hc ne
        have hc := hc rfl
        generalize psD (Q.filter (nextB m Q)) = Y at *
        simp [cl, l8, -x_lcT]
        rw [lc2]
        simp [nl, nx, ne]
        exact ⟨_, hc, o, rfl⟩
      · rw [decide_eq_false c] at hb ne
        have hb := hb rfl
        generalize psD (Q.filter (nextB m Q)) = Y at *
        simp [cl, l8, -x_lcT]
        rw [lc2]
        simp [nl, nx, ne, wl']
        exact ⟨_, hb, rfl⟩
  · subst e
    obtain ⟨w, hw⟩ : ∃ w, ws[j]? = some w := ⟨ws[j], List.getElem?_eq_getElem hj⟩
    have mw := List.mem_of_getElem? hw
    have wj := wi j w hw
    have dr : ws.drop j = w :: ws.drop (j + 1) := by
      rw [List.drop_eq_getElem_cons hj]
      congr 1
      rw [List.getElem?_eq_getElem hj] at hw
      exact Option.some.inj hw
    rw [dr, scan_cons] at es
    unfold stepP at es
    have pin : tx.go (n + 5) "pair_in" [.val (.str w), .val (.int m)] = .ok (.val (pwD (okW m w)), [.val (.str w), .val (.int m)]) := r_pin (n + 4) m w (wl w mw)
    have ej := e0 ps
    have J : (1 : Int) + (j : Int) = ((j + 1 : Nat) : Int) := by omega
    rw [J] at wj ⊢
    cases hk : okW m w with
    | none =>
      rw [hk] at es pin
      have es := hR.a _ es.symm
      have pin : tx.go (n + 5) "pair_in" [.val (.str w), .val (.int m)] = .ok (.val .none, [.val (.str w), .val (.int m)]) := pin
      have isn : pIsN [.none, .none] = some (.val (.bool true)) := rfl
      simp [wj, pin, isn, -Int.natCast_add]
      exact ⟨_, es, rfl⟩
    | some p =>
      rw [hk] at es pin
      obtain ⟨a, b, rfl, ha, hb⟩ := okW_in hk
      have pin : tx.go (n + 5) "pair_in" [.val (.str w), .val (.int m)] = .ok (.val (.tuple [.int a, .int b]), [.val (.str w), .val (.int m)]) := pin
      have isn : pIsN [.tuple [.int a, .int b], .none] = some (.val (.bool false)) := rfl
      have late := late_of ps ((a : Int), (b : Int))
      have pd : ∀ a b : Int, prD (a, b) = .tuple [.int a, .int b] := fun _ _ => rfl
      rw [pd] at late
      simp only at es
      cases hl : lateB ps ((a : Int), (b : Int)) with
      | true =>
        rw [hl] at es late
        rw [if_pos rfl] at es
        have es := hR.a _ es.symm
        rcases late with ⟨_, z⟩ | ⟨q, h1, h2, h3⟩
        · cases z
        · rw [decide_eq_false h1] at ej
          generalize psD ps = A at *
          obtain ⟨c, d⟩ := q
          rw [pd] at h2 h3
          simp [wj, pin, isn, ej, h2, h3, -Int.natCast_add]
          exact ⟨_, es, rfl⟩
      | false =>
        rw [hl] at es late
        rw [if_neg Bool.false_ne_true] at es
        have pa : psD (ps ++ [((a : Int), (b : Int))]) = psD ps ++ [.tuple [.int a, .int b]] := by simp [prD]
        have ap : mAppend (psD ps) [.tuple [.int a, .int b]] = some (.none, psD ps ++ [.tuple [.int a, .int b]]) := x_app _ _ (by rw [List.length_map]; omega)
        have fin : scan m (j + 1 + 1) (ps ++ [((a : Int), (b : Int))]) (ws.drop (j + 1)) = RS := es
        have bd2 : inN m (ps ++ [((a : Int), (b : Int))]) := fun p hp => by
          rcases List.mem_append.mp hp with hp | hp
          · exact bd p hp
          · rw [List.mem_singleton.mp hp]
            simp only
            omega
        have pl2 : (ps ++ [((a : Int), (b : Int))]).length ≤ j + 1 := by rw [List.length_append, List.length_singleton]; omega
        refine wp_eq (a := (Fl.nx, [.val (.str T), .own W, .val (.int m), .own (psD (ps ++ [((a : Int), (b : Int))])), .val (.int ((j + 1 : Nat) : Int)), .un, .val (.tuple [.int a, .int b]), .un, .un])) ?_ ⟨_, _, _, fin, bd2, pl2, rfl⟩
        rw [pa]
        rcases late with ⟨z, _⟩ | ⟨q, h1, h2, h3⟩
        · rw [decide_eq_true z] at ej
          generalize psD ps = A at *
          simp [wj, pin, isn, ej, ap, -Int.natCast_add]
        · rw [decide_eq_false h1] at ej
          generalize psD ps = A at *
          obtain ⟨c, d⟩ := q
          rw [pd] at h2 h3
          simp [wj, pin, isn, ej, h2, h3, ap, -Int.natCast_add]
end Dn.M06

namespace Dn.M06
open PySem PySem.Spec L2
open PyProof.Rows hiding St
theorem pu_get {ds : List PyData} {i : Nat} {d : PyData} (h : (pairUp (rngD 0 ds.length) ds)[i]? = some d) : ∃ x, ds[i]? = some x ∧ d = .tuple [.int (i : Int), x] := by
  obtain ⟨x, y, h1, h2, rfl⟩ := pairUp_get h
  obtain ⟨_, rfl⟩ := rngD_get h1
  exact ⟨y, h2, by rw [Int.zero_add]⟩
/-! texts whose marks are common -/
def okS (x : Str) : Prop := ∀ c ∈ TL.tl x, c < 200
theorem okS.strOk {x : Str} (h : okS x) : PyData.strOk x = true := by
  have : x.cps.toList.all (fun c => decide (c < 0x110000)) = true := List.all_eq_true.mpr fun c hc => decide_eq_true (Nat.lt_trans (h c hc) (by decide))
  unfold PyData.strOk
  rw [← Array.all_toList]
  exact this
theorem okS_of {x : Str} (h : (TL.tl x).all (fun c => decide (c < 200)) = true) : okS x := fun c hc => of_decide_eq_true (List.all_eq_true.mp h c hc)
theorem any_strs (L : Str) : ∀ ws : List Str, ((ws.map PyData.str).any fun z => PyData.eqv z (.str L)) = decide (L ∈ ws)
  | [] => rfl
  | w :: ws => by
    have e : PyData.eqv (.str w) (.str L) = (w == L) := rfl
    rw [List.map_cons, List.any_cons, any_strs L ws, e]
    by_cases c : w = L
    · subst c
      simp
    · have c' : (w == L) = false := by rw [beq_eq_false_iff_ne]; exact c
      rw [c', Bool.false_or]
      simp [Ne.symm c]
def heads8 : List Str := ["1", "2", "3", "4", "5", "6", "7", "8"]
theorem x_head (L : Str) (hs : okS L) : pNin [.str L, .list [.str "1", .str "2", .str "3", .str "4", .str "5", .str "6", .str "7", .str "8"]] = some (.val (.bool (!decide (L ∈ heads8)))) := by
  have h1 : SeqAt.shaped (.str L) = true := by simp [SeqAt.shaped, PyData.canLay0, PyData.depth, hs.strOk]
  have h2 : SeqAt.shaped (.list (heads8.map PyData.str)) = true := by decide +kernel
  have h3 : anyEq (heads8.map PyData.str) (.str L) = decide (L ∈ heads8) := any_strs L heads8
  show pNin [.str L, .list (heads8.map PyData.str)] = _
  unfold pNin
  simp only [h1, h2, h3, Bool.and_self, if_true]
theorem heads_sg : heads8 = (List.range 8).map fun i => sg (i + 1) := by decide +kernel
theorem heads_mem {L : Str} : L ∈ heads8 ↔ ∃ m, 1 ≤ m ∧ m ≤ 8 ∧ L = sg m := by
  rw [heads_sg, List.mem_map]
  constructor
  · rintro ⟨i, hi, rfl⟩
    have := List.mem_range.mp hi
    exact ⟨i + 1, by omega, by omega, rfl⟩
  · rintro ⟨m, h1, h2, rfl⟩
    exact ⟨m - 1, List.mem_range.mpr (by omega), by rw [Nat.sub_add_cancel h1]⟩
theorem ok_sg {m : Nat} (h : m ≤ 100) : okS (sg m) := fun c hc => by
  have hc : c ∈ [48 + m] := hc
  rw [List.mem_singleton.mp hc]
  omega
theorem nin8 (m : Nat) (h1 : m < 9) (h2 : 1 ≤ m) : pNin [.str (sg m), .list [.str "1", .str "2", .str "3", .str "4", .str "5", .str "6", .str "7", .str "8"]] = some (.val (.bool false)) := by
  rw [x_head _ (ok_sg (by omega)), decide_eq_true (heads_mem.mpr ⟨m, h2, by omega, rfl⟩)]
  rfl
theorem law_read_walk (n m : Nat) (T : Str) (ws : List Str) (m1 : 1 ≤ m) (hm : m ≤ 8) (hw : wsL T = sg m :: ws) (hl : T.length ≤ 1000) (RS R : Nat ⊕ List (Int × Int)) (hS : scan m 1 [] ws = RS) (hR : Res m (ws.length + 1) RS R) :
    ∃ r, tx.go (n+6) "_law_read" [.val (.str T)] = .ok r ∧ ((∃ qs, R = .inr qs ∧ IsOrd m qs ∧ r = (.val (ordD m qs), [.val (.str T)])) ∨ (∃ a : Nat, R = .inl a ∧ r = (.val (.int (a : Int)), [.val (.str T)]))) := by
  rw [go_at tx (d := d__law_read) rfl]
  refine of_wp ?_
  have sp := x_ws T hl
  obtain ⟨wl0, wc⟩ := ws_len T
  rw [hw] at sp wl0 wc
  rw [List.length_cons] at wc
  have wl : ∀ w ∈ ws, w.length ≤ 1000000 := fun w hw => by have := (wl0 w (List.mem_cons_of_mem _ hw)).1; omega
  have sp : pSplit [.str T, .str " "] = some (.own (PyData.str (sg m) :: ws.map PyData.str)) := sp
  have w0 : atI (PyData.str (sg m) :: ws.map PyData.str) 0 = some (.str (sg m)) := x_at0
  have wlen : (PyData.str (sg m) :: ws.map PyData.str).length = ws.length + 1 := by rw [List.length_cons, List.length_map]
  have wi : ∀ (j : Nat) (d : PyData), (PyData.str (sg m) :: ws.map PyData.str)[j+1]? = some d → ∃ w, ws[j]? = some w ∧ d = .str w := fun j d h => by
    rw [List.getElem?_cons_succ, List.getElem?_map] at h
    obtain ⟨w, h1, rfl⟩ := Option.map_eq_some_iff.mp h
    exact ⟨w, h1, rfl⟩
  have ni : pNin [.str (sg m), .list [.str "1", .str "2", .str "3", .str "4", .str "5", .str "6", .str "7", .str "8"]] = some (.val (.bool false)) := nin8 m (by omega) m1
  generalize (PyData.str (sg m) :: ws.map PyData.str) = W at *
  have im := intS_sg (a := m) (by omega)
  have tS : isT "str" (.str T) = true := rfl
  have wl' : (W.length : Int) = ((ws.length + 1 : Nat) : Int) := by rw [wlen]
  have e0 : ∀ L : List (Int × Int), pNe [.list (psD L), .list []] = some (.val (.bool (!decide (L = [])))) := fun L => x_nePL L []
  simp [d__law_read, b__law_read, tS, tyS, sp, w0, ni, im]
  have pul : (pairUp (rngD 0 W.length) W).length = ws.length + 1 := by rw [pairUp_len, rngD_length, Nat.min_self, wlen]
  refine wp_bind' (wp_bind' (forI_wp (fun j ρ => ∃ ps s4 s5 s7, scan m (j - 1 + 1) ps (ws.drop (j - 1)) = RS ∧ inN m ps ∧ ps.length ≤ j ∧ ρ = [.val (.str T), .val (.list W), .val (.int m), .own (psD ps), s4, s5, .un, s7, .un, .un]) ⟨[], _, _, _, hS, (fun p h => nomatch h), Nat.le_refl _, rfl⟩ (fun ρ ⟨ps, s4, s5, s7, es, bd, pl, e⟩ => ?_) fun j d ρ hd ⟨ps, s4, s5, s7, es, bd, pl, e⟩ => ?_))
  · subst e
    rw [pul, Nat.add_sub_cancel, List.drop_length] at es
    rw [pul] at pl
    have es : RS = .inr ps := es.symm
    obtain ⟨_, cl, rfl⟩ := r_law_closedF (n + 4) (m := m) ps hm bd (few_of hm bd)
    have cl : tx.go (n + 5) "_law_closed" [.own (psD ps)] = .ok (.val (.tuple (psD (clo m ps))), [.own (psD ps)]) := cl
    have cll := clo_len hm bd
    have nl := ne_loops (clo m ps)
    have hb := hR.b ps es
    have hc := hR.c ps es
    unfold badB at hb hc
    have ord := clo_isord m1 hm bd
    generalize clo m ps = Q at *
    have l8 : Q.length ≤ 1000000 := by omega
    have lc2 : lcL (lcT (.tp [8, 9]) (dP pEq (osCons (oVar 8) (osCons (oVar 9) (osNil)))) (dVar 8) [8, 9] (tx.go (n + 5))) (psD Q) [.val (.str T), .val (.list W), .val (.int m), .own (psD ps), s4, s5, .val (.tuple (psD Q)), s7, .un, .un] = .ok ((Q.filter fun p => decide (p.1 = p.2)).map fun p => PyData.int p.1, [.val (.str T), .val (.list W), .val (.int m), .own (psD ps), s4, s5, .val (.tuple (psD Q)), s7, .un, .un]) := by
      refine lcL_enc2 (f := lcT (.tp [8, 9]) (dP pEq (osCons (oVar 8) (osCons (oVar 9) (osNil)))) (dVar 8) [8, 9] (tx.go (n + 5))) (ρ := [.val (.str T), .val (.list W), .val (.int m), .own (psD ps), s4, s5, .val (.tuple (psD Q)), s7, .un, .un]) prD (fun q => decide (q.1 = q.2)) (fun q => .int q.1) Q fun q hq => ?_
      by_cases c : q.1 = q.2 <;> simp [prD, c]
    cases ca : Q.any (fun p => decide (p.1 = p.2)) with
    | true =>
      rw [ca, Bool.true_or] at hb
      have hb := hb rfl
      rw [ca] at nl
      generalize ((Q.filter fun p => decide (p.1 = p.2)).map fun p => PyData.int p.1) = V at *
      simp [cl, l8, -x_lcT]
      rw [lc2]
      simp [nl, wl']
      exact .inr ⟨_, hb, rfl⟩
    | false =>
      rw [ca, Bool.false_or] at hb hc
      rw [ca] at nl
      have o := ord ca
      have nx : tx.go (n + 5) "_law_next" [.val (.int m), .val (.tuple (psD Q))] = .ok (.own (psD (Q.filter (nextB m Q))), [.val (.int m), .val (.tuple (psD Q))]) := r_law_next (n + 4) m Q hm (by omega)
      have ne := x_nePL (Q.filter (nextB m Q)) ps
      generalize ((Q.filter fun p => decide (p.1 = p.2)).map fun p => PyData.int p.1) = V at *
      by_cases c : Q.filter (nextB m Q) = ps
      · rw [decide_eq_true c] at hc ne
        have hc := hc rfl
        generalize psD (Q.filter (nextB m Q)) = Y at *
        simp [cl, l8, -x_lcT]
        rw [lc2]
        simp [nl, nx, ne]
        exact ⟨_, hc, o, rfl⟩
      · rw [decide_eq_false c] at hb ne
        have hb := hb rfl
        generalize psD (Q.filter (nextB m Q)) = Y at *
        simp [cl, l8, -x_lcT]
        rw [lc2]
        simp [nl, nx, ne, wl']
        exact .inr ⟨_, hb, rfl⟩
  · subst e
    obtain ⟨x, hx, rfl⟩ := pu_get hd
    cases j with
    | zero =>
      refine wp_eq (a := (Fl.nx, [.val (.str T), .val (.list W), .val (.int m), .own (psD ps), .val (.int 0), .val x, .un, s7, .un, .un])) ?_ ⟨_, _, _, _, es, bd, by omega, rfl⟩
      simp
    | succ j =>
      obtain ⟨w, hw, rfl⟩ := wi j x hx
      have hj : j < ws.length := (List.getElem?_eq_some_iff.mp hw).1
      have mw := List.mem_of_getElem? hw
      have lnw := lenW w (wl w mw)
      have dr : ws.drop j = w :: ws.drop (j + 1) := by
        rw [List.drop_eq_getElem_cons hj]
        congr 1
        rw [List.getElem?_eq_getElem hj] at hw
        exact Option.some.inj hw
      have es : scan m (j + 1) ps (ws.drop j) = RS := es
      rw [dr, scan_cons] at es
      unfold stepP at es
      have ej := e0 ps
      have jp : ((j + 1 : Nat) : Int) > 0 := by omega
      have badW : okW m w = none → R = .inl (j + 1) := fun hk => by
        rw [hk] at es
        exact hR.a _ es.symm
      have late := late_of ps
      cases hr : rawW w with
      | none =>
        have bad := badW (by unfold okW; rw [hr])
        rcases raw_none hr with c | ⟨x, y, z, rfl, c⟩
        · have c' : ¬ (w.length : Int) = 3 := by omega
          simp [lnw, c', jp, -Int.natCast_add]
          exact .inr ⟨_, bad, rfl⟩
        · obtain ⟨i0, i1, i2⟩ := ixS3 x y z
          have l3 := lenS3 x y z
          have ny := neY y
          rcases c with c | ⟨rfl, c⟩ | ⟨rfl, c, c2⟩
          · simp [jp, l3, i1, ny, c, -Int.natCast_add]
            exact .inr ⟨_, bad, rfl⟩
          · have c : inStr ⟨#[x]⟩ "0123456789" = false := c
            simp [jp, l3, i0, i1, ny, c, -Int.natCast_add]
            exact .inr ⟨_, bad, rfl⟩
          · have c : inStr ⟨#[x]⟩ "0123456789" = true := c
            have c2 : inStr ⟨#[z]⟩ "0123456789" = false := c2
            simp [jp, l3, i0, i1, i2, ny, c, c2, -Int.natCast_add]
            exact .inr ⟨_, bad, rfl⟩
      | some ab =>
        obtain ⟨a, b⟩ := ab
        obtain ⟨ha, hb, rfl⟩ := raw_some hr
        obtain ⟨i0, i1, i2⟩ := ixS3 (48 + a) 60 (48 + b)
        have l3 := lenS3 (48 + a) 60 (48 + b)
        have ny := neY 60
        have fa := fig_in a ha
        have fb := fig_in b hb
        have na : pIntS [.str ⟨#[48 + a]⟩] = some (.val (.int (a : Int))) := intS_sg ha
        have nb : pIntS [.str ⟨#[48 + b]⟩] = some (.val (.int (b : Int))) := intS_sg hb
        have mx := x_maxT (a : Int) (b : Int)
        have ok : okW m ⟨#[48 + a, 60, 48 + b]⟩ = if a = b ∨ m ≤ max a b then none else some ((a : Int), (b : Int)) := by unfold okW; rw [hr]
        by_cases c1 : a = b
        · have c1' : (a : Int) = (b : Int) := by omega
          have bad := badW (by rw [ok, if_pos (.inl c1)])
          simp [jp, l3, i0, i1, i2, ny, fa, fb, na, nb, c1', -Int.natCast_add]
          exact .inr ⟨_, bad, rfl⟩
        · have c1' : ¬ (a : Int) = (b : Int) := by omega
          by_cases c2 : m ≤ max a b
          · have c2' : (m : Int) ≤ max (a : Int) (b : Int) := by omega
            have bad := badW (by rw [ok, if_pos (.inr c2)])
            simp [jp, l3, i0, i1, i2, ny, fa, fb, na, nb, c1', c2', mx, -Int.natCast_add]
            exact .inr ⟨_, bad, rfl⟩
          · have c2' : ¬ (m : Int) ≤ max (a : Int) (b : Int) := by omega
            have ok : okW m ⟨#[48 + a, 60, 48 + b]⟩ = some ((a : Int), (b : Int)) := by rw [ok, if_neg (by rintro (z | z); exact c1 z; exact c2 z)]
            rw [ok] at es
            have late := late_of ps ((a : Int), (b : Int))
            have pd : ∀ a b : Int, prD (a, b) = .tuple [.int a, .int b] := fun _ _ => rfl
            rw [pd] at late
            simp only at es
            cases hl : lateB ps ((a : Int), (b : Int)) with
            | true =>
              rw [hl] at es late
              rw [if_pos rfl] at es
              have es := hR.a _ es.symm
              rcases late with ⟨_, z⟩ | ⟨q, h1, h2, h3⟩
              · cases z
              · rw [decide_eq_false h1] at ej
                generalize psD ps = A at *
                obtain ⟨c, d⟩ := q
                rw [pd] at h2 h3
                simp [jp, l3, i0, i1, i2, ny, fa, fb, na, nb, c1', c2', mx, ej, h2, h3, -Int.natCast_add]
                exact .inr ⟨_, es, rfl⟩
            | false =>
              rw [hl] at es late
              rw [if_neg Bool.false_ne_true] at es
              have pa : psD (ps ++ [((a : Int), (b : Int))]) = psD ps ++ [.tuple [.int a, .int b]] := by simp [prD]
              have ap : mAppend (psD ps) [.tuple [.int a, .int b]] = some (.none, psD ps ++ [.tuple [.int a, .int b]]) := x_app _ _ (by rw [List.length_map]; omega)
              have fin : scan m (j + 1 + 1) (ps ++ [((a : Int), (b : Int))]) (ws.drop (j + 1)) = RS := es
              have bd2 : inN m (ps ++ [((a : Int), (b : Int))]) := fun p hp => by
                rcases List.mem_append.mp hp with hp | hp
                · exact bd p hp
                · rw [List.mem_singleton.mp hp]
                  simp only
                  omega
              have pl2 : (ps ++ [((a : Int), (b : Int))]).length ≤ j + 1 + 1 := by rw [List.length_append, List.length_singleton]; omega
              refine wp_eq (a := (Fl.nx, [.val (.str T), .val (.list W), .val (.int m), .own (psD (ps ++ [((a : Int), (b : Int))])), .val (.int ((j + 1 : Nat) : Int)), .val (.str ⟨#[48 + a, 60, 48 + b]⟩), .un, .val (.tuple [.int a, .int b]), .un, .un])) ?_ ⟨_, _, _, _, fin, bd2, pl2, rfl⟩
              rw [pa]
              rcases late with ⟨z, _⟩ | ⟨q, h1, h2, h3⟩
              · rw [decide_eq_true z] at ej
                generalize psD ps = A at *
                simp [jp, l3, i0, i1, i2, ny, fa, fb, na, nb, c1', c2', mx, ej, ap, -Int.natCast_add]
              · rw [decide_eq_false h1] at ej
                generalize psD ps = A at *
                obtain ⟨c, d⟩ := q
                rw [pd] at h2 h3
                simp [jp, l3, i0, i1, i2, ny, fa, fb, na, nb, c1', c2', mx, ej, h2, h3, ap, -Int.natCast_add]
end Dn.M06

namespace Dn.M06
open PySem PySem.Spec L2
open PyProof.Rows hiding St
def kTryA (x : Str) (ρ : Env) : Out (Fl × Env) → Out (Fl × Env)
  | .ok r => .ok r
  | .exc y => if y.cls = x then (match y.arg with
    | some (.int k) => .ok (.ret (.val (.int k)), thin ρ)
    | _ => .stuck) else .stuck
  | .stuck => .stuck
  | .any _ => .stuck
  | .exs _ _ => .stuck
theorem x_dTryA {x : Str} {b : DenS} {Φ : Calls} {ρ : Env} : dTryA x b Φ ρ = kTryA x ρ (b Φ ρ) := by
  unfold dTryA
  generalize b Φ ρ = o
  cases o <;> rfl
@[simp] theorem x_kTryA1 {x : Str} {ρ : Env} {r : Fl × Env} : kTryA x ρ (.ok r) = .ok r := id rfl
theorem x_kTryA2 {x : Str} {ρ : Env} {k : Int} : kTryA x ρ (.exc ⟨x, some (.int k)⟩) = .ok (.ret (.val (.int k)), thin ρ) := by
  show (if x = x then _ else _) = _
  rw [if_pos rfl]
theorem said_of_ok {n : Nat} {d r : PyData} (h : tx.go (n+1) "read_order" [.val d] = .ok (.val r, [.val d])) : tx.go (n+2) "_law_said" [.val d] = .ok (.val r, [.val d]) := by
  rw [go_at tx (d := d__law_said) rfl]
  simp [d__law_said, b__law_said, x_dTryA, h]
theorem said_of_exc {n : Nat} {d : PyData} {k : Int} (h : tx.go (n+1) "read_order" [.val d] = .exc ⟨"NoText", some (.int k)⟩) : tx.go (n+2) "_law_said" [.val d] = .ok (.val (.int k), [.val d]) := by
  rw [go_at tx (d := d__law_said) rfl]
  simp [d__law_said, b__law_said, x_dTryA, h, x_kTryA2]
theorem read_odd (n : Nat) (d : PyData) (h : isT "str" d = false) : tx.go (n+1) "read_order" [.val d] = .exc ⟨"NoText", some (.int 0)⟩ := by
  rw [go_at tx (d := d_read_order) rfl]
  simp [d_read_order, b_read_order, h]
theorem read_head (n : Nat) (T : Str) (hl : T.length ≤ 1000) (w0 : Str) (ws : List Str) (hw : wsL T = w0 :: ws) (h : w0 ∉ heads8) : tx.go (n+1) "read_order" [.val (.str T)] = .exc ⟨"NoText", some (.int 0)⟩ := by
  rw [go_at tx (d := d_read_order) rfl]
  have sp := x_ws T hl
  obtain ⟨wl0, wc⟩ := ws_len T
  rw [hw] at sp wl0
  have wl : w0.length ≤ 1000000 := by have := (wl0 w0 List.mem_cons_self).1; omega
  have sp : pSplit [.str T, .str " "] = some (.own (PyData.str w0 :: ws.map PyData.str)) := sp
  have i0 : atI (PyData.str w0 :: ws.map PyData.str) 0 = some (.str w0) := x_at0
  generalize (PyData.str w0 :: ws.map PyData.str) = W at *
  have tS : isT "str" (.str T) = true := rfl
  have ln := lenW w0 wl
  by_cases c1 : w0.length = 1
  · have ln : pLen [.str w0] = some (.val (.int 1)) := by rw [ln, c1]; rfl
    cases c2 : inStr w0 "0123456789" with
    | false => simp [d_read_order, b_read_order, tS, tyS, sp, i0, ln, c2]
    | true =>
      obtain ⟨d, hd, rfl⟩ := fig_sgS c1 c2
      have im := intS_sg (a := d) hd
      have bad : ¬ (1 ≤ d ∧ d ≤ 8) := fun z => h (heads_mem.mpr ⟨d, z.1, z.2, rfl⟩)
      by_cases c3 : 1 ≤ d
      · have c3' : (1 : Int) ≤ (d : Int) := by omega
        have c4 : ¬ (d : Int) ≤ 8 := by omega
        simp [d_read_order, b_read_order, tS, tyS, sp, i0, ln, c2, im, c3', c4]
      · have c3' : ¬ (1 : Int) ≤ (d : Int) := by omega
        simp [d_read_order, b_read_order, tS, tyS, sp, i0, ln, c2, im, c3']
  · have c1' : ¬ (w0.length : Int) = 1 := by omega
    simp [d_read_order, b_read_order, tS, tyS, sp, i0, ln, c1']
theorem law_head (n : Nat) (T : Str) (hl : T.length ≤ 1000) (hs : okS T) (w0 : Str) (ws : List Str) (hw : wsL T = w0 :: ws) (h : w0 ∉ heads8) : tx.go (n+1) "_law_read" [.val (.str T)] = .ok (.val (.int 0), [.val (.str T)]) := by
  rw [go_at tx (d := d__law_read) rfl]
  have sp := x_ws T hl
  obtain ⟨wl0, wc⟩ := ws_len T
  rw [hw] at sp wl0
  have s0 : okS w0 := fun c hc => hs c ((wl0 w0 List.mem_cons_self).2 c hc)
  have sp : pSplit [.str T, .str " "] = some (.own (PyData.str w0 :: ws.map PyData.str)) := sp
  have i0 : atI (PyData.str w0 :: ws.map PyData.str) 0 = some (.str w0) := x_at0
  generalize (PyData.str w0 :: ws.map PyData.str) = W at *
  have ni := x_head w0 s0
  rw [decide_eq_false h] at ni
  simp [d__law_read, b__law_read, tyS, sp, i0, ni]
theorem rep_nat (k : Nat) (h : k < 2000) : reprOk (.int (k : Int)) = true := by
  obtain ⟨h3, _⟩ := show_nsAll [(k : Int)] (fun n hn => by
    rw [List.mem_singleton.mp hn]
    have := big100
    have : 2000 ≤ 2 ^ 11 := by decide
    have : 2 ^ 11 ≤ 2 ^ 100 := Nat.pow_le_pow_right (by decide) (by decide)
    omega)
  have h3 : PyData.showableAll [.int (k : Int)] = true := h3
  simp only [PyData.showableAll, Bool.and_true] at h3
  exact reprOk_of rfl h3 (by unfold wt; decide)
theorem scan_le {m : Nat} : ∀ {ws : List Str} {k : Nat} {ps : List (Int × Int)} {a : Nat}, scan m k ps ws = .inl a → a < k + ws.length
  | [], _, _, _, h => by cases h
  | w :: ws, k, ps, a, h => by
    rw [scan_cons] at h
    rw [List.length_cons]
    split at h
    · injection h with h
      omega
    · have := scan_le h
      omega
theorem fin_le {m : Nat} {ws : List Str} {a : Nat} (h : fin m (ws.length + 1) (scan m 1 [] ws) = .inl a) : a ≤ ws.length + 1 := by
  cases hs : scan m 1 [] ws with
  | inl b =>
    rw [hs] at h
    injection h with h
    have := scan_le hs
    omega
  | inr ps =>
    rw [hs] at h
    have h : (if badB m ps = true then Sum.inl (ws.length + 1) else Sum.inr (clo m ps)) = Sum.inl a := h
    split at h
    · injection h with h
      omega
    · cases h
/-- a text is read alike -/
theorem alike (n : Nat) (T : Str) (hl : T.length ≤ 1000) (hs : okS T) : ∃ d S, tx.go (n+7) "_law_said" [.val (.str T)] = .ok (.val d, [.val (.str T)]) ∧ tx.go (n+7) "_law_read" [.val (.str T)] = .ok (.val d, [.val (.str T)]) ∧ pRepr [d] = some (.val (.str S)) := by
  obtain ⟨w0, ws, hw⟩ : ∃ w0 ws, wsL T = w0 :: ws := by
    cases h : wsL T with
    | nil => exact absurd h (ws_ne T)
    | cons a b => exact ⟨a, b, rfl⟩
  by_cases hh : w0 ∈ heads8
  · obtain ⟨m, m1, hm, rfl⟩ := heads_mem.mp hh
    have hR := res_fin m (ws.length + 1) (scan m 1 [] ws)
    have a1 := read_walk n m T ws m1 hm hw hl _ _ rfl hR
    obtain ⟨r, a2, a3⟩ := law_read_walk (n + 1) m T ws m1 hm hw hl _ _ rfl hR
    have a2 : tx.go (n + 7) "_law_read" [.val (.str T)] = .ok r := a2
    generalize hR' : fin m (ws.length + 1) (scan m 1 [] ws) = R at *
    cases hx : tx.go (n + 6) "read_order" [.val (.str T)] with
    | ok q =>
      rw [hx] at a1
      obtain ⟨qs, e1, o, rfl⟩ := a1
      rcases a3 with ⟨qs', e2, _, rfl⟩ | ⟨a, e2, _⟩
      · rw [e1] at e2
        injection e2 with e2
        subst e2
        exact ⟨_, _, said_of_ok (n := n + 5) hx, a2, x_repr (rep_isord o)⟩
      · rw [e1] at e2
        cases e2
    | exc x =>
      rw [hx] at a1
      obtain ⟨a, e1, rfl⟩ := a1
      rcases a3 with ⟨qs', e2, _, rfl⟩ | ⟨a', e2, rfl⟩
      · rw [e1] at e2
        cases e2
      · rw [e1] at e2
        injection e2 with e2
        subst e2
        have := fin_le (hR'.trans e1)
        have := (ws_len T).2
        rw [hw, List.length_cons] at this
        exact ⟨_, _, said_of_exc (n := n + 5) hx, a2, x_repr (rep_nat a (by omega))⟩
    | stuck => rw [hx] at a1; exact a1.elim
    | any g => rw [hx] at a1; exact a1.elim
    | exs x ρ => rw [hx] at a1; exact a1.elim
  · exact ⟨_, _, said_of_exc (n := n + 5) (read_head (n + 5) T hl w0 ws hw hh), law_head (n + 6) T hl hs w0 ws hw hh, x_repr (rep_nat 0 (by decide))⟩
end Dn.M06

namespace Dn.M06
open PySem PySem.Spec L2
open PyProof.Rows hiding St
theorem joinL_mem {S : List Nat} {c : Nat} : ∀ {parts : List (List Nat)}, c ∈ TL.joinL S parts → c ∈ S ∨ ∃ p ∈ parts, c ∈ p
  | [], h => nomatch h
  | [p], h => .inr ⟨p, List.mem_cons_self, h⟩
  | p :: q :: r, h => by
    have h : c ∈ p ++ (S ++ TL.joinL S (q :: r)) := h
    rcases List.mem_append.mp h with h | h
    · exact .inr ⟨p, List.mem_cons_self, h⟩
    · rcases List.mem_append.mp h with h | h
      · exact .inl h
      · rcases joinL_mem (parts := q :: r) h with h | ⟨x, hx, h⟩
        · exact .inl h
        · exact .inr ⟨x, List.mem_cons_of_mem _ hx, h⟩
theorem okS.join {s : Str} {xs : List Str} (h : okS s) (hx : ∀ x ∈ xs, okS x) : okS (Txt.join s xs) := by
  intro c hc
  rw [TL.join_eq, TL.tl_join] at hc
  rcases joinL_mem hc with z | ⟨p, hp, z⟩
  · exact h c z
  · obtain ⟨x, hx', rfl⟩ := List.mem_map.mp hp
    exact hx x hx' c z
theorem okS_sp : okS " " := by
  have : TL.tl (" " : Str) = [32] := by decide +kernel
  intro c hc
  rw [this] at hc
  rw [List.mem_singleton.mp hc]
  decide
theorem sum_len {ss : List Str} {c : Nat} (h : ∀ s ∈ ss, s.length ≤ c) : (ss.map (·.length)).sum ≤ c * ss.length := by
  induction ss with
  | nil => simp
  | cons s ss ih =>
    have h1 := h s List.mem_cons_self
    have h2 := ih fun x hx => h x (List.mem_cons_of_mem _ hx)
    rw [List.map_cons, List.sum_cons, List.length_cons, Nat.mul_succ]
    omega
theorem join_len (s : Str) {ss : List Str} {c : Nat} (h : ∀ x ∈ ss, x.length ≤ c) : (Txt.join s ss).length ≤ (c + s.length) * ss.length := by
  have h1 := joinL_len (TL.tl s) (ss.map TL.tl)
  have h2 := sum_len h
  have h3 : ((ss.map TL.tl).map List.length) = ss.map (·.length) := by
    rw [List.map_map]
    exact List.map_congr_left fun x _ => (TL.len_tl x).symm
  rw [h3, List.length_map, ← TL.len_tl] at h1
  rw [TL.join_eq, TL.len_tl, TL.tl_join, Nat.add_mul, Nat.mul_comm s.length]
  omega
theorem x_slcTn (ds : List PyData) (i : Nat) (h : i ≤ ds.length) : pSlc (.list ds) none (some (i : Int)) = some (.own (ds.take i)) := by
  have e1 : HT.sIx ds.length 0 none = 0 := by
    unfold HT.sIx
    simp
  have e2 : HT.sIx ds.length ds.length (some (i : Int)) = i := by
    rw [HT.sIx_nat]
    omega
  show some (Slot.own (cutD _ _ _)) = _
  unfold cutD
  rw [e1, e2, List.drop_zero, Nat.sub_zero]
theorem x_slcDn (ds : List PyData) (i : Nat) (h : i < ds.length) : pSlc (.list ds) (some ((i : Int) + 1)) none = some (.own (ds.drop (i + 1))) := by
  have e1 : HT.sIx ds.length 0 (some ((i : Int) + 1)) = i + 1 := by
    rw [show (i : Int) + 1 = ((i + 1 : Nat) : Int) by omega, HT.sIx_nat]
    omega
  have e2 : HT.sIx ds.length ds.length none = ds.length := by
    unfold HT.sIx
    simp
  show some (Slot.own (cutD _ _ _)) = _
  unfold cutD
  rw [e1, e2, List.take_of_length_le (by rw [List.length_drop]; omega)]
theorem slcD0 (ds : List PyData) (i : Nat) (h : i ≤ ds.length) : pSlc (.list ds) (some (i : Int)) none = some (.own (ds.drop i)) := by
  have e1 : HT.sIx ds.length 0 (some (i : Int)) = i := by
    rw [HT.sIx_nat]
    omega
  have e2 : HT.sIx ds.length ds.length none = ds.length := by
    unfold HT.sIx
    simp
  show some (Slot.own (cutD _ _ _)) = _
  unfold cutD
  rw [e1, e2, List.take_of_length_le (by rw [List.length_drop]; omega)]
theorem okS.app {x y : Str} (h : okS x) (h' : okS y) : okS (x ++ y) := fun c hc => by
  rw [TL.tl_append] at hc
  exact (List.mem_append.mp hc).elim (h c) (h' c)
theorem joined {ys : List Str} (h : ∀ y ∈ ys, y.length ≤ 10 ∧ okS y) (hl : ys.length ≤ 80) : pJoin [.str " ", .list (ys.map PyData.str)] = some (.val (.str (Txt.join " " ys))) ∧ (Txt.join " " ys).length ≤ 1000 ∧ okS (Txt.join " " ys) := by
  have l1 : (" " : Str).length = 1 := by decide +kernel
  have := sum_len fun y hy => (h y hy).1
  refine ⟨x_join " " ys (by rw [l1]; omega), ?_, .join okS_sp fun y hy => (h y hy).2⟩
  have := join_len " " (ss := ys) (c := 10) fun y hy => (h y hy).1
  rw [l1] at this
  omega
theorem x_sortS (xs : List Str) (hs : ∀ x ∈ xs, okS x) (hl : xs.length ≤ 1000000) : ∃ ys : List Str, pSortS [.list (xs.map PyData.str)] = some (.own (ys.map PyData.str)) ∧ ys.Perm xs := by
  refine ⟨xs.mergeSort (PySem.W.dataLe false PyData.str), ?_, List.mergeSort_perm _ _⟩
  rw [pSortS_list]
  have ok : sortOk (xs.map PyData.str) = true := by
    unfold sortOk
    rw [Bool.and_eq_true, Bool.or_eq_true]
    refine ⟨List.all_eq_true.mpr fun d hd => ?_, .inr (List.all_eq_true.mpr fun d hd => ?_)⟩
    · obtain ⟨x, hx, rfl⟩ := List.mem_map.mp hd
      rw [Bool.and_eq_true]
      refine ⟨by simp [SeqAt.shaped, PyData.canLay0, PyData.depth, (hs x hx).strOk], List.all_eq_true.mpr fun e he => ?_⟩
      obtain ⟨y, _, rfl⟩ := List.mem_map.mp he
      rfl
    · obtain ⟨x, hx, rfl⟩ := List.mem_map.mp hd
      rfl
  have m : (xs.mergeSort (PySem.W.dataLe false PyData.str)).map PyData.str = sortD (xs.map PyData.str) :=
    List.map_mergeSort (r := PySem.W.dataLe false PyData.str) (s := PySem.W.dataLe false id) (f := PyData.str) (l := xs) (fun a _ b _ => rfl)
  rw [m]
  show (if (sortOk (xs.map PyData.str) && decide ((xs.map PyData.str).length ≤ 1000000)) = true then some (Slot.own (sortD (xs.map PyData.str))) else none) = _
  rw [ok, List.length_map, decide_eq_true hl]
  rfl
theorem cut_ok (T : Str) (lo hi : Option Int) : (cutS T lo hi).length ≤ T.length ∧ (okS T → okS (cutS T lo hi)) := by
  unfold cutS
  refine ⟨?_, fun h c hc => ?_⟩
  · show ((T.cps.toList.drop _).take _).toArray.size ≤ T.cps.size
    rw [List.size_toArray, List.length_take, List.length_drop, Array.length_toList]
    omega
  · have hc : c ∈ ((T.cps.toList.drop (HT.sIx T.length 0 lo)).take (HT.sIx T.length T.length hi - HT.sIx T.length 0 lo)).toArray.toList := hc
    rw [List.toList_toArray] at hc
    exact h c (List.mem_of_mem_drop (List.mem_of_mem_take hc))
def signs : Str := "0123456789< >\n9a-.8"
theorem sign_at (i : Int) (h0 : 0 ≤ i) (h1 : i < 19) : ∃ c : Nat, pIx [.str signs, .int i] = some (.val (.str ⟨#[c]⟩)) ∧ c < 200 := by
  have e : signs.cps.toList = [48, 49, 50, 51, 52, 53, 54, 55, 56, 57, 60, 32, 62, 10, 57, 97, 45, 46, 56] := by decide +kernel
  have l : signs.length = 19 := by decide +kernel
  obtain ⟨d, hd, hm⟩ : ∃ d, atI signs.cps.toList i = some d ∧ d < 200 := by
    rw [e]
    obtain ⟨k, rfl⟩ := Int.eq_ofNat_of_zero_le h0
    have : ∀ k : Nat, k < 19 → ∃ d, atI [48, 49, 50, 51, 52, 53, 54, 55, 56, 57, 60, 32, 62, 10, 57, 97, 45, 46, 56] (k : Int) = some d ∧ d < 200 := by
      intro k hk
      have c : k = 0 ∨ k = 1 ∨ k = 2 ∨ k = 3 ∨ k = 4 ∨ k = 5 ∨ k = 6 ∨ k = 7 ∨ k = 8 ∨ k = 9 ∨ k = 10 ∨ k = 11 ∨ k = 12 ∨ k = 13 ∨ k = 14 ∨ k = 15 ∨ k = 16 ∨ k = 17 ∨ k = 18 := by omega
      rcases c with rfl | rfl | rfl | rfl | rfl | rfl | rfl | rfl | rfl | rfl | rfl | rfl | rfl | rfl | rfl | rfl | rfl | rfl | rfl <;> exact ⟨_, rfl, by decide⟩
    exact this k (by omega)
  refine ⟨d, ?_, hm⟩
  show (if signs.length ≤ 1000000 then (atI signs.cps.toList i).map fun c => Slot.val (.str ⟨#[c]⟩) else none) = _
  rw [if_pos (by rw [l]; decide), hd]
  rfl
theorem r_bent (n : Nat) (b : Int) (T : Str) (hl : T.length ≤ 300) (hs : okS T) (hW : (wsL T).length ≤ 60) (kw : ∀ w ∈ wsL T, w.length ≤ 10) : ∃ T' b', tx.go (n+2) "_law_bent" [.own [.int b], .val (.str T)] = .ok (.val (.str T'), [.own [.int b'], .val (.str T)]) ∧ T'.length ≤ 1000 ∧ okS T' := by
  rw [go_at tx (d := d__law_bent) rfl]
  have sp := x_ws T (by omega)
  have W0 : 1 ≤ (wsL T).length := by
    have := ws_ne T
    cases h : wsL T with
    | nil => exact absurd h this
    | cons a b => rw [List.length_cons]; omega
  have kw : ∀ w ∈ wsL T, w.length ≤ 10 ∧ okS w := fun w hw => ⟨kw w hw, fun c hc => hs c (((ws_len T).1 w hw).2 c hc)⟩
  generalize wsL T = W at *
  have ln : pLen [.list (W.map PyData.str)] = some (.val (.int (W.length : Int))) := by
    show some (Slot.val (.int (((W.map PyData.str).length : Nat) : Int))) = _
    rw [List.length_map]
  have lT : pLen [.str T] = some (.val (.int (T.length : Int))) := lenW T (by omega)
  have aT : pAdd [.int (T.length : Int), .int 1] = some (.val (.int ((T.length : Int) + 1))) := rfl
  have t1 := r_take n b W.length (by omega) (by omega)
  have z1 := Int.emod_nonneg b (b := (W.length : Int)) (by omega)
  have z2 := Int.emod_lt_of_pos b (b := (W.length : Int)) (by omega)
  obtain ⟨i, ei, hi⟩ : ∃ i : Nat, b % (W.length : Int) = (i : Int) ∧ i < W.length := ⟨(b % (W.length : Int)).toNat, by omega, by omega⟩
  rw [ei] at t1
  generalize b / (W.length : Int) = b1 at *
  have t2 := r_take n b1 ((T.length : Int) + 1) (by omega) (by omega)
  have z3 := Int.emod_nonneg b1 (b := (T.length : Int) + 1) (by omega)
  obtain ⟨j, ej⟩ : ∃ j : Nat, b1 % ((T.length : Int) + 1) = (j : Int) := ⟨(b1 % ((T.length : Int) + 1)).toNat, by omega⟩
  rw [ej] at t2
  generalize b1 / ((T.length : Int) + 1) = b2 at *
  have t3 := r_take n b2 19 (by decide) (by decide)
  obtain ⟨c, ix, hc⟩ := sign_at (b2 % 19) (by omega) (by omega)
  generalize b2 / 19 = b3 at *
  generalize b2 % 19 = si at *
  have t4 := r_take n b3 9 (by decide) (by decide)
  obtain ⟨x, ex, hx⟩ : ∃ x : Nat, b3 % 9 = (x : Int) ∧ x < 9 := ⟨(b3 % 9).toNat, by omega, by omega⟩
  rw [ex] at t4
  generalize b3 / 9 = b4 at *
  have t5 := r_take n b4 9 (by decide) (by decide)
  obtain ⟨y, ey, hy⟩ : ∃ y : Nat, b4 % 9 = (y : Int) ∧ y < 9 := ⟨(b4 % 9).toNat, by omega, by omega⟩
  rw [ey] at t5
  generalize b4 / 9 = b5 at *
  have t6 := r_take n b5 9 (by decide) (by decide)
  have hk : b5 % 9 = 0 ∨ b5 % 9 = 1 ∨ b5 % 9 = 2 ∨ b5 % 9 = 3 ∨ b5 % 9 = 4 ∨ b5 % 9 = 5 ∨ b5 % 9 = 6 ∨ b5 % 9 = 7 ∨ b5 % 9 = 8 := by omega
  generalize b5 / 9 = b6 at *
  generalize b5 % 9 = k at *
  clear z1 z2 z3 ei ej ex ey
  have ix : pIx [.str "0123456789< >\n9a-.8", .int si] = some (.val (.str ⟨#[c]⟩)) := ix
  have cut : ∀ lo hi, pSlc (.str T) lo hi = some (.val (.str (cutS T lo hi))) := fun lo hi => if_pos (by omega)
  have la : ∀ x y : Str, (x ++ y).length = x.length + y.length := fun x y => by rw [TL.len_tl, TL.tl_append, List.length_append, ← TL.len_tl, ← TL.len_tl]
  have oc : okS ⟨#[c]⟩ := fun z hz => by
    have hz : z ∈ [c] := hz
    rw [List.mem_singleton.mp hz]
    exact hc
  have l0 : ("" : Str).length = 0 := by decide +kernel
  have lc : (⟨#[c]⟩ : Str).length = 1 := rfl
  have oe : okS "" := okS_of (by decide +kernel)
  have putT : ∀ (S : Str) (hi : Option Int), S.length ≤ 1 → okS S → pAdd [.str (cutS T none (some (j : Int))), .str S] = some (.val (.str (cutS T none (some (j : Int)) ++ S))) ∧ pAdd [.str (cutS T none (some (j : Int)) ++ S), .str (cutS T hi none)] = some (.val (.str (cutS T none (some (j : Int)) ++ S ++ cutS T hi none))) ∧ (cutS T none (some (j : Int)) ++ S ++ cutS T hi none).length ≤ 1000 ∧ okS (cutS T none (some (j : Int)) ++ S ++ cutS T hi none) := fun S hi h1 h2 => by
    have g1 := cut_ok T none (some (j : Int))
    have g2 := cut_ok T hi none
    exact ⟨addS (by omega), addS (by rw [la]; omega), by rw [la, la]; omega, ((g1.2 hs).app h2).app (g2.2 hs)⟩
  rcases hk with rfl | rfl | rfl | hk
  · obtain ⟨p1, p2, p3, p4⟩ := putT ⟨#[c]⟩ (some (j : Int)) (by omega) oc
    refine ⟨_, b6, ?_, p3, p4⟩
    have c1 := cut none (some (j : Int))
    have c2 := cut (some (j : Int)) none
    generalize cutS T none (some (j : Int)) ++ ⟨#[c]⟩ ++ cutS T (some (j : Int)) none = Z at *
    generalize cutS T none (some (j : Int)) ++ ⟨#[c]⟩ = Y at *
    generalize cutS T none (some (j : Int)) = X at *
    generalize cutS T (some (j : Int)) none = X2 at *
    generalize W.map PyData.str = WD at *
    simp [d__law_bent, b__law_bent, tyS, sp, ln, lT, aT, t1, t2, t3, t4, t5, t6, ix, c1, c2, p1, p2, pInt]
  · obtain ⟨p1, p2, p3, p4⟩ := putT "" (some ((j : Int) + 1)) (by omega) oe
    refine ⟨_, b6, ?_, p3, p4⟩
    have c1 := cut none (some (j : Int))
    have c2 := cut (some ((j : Int) + 1)) none
    generalize cutS T none (some (j : Int)) ++ "" ++ cutS T (some ((j : Int) + 1)) none = Z at *
    generalize cutS T none (some (j : Int)) ++ "" = Y at *
    generalize cutS T none (some (j : Int)) = X at *
    generalize cutS T (some ((j : Int) + 1)) none = X2 at *
    generalize W.map PyData.str = WD at *
    simp [d__law_bent, b__law_bent, tyS, sp, ln, lT, aT, t1, t2, t3, t4, t5, t6, ix, c1, c2, p1, p2, pInt]
  · obtain ⟨p1, p2, p3, p4⟩ := putT ⟨#[c]⟩ (some ((j : Int) + 1)) (by omega) oc
    refine ⟨_, b6, ?_, p3, p4⟩
    have c1 := cut none (some (j : Int))
    have c2 := cut (some ((j : Int) + 1)) none
    generalize cutS T none (some (j : Int)) ++ ⟨#[c]⟩ ++ cutS T (some ((j : Int) + 1)) none = Z at *
    generalize cutS T none (some (j : Int)) ++ ⟨#[c]⟩ = Y at *
    generalize cutS T none (some (j : Int)) = X at *
    generalize cutS T (some ((j : Int) + 1)) none = X2 at *
    generalize W.map PyData.str = WD at *
    simp [d__law_bent, b__law_bent, tyS, sp, ln, lT, aT, t1, t2, t3, t4, t5, t6, ix, c1, c2, p1, p2, pInt]
  · have nlt : ¬ k < 3 := by omega
    have lm : (W.map PyData.str).length = W.length := List.length_map _
    obtain ⟨w, hw⟩ : ∃ w, W[i]? = some w := ⟨W[i], List.getElem?_eq_getElem hi⟩
    have vw := kw w (List.mem_of_getElem? hw)
    have i0 : atI (W.map PyData.str) (i : Int) = some (.str w) := x_ixn (by rw [List.getElem?_map, hw]; rfl)
    have s1 := x_slcTn (W.map PyData.str) i (by omega)
    have s2 := x_slcDn (W.map PyData.str) i (by omega)
    have s3 := slcD0 (W.map PyData.str) i (by omega)
    have s4 : pSlc (.list (W.map PyData.str)) none (some 1) = _ := x_slcTn (W.map PyData.str) 1 (by omega)
    have s5 : pSlc (.list (W.map PyData.str)) (some 1) none = _ := slcD0 (W.map PyData.str) 1 (by omega)
    rw [← List.map_take] at s1 s4
    rw [← List.map_drop] at s2 s3 s5
    have wT : ∀ j, ∀ y ∈ W.take j, y.length ≤ 10 ∧ okS y := fun j y hy => kw y (List.mem_of_mem_take hy)
    have wD : ∀ j, ∀ y ∈ W.drop j, y.length ≤ 10 ∧ okS y := fun j y hy => kw y (List.mem_of_mem_drop hy)
    have nT : ∀ j, (W.take j).length ≤ j := fun j => by rw [List.length_take]; omega
    have nD : ∀ j, (W.drop j).length ≤ W.length - j := fun j => by rw [List.length_drop]; omega
    have add : ∀ A B : List Str, A.length ≤ 100 → B.length ≤ 100 → pAdd [.list (A.map PyData.str), .list (B.map PyData.str)] = some (.own ((A ++ B).map PyData.str)) := fun A B h1 h2 => by
      rw [addL (by rw [List.length_map, List.length_map]; omega), List.map_append]
    have both : ∀ X Y : List Str, (∀ y ∈ X, y.length ≤ 10 ∧ okS y) → (∀ y ∈ Y, y.length ≤ 10 ∧ okS y) → ∀ y ∈ X ++ Y, y.length ≤ 10 ∧ okS y := fun X Y h h' y hy => (List.mem_append.mp hy).elim (h y) (h' y)
    -- the pair
    have sx := strI_sg (a := x) (by omega)
    have sy := strI_sg (a := y) (by omega)
    have a1 := addW1 (a := x) (by omega)
    have a2 := addW2 (a := x) (b := y) (by omega) (by omega)
    have vp : (⟨#[48 + x, 60, 48 + y]⟩ : Str).length ≤ 10 ∧ okS ⟨#[48 + x, 60, 48 + y]⟩ := ⟨by show 3 ≤ 10; decide, fun z hz => by
      have hz : z ∈ [48 + x, 60, 48 + y] := hz
      simp only [List.mem_cons, List.not_mem_nil, or_false] at hz
      omega⟩
    generalize (⟨#[48 + x, 60, 48 + y]⟩ : Str) = P at *
    have v1 : ∀ y ∈ [P], y.length ≤ 10 ∧ okS y := fun y hy => by rw [List.mem_singleton.mp hy]; exact vp
    have v2 : ∀ y ∈ [w], y.length ≤ 10 ∧ okS y := fun y hy => by rw [List.mem_singleton.mp hy]; exact vw
    -- the lists
    have ap0 := add (W.take i) (W.drop (i + 1)) (by have := nT i; omega) (by have := nD (i + 1); omega)
    have ap1 : pAdd [.list ((W.take i).map PyData.str), .list [.str w]] = some (.own ((W.take i ++ [w]).map PyData.str)) := add (W.take i) [w] (by have := nT i; omega) (by simp)
    have ap2 := add (W.take i ++ [w]) (W.drop i) (by have := nT i; rw [List.length_append, List.length_singleton]; omega) (by have := nD i; omega)
    have rv : ((W.drop i).map PyData.str).reverse = (W.drop i).reverse.map PyData.str := List.map_reverse.symm
    have ap3 := add (W.take i) (W.drop i).reverse (by have := nT i; omega) (by have := nD i; rw [List.length_reverse]; omega)
    rw [← rv] at ap3
    have ap4 : pAdd [.list (W.map PyData.str), .list [.str P]] = some (.own ((W ++ [P]).map PyData.str)) := add W [P] (by omega) (by simp)
    have ap5 : pAdd [.list ((W.drop 1).map PyData.str), .list [.str P]] = some (.own ((W.drop 1 ++ [P]).map PyData.str)) := add (W.drop 1) [P] (by have := nD 1; omega) (by simp)
    have vA := both W [P] kw v1
    have vB := both (W.drop 1) [P] (wD 1) v1
    have lA : (W ++ [P]).length = W.length + 1 := by rw [List.length_append, List.length_singleton]
    have lB : (W.drop 1 ++ [P]).length ≤ W.length + 1 := by have := nD 1; rw [List.length_append, List.length_singleton]; omega
    obtain ⟨S1, q1, m1⟩ := x_sortS (W ++ [P]) (fun x hx => (vA x hx).2) (by omega)
    obtain ⟨S2, q2, m2⟩ := x_sortS (W.drop 1 ++ [P]) (fun x hx => (vB x hx).2) (by omega)
    have k1 : ∀ y ∈ S1, y.length ≤ 10 ∧ okS y := fun y hy => vA y (m1.mem_iff.mp hy)
    have k2 : ∀ y ∈ S2, y.length ≤ 10 ∧ okS y := fun y hy => vB y (m2.mem_iff.mp hy)
    have n1 := m1.length_eq
    have n2 := m2.length_eq
    have ap6 := add (W.take 1) S2 (by have := nT 1; omega) (by omega)
    obtain ⟨j0, g0, o0⟩ := joined (ys := W.take i ++ W.drop (i + 1)) (both _ _ (wT i) (wD (i + 1))) (by have := nT i; have := nD (i + 1); rw [List.length_append]; omega)
    obtain ⟨j1, g1, o1⟩ := joined (ys := W.take i ++ [w] ++ W.drop i) (both _ _ (both _ _ (wT i) v2) (wD i)) (by have := nT i; have := nD i; rw [List.length_append, List.length_append, List.length_singleton]; omega)
    obtain ⟨j2, g2, o2⟩ := joined (ys := W.take i ++ (W.drop i).reverse) (both _ _ (wT i) (fun y hy => wD i y (List.mem_reverse.mp hy))) (by have := nT i; have := nD i; rw [List.length_append, List.length_reverse]; omega)
    obtain ⟨j3, g3, o3⟩ := joined (ys := S1) k1 (by omega)
    obtain ⟨j4, g4, o4⟩ := joined (ys := W ++ [P]) vA (by omega)
    obtain ⟨j5, g5, o5⟩ := joined (ys := W.take 1 ++ S2) (both _ _ (wT 1) k2) (by have := nT 1; rw [List.length_append]; omega)
    clear wT wD nT nD add both v1 v2 vA vB lA lB k1 k2 n1 n2 m1 m2 vp vw cut la oc l0 lc oe putT
    generalize (W.take i ++ W.drop (i + 1)).map PyData.str = X0 at *
    generalize (W.take i ++ [w] ++ W.drop i).map PyData.str = X1 at *
    generalize (W.take i ++ (W.drop i).reverse).map PyData.str = X2 at *
    generalize (W.take 1 ++ S2).map PyData.str = X5 at *
    generalize (W ++ [P]).map PyData.str = X4 at *
    generalize (W.drop 1 ++ [P]).map PyData.str = X6 at *
    generalize (W.take i ++ [w]).map PyData.str = X7 at *
    generalize S1.map PyData.str = X3 at *
    generalize S2.map PyData.str = X8 at *
    generalize Txt.join " " (W.take i ++ W.drop (i + 1)) = T0 at *
    generalize Txt.join " " (W.take i ++ [w] ++ W.drop i) = T1 at *
    generalize Txt.join " " (W.take i ++ (W.drop i).reverse) = T2 at *
    generalize Txt.join " " S1 = T3 at *
    generalize Txt.join " " (W ++ [P]) = T4 at *
    generalize Txt.join " " (W.take 1 ++ S2) = T5 at *
    generalize (W.take i).map PyData.str = Y1 at *
    generalize (W.take 1).map PyData.str = Y2 at *
    generalize (W.drop (i + 1)).map PyData.str = Y3 at *
    generalize (W.drop i).map PyData.str = Y4 at *
    generalize (W.drop 1).map PyData.str = Y5 at *
    generalize W.map PyData.str = WD at *
    clear rv
    generalize hRv : Y4.reverse = Y6 at *
    have six : pAdd [.list [.list X0, .list X1, .list X2], .list [.list X3, .list X4, .list X5]] = some (.own [.list X0, .list X1, .list X2, .list X3, .list X4, .list X5]) := addL (by show 3 + 3 ≤ 1000000; decide)
    have e0 : atI [PyData.list X0, .list X1, .list X2, .list X3, .list X4, .list X5] 0 = some (.list X0) := rfl
    have e1 : atI [PyData.list X0, .list X1, .list X2, .list X3, .list X4, .list X5] 1 = some (.list X1) := rfl
    have e2 : atI [PyData.list X0, .list X1, .list X2, .list X3, .list X4, .list X5] 2 = some (.list X2) := rfl
    have e3 : atI [PyData.list X0, .list X1, .list X2, .list X3, .list X4, .list X5] 3 = some (.list X3) := rfl
    have e4 : atI [PyData.list X0, .list X1, .list X2, .list X3, .list X4, .list X5] 4 = some (.list X4) := rfl
    have e5 : atI [PyData.list X0, .list X1, .list X2, .list X3, .list X4, .list X5] 5 = some (.list X5) := rfl
    rcases hk with rfl | rfl | rfl | rfl | rfl | rfl
    · refine ⟨T0, b6, ?_, g0, o0⟩
      simp [d__law_bent, b__law_bent, tyS, sp, ln, lT, aT, t1, t2, t3, t4, t5, t6, ix, sx, sy, a1, a2, s1, s2, s3, s4, s5, i0, ap0, ap1, ap2, ap3, ap4, ap5, ap6, q1, q2, hRv, six, e0, j0]
    · refine ⟨T1, b6, ?_, g1, o1⟩
      simp [d__law_bent, b__law_bent, tyS, sp, ln, lT, aT, t1, t2, t3, t4, t5, t6, ix, sx, sy, a1, a2, s1, s2, s3, s4, s5, i0, ap0, ap1, ap2, ap3, ap4, ap5, ap6, q1, q2, hRv, six, e1, j1]
    · refine ⟨T2, b6, ?_, g2, o2⟩
      simp [d__law_bent, b__law_bent, tyS, sp, ln, lT, aT, t1, t2, t3, t4, t5, t6, ix, sx, sy, a1, a2, s1, s2, s3, s4, s5, i0, ap0, ap1, ap2, ap3, ap4, ap5, ap6, q1, q2, hRv, six, e2, j2]
    · refine ⟨T3, b6, ?_, g3, o3⟩
      simp [d__law_bent, b__law_bent, tyS, sp, ln, lT, aT, t1, t2, t3, t4, t5, t6, ix, sx, sy, a1, a2, s1, s2, s3, s4, s5, i0, ap0, ap1, ap2, ap3, ap4, ap5, ap6, q1, q2, hRv, six, e3, j3]
    · refine ⟨T4, b6, ?_, g4, o4⟩
      simp [d__law_bent, b__law_bent, tyS, sp, ln, lT, aT, t1, t2, t3, t4, t5, t6, ix, sx, sy, a1, a2, s1, s2, s3, s4, s5, i0, ap0, ap1, ap2, ap3, ap4, ap5, ap6, q1, q2, hRv, six, e4, j4]
    · refine ⟨T5, b6, ?_, g5, o5⟩
      simp [d__law_bent, b__law_bent, tyS, sp, ln, lT, aT, t1, t2, t3, t4, t5, t6, ix, sx, sy, a1, a2, s1, s2, s3, s4, s5, i0, ap0, ap1, ap2, ap3, ap4, ap5, ap6, q1, q2, hRv, six, e5, j5]
end Dn.M06

namespace Dn.M06
open PySem PySem.Spec L2
open PyProof.Rows hiding St
theorem ws_text (m : Nat) (hm : m ≤ 8) (D : List (Int × Int)) (bd : ∀ p ∈ D, 0 ≤ p.1 ∧ p.1 < (m : Int) ∧ 0 ≤ p.2 ∧ p.2 < (m : Int)) : wsL (Txt.join " " (wordsO m D)) = wordsO m D := by
  have et : TL.tl (" " : Str) = [32] := by decide +kernel
  exact TL.split_join (y := " ") (s := 32) (S := []) et (by decide +kernel) (parts := wordsO m D) (by unfold wordsO; simp) fun p hp => by
    unfold wordsO at hp
    rcases List.mem_cons.mp hp with rfl | hp
    · show 32 ∉ [48 + m]
      rw [List.mem_singleton]
      omega
    · obtain ⟨q, hq, rfl⟩ := List.mem_map.mp hp
      show 32 ∉ [48 + q.1.toNat, 60, 48 + q.2.toNat]
      simp only [List.mem_cons, List.not_mem_nil, or_false]
      omega
theorem words_ok {m : Nat} (hm : m ≤ 8) {D : List (Int × Int)} (bd : ∀ p ∈ D, 0 ≤ p.1 ∧ p.1 < (m : Int) ∧ 0 ≤ p.2 ∧ p.2 < (m : Int)) : ∀ w ∈ wordsO m D, w.length ≤ 3 ∧ okS w := fun w hw => by
  unfold wordsO at hw
  rcases List.mem_cons.mp hw with rfl | hw
  · exact ⟨by show 1 ≤ 3; decide, ok_sg (by omega)⟩
  · obtain ⟨q, hq, rfl⟩ := List.mem_map.mp hw
    have := bd q hq
    refine ⟨by show 3 ≤ 3; decide, fun c hc => ?_⟩
    have hc : c ∈ [48 + q.1.toNat, 60, 48 + q.2.toNat] := hc
    simp only [List.mem_cons, List.not_mem_nil, or_false] at hc
    omega
theorem shown0 : (PyData.int ((0 : Nat) : Int)).shown = "0" := by decide +kernel
theorem rep0 : pRepr [.int 0] = some (.val (.str "0")) := by
  have := x_repr (rep_nat 0 (by decide))
  rw [shown0] at this
  exact this
theorem main_go (n : Nat) (ns : List Int) : (tx.go (n + 8) "law" [.scr ns]).wp (fun r => r.1 = .val (.bool true)) fun _ => False := by
  rw [go_at tx (d := d_law) rfl]
  obtain ⟨w1, w2⟩ := x_maxmin1 ns.length 6
  have w1 : pMin [.int (ns.length : Int), .int 6] = some (.val (.int (min ns.length 6 : Nat))) := w1
  have t4 : max 1 (min ns.length 6) ≤ 6 := by omega
  generalize max 1 (min ns.length 6) = t at w2 t4
  generalize min ns.length 6 = t' at w1 w2
  have st : small62 t = true := small_in (by omega) (by omega)
  simp [d_law, b_law, w1, w2, st]
  refine wp_bind' (wp_bind' (forR_wp (fun i ρ => ∃ s1 s2 s3 s4 s5 s6, ρ = [.scr ns, s1, s2, s3, s4, s5, s6, .un, .un]) ⟨_, _, _, _, _, _, rfl⟩ (fun ρ ⟨s1, s2, s3, s4, s5, s6, e⟩ => ?_) fun i ρ hi ⟨s1, s2, s3, s4, s5, s6, e⟩ => ?_))
  · subst e; simp
  · subst e
    obtain ⟨⟨v, o⟩, e1, b, h1, h2⟩ := r_box (n + 5) ns i
    simp only at h1 h2
    subst h1
    subst h2
    obtain ⟨r1, e2, b', m, ps, hr1, o1, mm⟩ := r_law_order (n + 4) b 6 (by decide) (by decide)
    have e2 : tx.go (n + 7) "_law_order" [.own [.int b], .val (.int 6)] = .ok r1 := e2
    subst hr1
    have hm : m ≤ 8 := by omega
    have ol := o1.len
    have nl := List.length_filter_le (nextB m ps) ps
    have nx : tx.go (n + 7) "_law_next" [.val (.int m), .val (.tuple (psD ps))] = .ok (.own (psD (ps.filter (nextB m ps))), [.val (.int m), .val (.tuple (psD ps))]) := r_law_next (n + 6) m ps hm (by omega)
    have bd : ∀ p ∈ ps.filter (nextB m ps), 0 ≤ p.1 ∧ p.1 < (m : Int) ∧ 0 ≤ p.2 ∧ p.2 < (m : Int) := fun p hp => o1.bd p (List.mem_filter.mp hp).1
    have i0 := x_ord0 (m : Int) ps
    have i1 := x_ord1 (m : Int) ps
    generalize ordD (m : Int) ps = O at *
    generalize psD ps = PS at *
    generalize ps.filter (nextB m ps) = D at *
    have s1 := strI_sg (a := m) (by omega)
    have ad : pAdd [.list [.str (sg m)], .list (D.map (fun p => PyData.str (wordP p)))] = some (.own (PyData.str (sg m) :: D.map (fun p => PyData.str (wordP p)))) := addL (A := [.str (sg m)]) (by rw [List.length_map, List.length_singleton]; omega)
    have wok := words_ok hm bd
    have ww := ws_text m hm D bd
    have wlen : (wordsO m D).length = D.length + 1 := by unfold wordsO; rw [List.length_cons, List.length_map]
    have jn := x_join " " (wordsO m D) (by rw [len_wordsO]; omega)
    have jl := join_len " " (ss := wordsO m D) (c := 3) fun y hy => (wok y hy).1
    have ls : (" " : Str).length = 1 := by decide +kernel
    have tk : okS (Txt.join " " (wordsO m D)) := okS.join okS_sp fun y hy => (wok y hy).2
    rw [← words_data] at jn
    have kw : ∀ w ∈ wsL (Txt.join " " (wordsO m D)), w.length ≤ 10 := fun w hw => by
      rw [ww] at hw
      have := (wok w hw).1
      omega
    have wl6 : (wsL (Txt.join " " (wordsO m D))).length ≤ 60 := by rw [ww, wlen]; omega
    have tl : (Txt.join " " (wordsO m D)).length ≤ 300 := by rw [ls, wlen] at jl; omega
    clear ww wok jl wlen
    generalize Txt.join " " (wordsO m D) = T at *
    obtain ⟨B1, b1, be1, bl1, bk1⟩ := r_bent (n + 5) b' T tl tk wl6 kw
    obtain ⟨B2, b2, be2, bl2, bk2⟩ := r_bent (n + 5) b1 T tl tk wl6 kw
    obtain ⟨B3, b3, be3, bl3, bk3⟩ := r_bent (n + 5) b2 T tl tk wl6 kw
    have la : ∀ x y : Str, (x ++ y).length = x.length + y.length := fun x y => by rw [TL.len_tl, TL.tl_append, List.length_append, ← TL.len_tl, ← TL.len_tl]
    have pa : pAdd [.str T, .str " "] = some (.val (.str (T ++ " "))) := addS (by omega)
    have bl4 : (T ++ " ").length ≤ 1000 := by rw [la]; omega
    have bk4 : okS (T ++ " ") := tk.app okS_sp
    generalize T ++ " " = B4 at *
    have all : ∀ d ∈ [PyData.str T, .str B1, .str B2, .str B3, .str "", .str B4], ∃ d' S, tx.go (n+7) "_law_said" [.val d] = .ok (.val d', [.val d]) ∧ tx.go (n+7) "_law_read" [.val d] = .ok (.val d', [.val d]) ∧ pRepr [d'] = some (.val (.str S)) := by
      intro d hd
      simp only [List.mem_cons, List.not_mem_nil, or_false] at hd
      rcases hd with rfl | rfl | rfl | rfl | rfl | rfl
      · exact alike n T (by omega) tk
      · exact alike n B1 bl1 bk1
      · exact alike n B2 bl2 bk2
      · exact alike n B3 bl3 bk3
      · exact alike n "" (by decide +kernel) (okS_of (by decide +kernel))
      · exact alike n B4 bl4 bk4
    obtain ⟨_, eo, b4, od, rfl, hod⟩ := r_oddA (n + 5) b3
    have eo : tx.go (n + 7) "_law_odd" [.own [.int b3]] = .ok (.val od, [.own [.int b4]]) := eo
    have sL : tx.go (n + 7) "_law_said" [.val (.list [.str T])] = .ok (.val (.int 0), [.val (.list [.str T])]) := said_of_exc (n := n + 5) (read_odd (n + 5) _ rfl)
    have n0 : pNe [.str "0", .str "0"] = some (.val (.bool false)) := x_neSame "0"
    have D6 : D.length ≤ 1000000 := by omega
    simp [e1, e2, i0, i1, s1, nx, D6]
    rw [lcL_enc prD (fun p => PyData.str (wordP p)) D fun q hq => ?_]
    · generalize D.map (fun p => PyData.str (wordP p)) = W at *
      simp [ad, jn, tyS, be1, be2, be3, pa]
      refine wp_bind' (forI_wp (fun j ρ => ∃ s5, ρ = [.scr ns, .val (.int (i : Int)), .own [.int b3], .val O, .val (.str T), s5, s6, .un, .un]) ⟨_, rfl⟩ (fun ρ ⟨s5, e⟩ => ?_) fun j d ρ hd ⟨s5, e⟩ => ?_)
      · subst e
        cases ti : isT "str" od with
        | true =>
          simp [eo, ti, sL, rep0, n0]
        | false =>
          have sO : tx.go (n + 7) "_law_said" [.val od] = .ok (.val (.int 0), [.val od]) := said_of_exc (n := n + 5) (read_odd (n + 5) _ ti)
          simp [eo, ti, sL, sO, rep0, n0]
      · subst e
        obtain ⟨d', S, a1, a2, a3⟩ := all d (List.mem_of_getElem? hd)
        have nS := x_neSame S
        refine wp_eq (a := (Fl.nx, [.scr ns, .val (.int (i : Int)), .own [.int b3], .val O, .val (.str T), .val d, s6, .un, .un])) ?_ ⟨_, rfl⟩
        simp [a1, a2, a3, nS]
    · obtain ⟨a, b, rfl, _, _, ha, hb⟩ := pr_nat hm (bd q hq)
      have sa := strI_sg ha
      have sb := strI_sg hb
      have a1 := addW1 ha
      have a2 := addW2 ha hb
      simp [prD, sa, sb, a1, a2, wordP]
theorem main_ok (ns : List Int) (h : ns.length ≤ 63) : (tx.run 40 "law" [.scr ns]).wp (fun r => r.1 = .val (.bool true)) fun _ => False := by
  rw [← go_run]
  exact main_go 32 ns
end Dn.M06

open PySem PySem.W PyProof.Rows
set_option maxHeartbeats 0 in
theorem PySem.Challenge.cw_rowsorder_k06_texts_refused_holds : PySem.Challenge.rw_rowsorder_k06_texts_refused.Holds := by
  w_on; o_law; k_head; (case hw => w_witness2)
  k_fill
  refine Dn.walkG (l := PySem.Challenge.rw_rowsorder_k06_texts_refused) (n := 63) (k := 42) (x := "script") (C := fun w => L2N.CX (PySem.Challenge.rw_rowsorder_k06_texts_refused).prog w) (sp := fun w => Dn.M06.kLaw _) rfl (by decide) rfl ⟨rfl, by decide, by decide⟩ (fun w h Y => PySem.W.kIn_of Y) ?F (fun _ _ a ns hl _ hS => ⟨a, ns, rfl, hS, hl, fun _ => rfl⟩) (fun _ _ _ _ _ h => Dn.noExc h)
  case F =>
    intro w mg fa h KX G hmg
    refine' Dn.M06.all_mk KX G hmg ?fact_a0 ?fact_l0 ?fact_c0 ?fact_k0 ?fact_a1 ?fact_l1 ?fact_c1 ?fact_k1 ?fact_a2 ?fact_l2 ?fact_c2 ?fact_k2 ?fact_a3 ?fact_l3 ?fact_c3 ?fact_k3 ?fact_a4 ?fact_l4 ?fact_c4 ?fact_k4 ?fact_a5 ?fact_l5 ?fact_c5 ?fact_k5 ?fact_a6 ?fact_l6 ?fact_c6 ?fact_k6 ?fact_a7 ?fact_l7 ?fact_c7 ?fact_k7 ?fact_a8 ?fact_l8 ?fact_c8 ?fact_k8 ?fact_a9 ?fact_l9 ?fact_c9 ?fact_k9 ?fact_a10 ?fact_l10 ?fact_c10 ?fact_k10 ?fact_a11 ?fact_l11 ?fact_c11 ?fact_k11 ?fact_a12 ?fact_l12 ?fact_c12 ?fact_k12 ?fact_a13 ?fact_l13 ?fact_c13 ?fact_k13 ?fact_a14 ?fact_l14 ?fact_c14 ?fact_k14 ?fact_a15 ?fact_l15 ?fact_c15 ?fact_k15 ?fact_a16 ?fact_l16 ?fact_c16 ?fact_k16 ?fact_a17 ?fact_l17 ?fact_c17 ?fact_k17 ?fact_a18 ?fact_l18 ?fact_c18 ?fact_k18 ?fact_a19 ?fact_l19 ?fact_c19 ?fact_k19 ?fact_a20 ?fact_l20 ?fact_c20 ?fact_k20 ?fact_a21 ?fact_l21 ?fact_c21 ?fact_k21 ?fact_a22 ?fact_l22 ?fact_c22 ?fact_k22 ?fact_a23 ?fact_l23 ?fact_c23 ?fact_k23 ?fact_a24 ?fact_l24 ?fact_c24 ?fact_k24 ?fact_a25 ?fact_l25 ?fact_c25 ?fact_k25 ?fact_a26 ?fact_l26 ?fact_c26 ?fact_k26 ?fact_i26 ?fact_g0 ?fact_h0 ?fact_z0 ?fact_z1 ?fact_z2 ?fact_z3 ?fact_z4 ?fact_z5 ?fact_z6 ?fact_z7 ?fact_z8 ?fact_z9 ?fact_z10 ?fact_z11 ?fact_z12 ?fact_z13 ?fact_z14 ?fact_z15 ?fact_z16 ?fact_z17 ?fact_z18 ?fact_e0 ?fact_e1 ?fact_e2 ?fact_e3 ?fact_e4 ?fact_e5 ?fact_e6 ?fact_e7 ?fact_e8 ?fact_e9 ?fact_e10 ?fact_e11 ?fact_e12 ?fact_hn ?fact_ht ?fact_bs0 ?fact_dd0 ?fact_icRankError ?fact_tyRankError ?fact_icNoOrder ?fact_tyNoOrder ?fact_icNoMany ?fact_tyNoMany ?fact_icNoPairs ?fact_tyNoPairs ?fact_icRing ?fact_tyRing ?fact_icNoThing ?fact_tyNoThing ?fact_icNoRow ?fact_tyNoRow ?fact_icNoRows ?fact_tyNoRows ?fact_icNoNumber ?fact_tyNoNumber ?fact_icNoChain ?fact_tyNoChain ?fact_icNoTurns ?fact_tyNoTurns ?fact_icNoPoints ?fact_tyNoPoints ?fact_icNoText ?fact_tyNoText ?fact_okNoOrder ?fact_kpNoOrder ?fact_tpNoOrder ?fact_hgNoOrder ?fact_hkNoOrder ?fact_hsNoOrder ?fact_hdNoOrder ?fact_haNoOrder ?fact_hmNoOrder ?fact_qNoOrderRankError ?fact_qNoOrderNoOrder ?fact_qNoOrderNoMany ?fact_qNoOrderNoPairs ?fact_qNoOrderRing ?fact_qNoOrderNoThing ?fact_qNoOrderNoRow ?fact_qNoOrderNoRows ?fact_qNoOrderNoNumber ?fact_qNoOrderNoChain ?fact_qNoOrderNoTurns ?fact_qNoOrderNoPoints ?fact_qNoOrderNoText ?fact_qNoOrderself ?fact_qNoOrderVE ?fact_lkNoText ?fact_rfNoText ?fact_saNoText ?fact_noNoText ?fact_kpNoText ?fact_tpNoText ?fact_hgNoText ?fact_hkNoText ?fact_hsNoText ?fact_hdNoText ?fact_haNoText ?fact_hmNoText ?fact_qNoTextRankError ?fact_qNoTextNoOrder ?fact_qNoTextNoMany ?fact_qNoTextNoPairs ?fact_qNoTextRing ?fact_qNoTextNoThing ?fact_qNoTextNoRow ?fact_qNoTextNoRows ?fact_qNoTextNoNumber ?fact_qNoTextNoChain ?fact_qNoTextNoTurns ?fact_qNoTextNoPoints ?fact_qNoTextNoText ?fact_qNoTextself ?fact_qNoTextVE ?fact_rg ?fact_rr ?fact_rc (Dn.M06.main_ok)
    (case fact_a0 => k_is)
    (case fact_l0 => k_is)
    (case fact_c0 => k_is)
    (case fact_k0 => k_is)
    (case fact_a1 => k_is)
    (case fact_l1 => k_is)
    (case fact_c1 => k_is)
    (case fact_k1 => k_is)
    (case fact_a2 => k_is)
    (case fact_l2 => k_is)
    (case fact_c2 => k_is)
    (case fact_k2 => k_is)
    (case fact_a3 => k_is)
    (case fact_l3 => k_is)
    (case fact_c3 => k_is)
    (case fact_k3 => k_is)
    (case fact_a4 => k_is)
    (case fact_l4 => k_is)
    (case fact_c4 => k_is)
    (case fact_k4 => k_is)
    (case fact_a5 => k_is)
    (case fact_l5 => k_is)
    (case fact_c5 => k_is)
    (case fact_k5 => k_is)
    (case fact_a6 => k_is)
    (case fact_l6 => k_is)
    (case fact_c6 => k_is)
    (case fact_k6 => k_is)
    (case fact_a7 => k_is)
    (case fact_l7 => k_is)
    (case fact_c7 => k_is)
    (case fact_k7 => k_is)
    (case fact_a8 => k_is)
    (case fact_l8 => k_is)
    (case fact_c8 => k_is)
    (case fact_k8 => k_is)
    (case fact_a9 => k_is)
    (case fact_l9 => k_is)
    (case fact_c9 => k_is)
    (case fact_k9 => k_is)
    (case fact_a10 => k_is)
    (case fact_l10 => k_is)
    (case fact_c10 => k_is)
    (case fact_k10 => k_is)
    (case fact_a11 => k_is)
    (case fact_l11 => k_is)
    (case fact_c11 => k_is)
    (case fact_k11 => k_is)
    (case fact_a12 => k_is)
    (case fact_l12 => k_is)
    (case fact_c12 => k_is)
    (case fact_k12 => k_is)
    (case fact_a13 => k_is)
    (case fact_l13 => k_is)
    (case fact_c13 => k_is)
    (case fact_k13 => k_is)
    (case fact_a14 => k_is)
    (case fact_l14 => k_is)
    (case fact_c14 => k_is)
    (case fact_k14 => k_is)
    (case fact_a15 => k_is)
    (case fact_l15 => k_is)
    (case fact_c15 => k_is)
    (case fact_k15 => k_is)
    (case fact_a16 => k_is)
    (case fact_l16 => k_is)
    (case fact_c16 => k_is)
    (case fact_k16 => k_is)
    (case fact_a17 => k_is)
    (case fact_l17 => k_is)
    (case fact_c17 => k_is)
    (case fact_k17 => k_is)
    (case fact_a18 => k_is)
    (case fact_l18 => k_is)
    (case fact_c18 => k_is)
    (case fact_k18 => k_is)
    (case fact_a19 => k_is)
    (case fact_l19 => k_is)
    (case fact_c19 => k_is)
    (case fact_k19 => k_is)
    (case fact_a20 => k_is)
    (case fact_l20 => k_is)
    (case fact_c20 => k_is)
    (case fact_k20 => k_is)
    (case fact_a21 => k_is)
    (case fact_l21 => k_is)
    (case fact_c21 => k_is)
    (case fact_k21 => k_is)
    (case fact_a22 => k_is)
    (case fact_l22 => k_is)
    (case fact_c22 => k_is)
    (case fact_k22 => k_is)
    (case fact_a23 => k_is)
    (case fact_l23 => k_is)
    (case fact_c23 => k_is)
    (case fact_k23 => k_is)
    (case fact_a24 => k_is)
    (case fact_l24 => k_is)
    (case fact_c24 => k_is)
    (case fact_k24 => k_is)
    (case fact_a25 => k_is)
    (case fact_l25 => k_is)
    (case fact_c25 => k_is)
    (case fact_k25 => k_is)
    (case fact_g0 => k_is)
    (case fact_h0 => k_is)
    (case fact_z0 => k_is)
    (case fact_z1 => k_is)
    (case fact_z2 => k_is)
    (case fact_z3 => k_is)
    (case fact_z4 => k_is)
    (case fact_z5 => k_is)
    (case fact_z6 => k_is)
    (case fact_z7 => k_is)
    (case fact_z8 => k_is)
    (case fact_z9 => k_is)
    (case fact_z10 => k_is)
    (case fact_z11 => k_is)
    (case fact_z12 => k_is)
    (case fact_z13 => k_is)
    (case fact_z14 => k_is)
    (case fact_z15 => k_is)
    (case fact_z16 => k_is)
    (case fact_z17 => k_is)
    (case fact_z18 => k_is)
    (case fact_e0 => k_is)
    (case fact_e1 => k_is)
    (case fact_e2 => k_is)
    (case fact_e3 => k_is)
    (case fact_e4 => k_is)
    (case fact_e5 => k_is)
    (case fact_e6 => k_is)
    (case fact_e7 => k_is)
    (case fact_e8 => k_is)
    (case fact_e9 => k_is)
    (case fact_e10 => k_is)
    (case fact_e11 => k_is)
    (case fact_e12 => k_is)
    (case fact_a26 => k_is)
    (case fact_l26 => k_is)
    (case fact_c26 => k_is)
    (case fact_k26 => k_is)
    (case fact_i26 => k_is)
    (case fact_hn => k_is)
    (case fact_ht => k_is)
    (case fact_bs0 => k_is)
    (case fact_dd0 => k_is)
    (case fact_icRankError => k_is)
    (case fact_tyRankError => k_is)
    (case fact_icNoOrder => k_is)
    (case fact_tyNoOrder => k_is)
    (case fact_icNoMany => k_is)
    (case fact_tyNoMany => k_is)
    (case fact_icNoPairs => k_is)
    (case fact_tyNoPairs => k_is)
    (case fact_icRing => k_is)
    (case fact_tyRing => k_is)
    (case fact_icNoThing => k_is)
    (case fact_tyNoThing => k_is)
    (case fact_icNoRow => k_is)
    (case fact_tyNoRow => k_is)
    (case fact_icNoRows => k_is)
    (case fact_tyNoRows => k_is)
    (case fact_icNoNumber => k_is)
    (case fact_tyNoNumber => k_is)
    (case fact_icNoChain => k_is)
    (case fact_tyNoChain => k_is)
    (case fact_icNoTurns => k_is)
    (case fact_tyNoTurns => k_is)
    (case fact_icNoPoints => k_is)
    (case fact_tyNoPoints => k_is)
    (case fact_icNoText => k_is)
    (case fact_tyNoText => k_is)
    (case fact_okNoOrder => k_exc)
    (case fact_kpNoOrder => k_is)
    (case fact_tpNoOrder => k_is)
    (case fact_hgNoOrder => k_is)
    (case fact_hkNoOrder => k_is)
    (case fact_hsNoOrder => k_is)
    (case fact_hdNoOrder => k_is)
    (case fact_haNoOrder => k_is)
    (case fact_hmNoOrder => k_is)
    (case fact_qNoOrderRankError => k_is)
    (case fact_qNoOrderNoOrder => k_is)
    (case fact_qNoOrderNoMany => k_is)
    (case fact_qNoOrderNoPairs => k_is)
    (case fact_qNoOrderRing => k_is)
    (case fact_qNoOrderNoThing => k_is)
    (case fact_qNoOrderNoRow => k_is)
    (case fact_qNoOrderNoRows => k_is)
    (case fact_qNoOrderNoNumber => k_is)
    (case fact_qNoOrderNoChain => k_is)
    (case fact_qNoOrderNoTurns => k_is)
    (case fact_qNoOrderNoPoints => k_is)
    (case fact_qNoOrderNoText => k_is)
    (case fact_qNoOrderself => k_is)
    (case fact_qNoOrderVE => k_is)
    (case fact_lkNoText => k_is)
    (case fact_rfNoText => (first | rfl | decide))
    (case fact_saNoText => k_is)
    (case fact_noNoText => k_is)
    (case fact_kpNoText => k_is)
    (case fact_tpNoText => k_is)
    (case fact_hgNoText => k_is)
    (case fact_hkNoText => k_is)
    (case fact_hsNoText => k_is)
    (case fact_hdNoText => k_is)
    (case fact_haNoText => k_is)
    (case fact_hmNoText => k_is)
    (case fact_qNoTextRankError => k_is)
    (case fact_qNoTextNoOrder => k_is)
    (case fact_qNoTextNoMany => k_is)
    (case fact_qNoTextNoPairs => k_is)
    (case fact_qNoTextRing => k_is)
    (case fact_qNoTextNoThing => k_is)
    (case fact_qNoTextNoRow => k_is)
    (case fact_qNoTextNoRows => k_is)
    (case fact_qNoTextNoNumber => k_is)
    (case fact_qNoTextNoChain => k_is)
    (case fact_qNoTextNoTurns => k_is)
    (case fact_qNoTextNoPoints => k_is)
    (case fact_qNoTextNoText => k_is)
    (case fact_qNoTextself => k_is)
    (case fact_qNoTextVE => k_is)
    (case fact_rg => k_is)
    (case fact_rr => k_is)
    (case fact_rc => k_is)

